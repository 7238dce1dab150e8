import PyProof.Rows.All
import Wide.All
import OpenK.AllK
import Wide.FinOn
import HandS.ForMost
import HandS.Wide
import HandS.IsInst
import HandS.TupAny
import HandS.Gcd
import HandS.SortInts
import HandS.Deep
import HandS.Codes
import HandS.SetFor
import KE.SortData
import KE.DataCmp
import HandS.Conv
import HandS.Style
import KE.DatumOrd
import PyProof.ZipIter
import HandS.Zip
import HandS.Zip0
import HandS.Rev
import KE.GoesEnumKw
import PySem.Challenge.RW_lockwork_k44_whole_fair_keys_counted
set_option Elab.async false
set_option linter.all false
set_option maxRecDepth 100000
set_option maxHeartbeats 4000000
set_option autoImplicit false
/-! Pv: plain data over the hand layer. D: data; Rep: a value holds data; SR: a def's slots hold an En. -/
namespace Pv
open PySem PySem.Spec L2

inductive D where
  | non | bl (b : Bool) | int (i : Int) | str (s : Str) | lst (xs : List D) | tup (xs : List D)
  | dk (kvs : List (Key × D)) | dt (kvs : List (List Key × D)) | pool

def HO.isD : HO → Bool
  | .dK _ => true
  | .dT _ => true
  | _ => false

mutual
inductive Rep (K : PySem.W.Frag) (P : Option Addr) (G : Hp) : V → D → Prop
  | non : Rep K P G .non .non
  | bl (b : Bool) : Rep K P G (.bl b) (.bl b)
  | int (i : Int) : Rep K P G (.int i) (.int i)
  | str (x : Str) : Rep K P G (.str x) (.str x)
  | pool {p : Addr} : P = some p → Rep K P G (.ref p) .pool
  | tup {a : Addr} {xs : List V} {ds : List D} : SqT K G a xs → RepL K P G xs ds → Rep K P G (.ref a) (.tup ds)
  | obj {a : Addr} {o : HO} {d : D} : G a = some o → Cont K P G o d → Rep K P G (.ref a) d
  | frz {a : Addr} {o : HO} {ob : Obj} {d : D} : G a = some (.frz ob o) → HO.isD o = true → Cont K P G o d → Rep K P G (.ref a) d
inductive Cont (K : PySem.W.Frag) (P : Option Addr) (G : Hp) : HO → D → Prop
  | lst {xs : List V} {ds : List D} : RepL K P G xs ds → Cont K P G (.lst xs) (.lst ds)
  | dk {kvs : List (Key × V)} {ds : List (Key × D)} : RepK K P G kvs ds → Cont K P G (.dK kvs) (.dk ds)
  | dt {kvs : List (List Key × V)} {ds : List (List Key × D)} : RepT K P G kvs ds → Cont K P G (.dT kvs) (.dt ds)
inductive RepL (K : PySem.W.Frag) (P : Option Addr) (G : Hp) : List V → List D → Prop
  | nil : RepL K P G [] []
  | cons {v : V} {vs : List V} {d : D} {ds : List D} : Rep K P G v d → RepL K P G vs ds → RepL K P G (v :: vs) (d :: ds)
inductive RepK (K : PySem.W.Frag) (P : Option Addr) (G : Hp) : List (Key × V) → List (Key × D) → Prop
  | nil : RepK K P G [] []
  | cons {k : Key} {v : V} {vs : List (Key × V)} {d : D} {ds : List (Key × D)} : Rep K P G v d → RepK K P G vs ds → RepK K P G ((k, v) :: vs) ((k, d) :: ds)
inductive RepT (K : PySem.W.Frag) (P : Option Addr) (G : Hp) : List (List Key × V) → List (List Key × D) → Prop
  | nil : RepT K P G [] []
  | cons {k : List Key} {v : V} {vs : List (List Key × V)} {d : D} {ds : List (List Key × D)} : Rep K P G v d → RepT K P G vs ds → RepT K P G ((k, v) :: vs) ((k, d) :: ds)
end

/-- a later view: grown, dicts locked or unlocked -/
def Vw (G G' : Hp) : Prop := ∀ a o, G a = some o → G' a = some o ∨ (HO.isD o = true ∧ ∃ ob, G' a = some (.frz ob o)) ∨ (∃ ob u, o = .frz ob u ∧ HO.isD u = true ∧ G' a = some u)
theorem Vw.of {G G' : Hp} (h : ∀ a o, G a = some o → G' a = some o) : Vw G G' := fun a o e => .inl (h a o e)
section
variable {K : PySem.W.Frag} {P : Option Addr} {G G' : Hp}
theorem sqT_vw {a : Addr} {xs : List V} (w : Vw G G') (h : SqT K G a xs) : SqT K G' a xs := by
  rcases h with (h | ⟨o, h⟩) | h
  · rcases w _ _ h with e | ⟨e, _⟩ | ⟨_, _, e, _⟩
    · exact .inl (.inl e)
    · cases e
    · cases e
  · rcases w _ _ h with e | ⟨e, _⟩ | ⟨ob, u, e, e2, _⟩
    · exact .inl (.inr ⟨_, e⟩)
    · cases e
    · cases e
      cases e2
  · exact .inr h
theorem Rep.vw (w : Vw G G') {v : V} {d : D} (h : Rep K P G v d) : Rep K P G' v d :=
  Rep.rec (motive_1 := fun v d _ => Rep K P G' v d) (motive_2 := fun o d _ => Cont K P G' o d) (motive_3 := fun v d _ => RepL K P G' v d) (motive_4 := fun v d _ => RepK K P G' v d) (motive_5 := fun v d _ => RepT K P G' v d)
    .non .bl .int .str .pool (fun h _ i => .tup (sqT_vw w h) i)
    (fun {a o d} h c i => by
      rcases w _ _ h with e | ⟨e, ob, e2⟩ | ⟨ob, u, e, e2, e3⟩
      · exact .obj e i
      · exact .frz e2 e i
      · subst e
        cases c)
    (fun {a o ob d} h z c i => by
      rcases w _ _ h with e | ⟨e, _⟩ | ⟨ob, u, e, e2, e3⟩
      · exact .frz e z i
      · cases e
      · cases e
        exact .obj e3 i)
    (fun _ i => .lst i) (fun _ i => .dk i) (fun _ i => .dt i) .nil (fun _ _ i j => .cons i j) .nil (fun _ _ i j => .cons i j) .nil (fun _ _ i j => .cons i j) h
theorem RepL.vw (w : Vw G G') : ∀ {v : List V} {d : List D}, RepL K P G v d → RepL K P G' v d
  | _, _, .nil => .nil
  | _, _, .cons h t => .cons (h.vw w) (RepL.vw w t)
theorem RepK.vw (w : Vw G G') : ∀ {v : List (Key × V)} {d : List (Key × D)}, RepK K P G v d → RepK K P G' v d
  | _, _, .nil => .nil
  | _, _, .cons h t => .cons (h.vw w) (RepK.vw w t)
theorem RepT.vw (w : Vw G G') : ∀ {v : List (List Key × V)} {d : List (List Key × D)}, RepT K P G v d → RepT K P G' v d
  | _, _, .nil => .nil
  | _, _, .cons h t => .cons (h.vw w) (RepT.vw w t)
theorem Cont.vw (w : Vw G G') {o : HO} {d : D} (h : Cont K P G o d) : Cont K P G' o d := by
  cases h with
  | lst h => exact .lst (h.vw w)
  | dk h => exact .dk (h.vw w)
  | dt h => exact .dt (h.vw w)
abbrev Le (G G' : Hp) : Prop := ∀ a o, G a = some o → G' a = some o
theorem Rep.mono (w : Le G G') {v : V} {d : D} (h : Rep K P G v d) : Rep K P G' v d := h.vw (.of w)
theorem RepL.mono (w : Le G G') {v : List V} {d : List D} (h : RepL K P G v d) : RepL K P G' v d := h.vw (.of w)
theorem RepK.mono (w : Le G G') {v : List (Key × V)} {d : List (Key × D)} (h : RepK K P G v d) : RepK K P G' v d := h.vw (.of w)
theorem RepT.mono (w : Le G G') {v : List (List Key × V)} {d : List (List Key × D)} (h : RepT K P G v d) : RepT K P G' v d := h.vw (.of w)
theorem Cont.mono (w : Le G G') {o : HO} {d : D} (h : Cont K P G o d) : Cont K P G' o d := h.vw (.of w)
theorem RepL.len : ∀ {v : List V} {d : List D}, RepL K P G v d → v.length = d.length
  | _, _, .nil => rfl
  | _, _, .cons _ t => congrArg (· + 1) t.len
theorem RepL.get : ∀ {vs : List V} {ds : List D} {i : Nat} {d : D}, RepL K P G vs ds → ds[i]? = some d → ∃ v, vs[i]? = some v ∧ Rep K P G v d
  | _, _, _, _, .nil, e => by simp at e
  | _, _, 0, _, .cons h _, e => by simp at e; subst e; exact ⟨_, rfl, h⟩
  | _, _, i + 1, d, .cons _ t, e => by
    obtain ⟨v, h1, h2⟩ := RepL.get (i := i) (d := d) t (by simpa using e)
    exact ⟨v, by simpa using h1, h2⟩
theorem RepL.append : ∀ {vs ws : List V} {ds es : List D}, RepL K P G vs ds → RepL K P G ws es → RepL K P G (vs ++ ws) (ds ++ es)
  | _, _, _, _, .nil, s => s
  | _, _, _, _, .cons h t, s => .cons h (t.append s)
theorem RepL.take : ∀ {vs : List V} {ds : List D} (n : Nat), RepL K P G vs ds → RepL K P G (vs.take n) (ds.take n)
  | _, _, 0, _ => .nil
  | _, _, _ + 1, .nil => .nil
  | _, _, n + 1, .cons h t => .cons h (RepL.take n t)
theorem RepL.drop : ∀ {vs : List V} {ds : List D} (n : Nat), RepL K P G vs ds → RepL K P G (vs.drop n) (ds.drop n)
  | _, _, 0, h => h
  | _, _, _ + 1, .nil => .nil
  | _, _, n + 1, .cons _ t => RepL.drop n t
theorem RepL.set {v : V} {d : D} (h : Rep K P G v d) : ∀ {vs : List V} {ds : List D} (i : Nat), RepL K P G vs ds → RepL K P G (vs.set i v) (ds.set i d)
  | _, _, _, .nil => .nil
  | _, _, 0, .cons _ t => .cons h t
  | _, _, i + 1, .cons q t => .cons q (RepL.set h i t)
theorem RepL.eraseIdx : ∀ {vs : List V} {ds : List D} (i : Nat), RepL K P G vs ds → RepL K P G (vs.eraseIdx i) (ds.eraseIdx i)
  | _, _, _, .nil => .nil
  | _, _, 0, .cons _ t => t
  | _, _, i + 1, .cons q t => .cons q (RepL.eraseIdx i t)
theorem RepL.insertIdx {v : V} {d : D} (h : Rep K P G v d) : ∀ {vs : List V} {ds : List D} (i : Nat), RepL K P G vs ds → RepL K P G (vs.take i ++ v :: vs.drop i) (ds.take i ++ d :: ds.drop i) := fun i q => (q.take i).append (.cons h (q.drop i))
theorem RepL.dropLast : ∀ {vs : List V} {ds : List D}, RepL K P G vs ds → RepL K P G vs.dropLast ds.dropLast
  | _, _, .nil => .nil
  | _, _, .cons _ .nil => .nil
  | _, _, .cons h (.cons h2 t) => .cons h (RepL.dropLast (.cons h2 t))
theorem RepL.reverse : ∀ {vs : List V} {ds : List D}, RepL K P G vs ds → RepL K P G vs.reverse ds.reverse
  | _, _, .nil => .nil
  | _, _, .cons h t => by
    rw [List.reverse_cons, List.reverse_cons]
    exact t.reverse.append (.cons h .nil)
end

/-! ### the pool of draws, the well-formed view, what grows -/
def PoolOk (K : PySem.W.Frag) (H G : Hp) (p : Addr) : Prop := ∃ (a : Addr) (ns : List Int) (pl r f : Int),
  H p = some (.lst [.ref a, .int pl, .int r, .int f]) ∧ SqL K G a (ns.map V.int) ∧ ns.length ≤ 63 ∧ 0 ≤ pl ∧ 0 ≤ r ∧ 0 ≤ f
structure Wf (K : PySem.W.Frag) (P : Option Addr) (H G : Hp) : Prop where
  gh : Le G H
  pool : ∀ p, P = some p → PoolOk K H G p ∧ G p = none
structure Up (P : Option Addr) (H G H' G' : Hp) : Prop where
  g : Le G G'
  h : ∀ a o, H a = some o → P ≠ some a → H' a = some o
  d : ∀ a o, H a = some o → ∃ o', H' a = some o'
  n : ∀ a o, G' a = some o → (∃ o', G a = some o') ∨ H a = none
theorem Up.refl {P : Option Addr} {H G : Hp} : Up P H G H G := ⟨fun _ _ h => h, fun _ _ h _ => h, fun _ o h => ⟨o, h⟩, fun _ o h => .inl ⟨o, h⟩⟩
theorem Up.trans {P : Option Addr} {H G H1 G1 H2 G2 : Hp} (a : Up P H G H1 G1) (b : Up P H1 G1 H2 G2) : Up P H G H2 G2 where
  g := fun x o h => b.g x o (a.g x o h)
  h := fun x o h n => b.h x o (a.h x o h n) n
  d := fun x o h => let ⟨o', h'⟩ := a.d x o h; b.d x o' h'
  n := fun x o h => by
    rcases b.n x o h with ⟨o', h'⟩ | h'
    · exact a.n x o' h'
    · cases q : H x with
      | none => exact .inr rfl
      | some u =>
        obtain ⟨u', q'⟩ := a.d x u q
        rw [h'] at q'
        cases q'
/-- a new object, not in the view -/
theorem Up.new {P : Option Addr} {H G : Hp} {p : Addr} {o : HO} (h : H p = none) : Up P H G (upd H p o) G :=
  ⟨fun _ _ h => h, fun a u q _ => by rw [upd_ne (ne_of_none q h)]; exact q, fun a u q => ⟨u, by rw [upd_ne (ne_of_none q h)]; exact q⟩, fun _ o h => .inl ⟨o, h⟩⟩
/-- a new object taken into the view -/
theorem Up.take {P : Option Addr} {H G H' G' : Hp} {p : Addr} {o : HO} (u : Up P H G H' G') (h : H p = none) (hg : G' p = none) : Up P H G H' (upd G' p o) :=
  ⟨fun a v q => by rw [upd_ne (ne_of_none (u.g a v q) hg)]; exact u.g a v q, u.h, u.d, fun a v q => by
    by_cases e : a = p
    · rw [e]
      exact .inr h
    · rw [upd_ne e] at q
      exact u.n a v q⟩
theorem Wf.no {K : PySem.W.Frag} {P : Option Addr} {H G : Hp} (w : Wf K P H G) {p : Addr} (h : H p = none) : G p = none := by
  cases q : G p with
  | none => rfl
  | some o =>
    rw [w.gh p o q] at h
    cases h
theorem Wf.npool {K : PySem.W.Frag} {P : Option Addr} {H G : Hp} (w : Wf K P H G) {p : Addr} (h : H p = none) : P ≠ some p := fun e => by
  obtain ⟨⟨a, ns, pl, r, f, hp, _⟩, _⟩ := w.pool p e
  rw [h] at hp
  cases hp
theorem sqL_vw {K : PySem.W.Frag} {G G' : Hp} {a : Addr} {xs : List V} (w : Vw G G') (h : SqL K G a xs) : SqL K G' a xs := by
  rcases h with (h | ⟨o, h⟩) | h
  · rcases w _ _ h with e | ⟨e, _⟩ | ⟨_, _, e, _⟩
    · exact .inl (.inl e)
    · cases e
    · cases e
  · rcases w _ _ h with e | ⟨e, _⟩ | ⟨ob, u, e, e2, _⟩
    · exact .inl (.inr ⟨_, e⟩)
    · cases e
    · cases e
      cases e2
  · exact .inr h
theorem PoolOk.up {K : PySem.W.Frag} {H H' G G' : Hp} {p : Addr} (h : PoolOk K H G p) (hp : H' p = H p) (l : Vw G G') : PoolOk K H' G' p := by
  obtain ⟨a, ns, pl, r, f, h1, h3, h4⟩ := h
  exact ⟨a, ns, pl, r, f, hp.trans h1, sqL_vw l h3, h4⟩
theorem Le.refl {G : Hp} : Le G G := fun _ _ h => h
theorem Le.new {G : Hp} {p : Addr} {o : HO} (h : G p = none) : Le G (upd G p o) := fun a v q => by rw [upd_ne (ne_of_none q h)]; exact q
theorem Wf.mut {K : PySem.W.Frag} {P : Option Addr} {H G : Hp} (w : Wf K P H G) {p : Addr} {o : HO} (h : G p = Option.none) (hn : P ≠ some p) : Wf K P (upd H p o) G :=
  ⟨fun a u q => by rw [upd_ne (ne_of_none q h)]; exact w.gh a u q, fun q e => ⟨(w.pool q e).1.up (by
    rw [upd_ne (fun z => hn (by rw [← z]; exact e))]) (.of Le.refl), (w.pool q e).2⟩⟩
theorem Wf.new {K : PySem.W.Frag} {P : Option Addr} {H G : Hp} (w : Wf K P H G) {p : Addr} {o : HO} (h : H p = Option.none) : Wf K P (upd H p o) G := w.mut (w.no h) (w.npool h)
theorem Wf.take {K : PySem.W.Frag} {P : Option Addr} {H G : Hp} (w : Wf K P H G) {p : Addr} {o : HO} (h : H p = some o) (hg : G p = Option.none) (hn : P ≠ some p) : Wf K P H (upd G p o) :=
  ⟨fun a u q => by
    by_cases e : a = p
    · rw [e, upd_same] at q
      cases q
      rw [e]
      exact h
    · rw [upd_ne e] at q
      exact w.gh a u q, fun q e => ⟨(w.pool q e).1.up rfl (.of (Le.new hg)), by
    rw [upd_ne (fun z => hn (by rw [← z]; exact e))]
    exact (w.pool q e).2⟩⟩
/-- an object that H does not know may change -/
theorem Up.mut {P : Option Addr} {H G H' G' : Hp} (u : Up P H G H' G') {p : Addr} {o : HO} (h : H p = none) : Up P H G (upd H' p o) G' :=
  ⟨u.g, fun a v q n => by rw [upd_ne (ne_of_none q h)]; exact u.h a v q n, fun a v q => by rw [upd_ne (ne_of_none q h)]; exact u.d a v q, u.n⟩
theorem Up.back {P : Option Addr} {H G H' G' : Hp} (u : Up P H G H' G') {p : Addr} (h : H' p = none) : H p = none := by
  cases q : H p with
  | none => rfl
  | some o =>
    obtain ⟨o', z⟩ := u.d p o q
    rw [h] at z
    cases z

/-! ### slots -/
inductive Sl where
  | fz (d : D) | mu (d : D) | hd (p : Addr) (d : D)
abbrev En := List (Option Sl)
def Sl.d : Sl → D
  | .fz d => d
  | .mu d => d
  | .hd _ d => d
structure SR (K : PySem.W.Frag) (P : Option Addr) (G0 H0 : Hp) (env : En) (σ : St) (H G : Hp) : Prop where
  wf : Wf K P H G
  up : Up P H0 G0 H G
  pl : ∀ p, P = some p → ∃ o, H0 p = some o
  len : σ.length = env.length
  slot : ∀ (i : Nat) (d : D), env[i]? = some (some (.fz d)) → ∃ v, σ[i]? = some (some v) ∧ Rep K P G v d
  own : ∀ (i : Nat) (d : D), env[i]? = some (some (.mu d)) → ∃ p o, σ[i]? = some (some (.ref p)) ∧ H0 p = none ∧ G p = none ∧ H p = some o ∧ Cont K P G o d
  dis : ∀ (i j : Nat) (d e : D) (p : Addr), env[i]? = some (some (.mu d)) → env[j]? = some (some (.mu e)) → σ[i]? = some (some (.ref p)) → σ[j]? = some (some (.ref p)) → i = j
  hld : ∀ (i : Nat) (p : Addr) (d : D), env[i]? = some (some (.hd p d)) → σ[i]? = some (some (.ref p)) ∧ ∃ o, H0 p = some o ∧ P ≠ some p ∧ Cont K P G o d
section
variable {K : PySem.W.Frag} {P : Option Addr} {G0 H0 : Hp} {env : En} {σ : St} {H G H' G' : Hp}
theorem SR.step (S : SR K P G0 H0 env σ H G) (u : Up P H G H' G') (w : Wf K P H' G') : SR K P G0 H0 env σ H' G' where
  wf := w
  up := S.up.trans u
  pl := S.pl
  len := S.len
  slot := fun i d e => let ⟨v, h1, h2⟩ := S.slot i d e; ⟨v, h1, h2.mono u.g⟩
  own := fun i d e => by
    obtain ⟨p, o, h1, h2, h3, h4, h5⟩ := S.own i d e
    refine ⟨p, o, h1, h2, ?_, u.h p o h4 (fun z => ?_), h5.mono u.g⟩
    · cases q : G' p with
      | none => rfl
      | some v =>
        rcases u.n p v q with ⟨x, z⟩ | z
        · rw [h3] at z
          cases z
        · rw [h4] at z
          cases z
    · obtain ⟨x, hx⟩ := S.pl p z
      rw [h2] at hx
      cases hx
  dis := S.dis
  hld := fun i p d e => let ⟨h1, o, h2, h3, h4⟩ := S.hld i p d e; ⟨h1, o, h2, h3, h4.mono u.g⟩
theorem SR.npool (S : SR K P G0 H0 env σ H G) {p : Addr} (h : H0 p = none) : P ≠ some p := fun z => by
  obtain ⟨x, hx⟩ := S.pl p z
  rw [h] at hx
  cases hx
/-- a slot is given strong data -/
theorem SR.setFz (S : SR K P G0 H0 env σ H G) {i : Nat} {v : V} {d : D} (r : Rep K P G v d) : SR K P G0 H0 (env.set i (some (.fz d))) (σ.set i (some v)) H G where
  wf := S.wf
  up := S.up
  pl := S.pl
  len := by rw [List.length_set, List.length_set, S.len]
  slot := fun j e h => by
    by_cases hj : i = j
    · subst hj
      have hl : i < env.length := by
        have := (List.getElem?_eq_some_iff.mp h).1
        rwa [List.length_set] at this
      rw [List.getElem?_set_self hl] at h
      cases h
      exact ⟨v, List.getElem?_set_self (S.len ▸ hl), r⟩
    · rw [List.getElem?_set_ne hj] at h
      rw [List.getElem?_set_ne hj]
      exact S.slot j e h
  own := fun j e h => by
    by_cases hj : i = j
    · subst hj
      have hl : i < env.length := by
        have := (List.getElem?_eq_some_iff.mp h).1
        rwa [List.length_set] at this
      rw [List.getElem?_set_self hl] at h
      cases h
    · rw [List.getElem?_set_ne hj] at h
      rw [List.getElem?_set_ne hj]
      exact S.own j e h
  dis := fun j k e f p h1 h2 h3 h4 => by
    have ne : ∀ {j e}, (env.set i (some (.fz d)))[j]? = some (some (.mu e)) → i ≠ j := fun {j e} h z => by
      subst z
      have hl : i < env.length := by
        have := (List.getElem?_eq_some_iff.mp h).1
        rwa [List.length_set] at this
      rw [List.getElem?_set_self hl] at h
      cases h
    have a := ne h1
    have b := ne h2
    rw [List.getElem?_set_ne a] at h1 h3
    rw [List.getElem?_set_ne b] at h2 h4
    exact S.dis j k e f p h1 h2 h3 h4
  hld := fun j p' e h => by
    by_cases hj : i = j
    · subst hj
      have hl : i < env.length := by
        have := (List.getElem?_eq_some_iff.mp h).1
        rwa [List.length_set] at this
      rw [List.getElem?_set_self hl] at h
      cases h
    · rw [List.getElem?_set_ne hj] at h
      rw [List.getElem?_set_ne hj]
      exact S.hld j p' e h
/-- a slot is given an object of its own -/
theorem SR.setMu (S : SR K P G0 H0 env σ H G) {i : Nat} {p : Addr} {o : HO} {d : D} (h0 : H0 p = none) (hg : G p = none) (hp : H p = some o) (c : Cont K P G o d)
    (hn : ∀ j e, env[j]? = some (some (.mu e)) → σ[j]? = some (some (.ref p)) → j = i) : SR K P G0 H0 (env.set i (some (.mu d))) (σ.set i (some (.ref p))) H G where
  wf := S.wf
  up := S.up
  pl := S.pl
  len := by rw [List.length_set, List.length_set, S.len]
  slot := fun j e h => by
    by_cases hj : i = j
    · subst hj
      have hl : i < env.length := by
        have := (List.getElem?_eq_some_iff.mp h).1
        rwa [List.length_set] at this
      rw [List.getElem?_set_self hl] at h
      cases h
    · rw [List.getElem?_set_ne hj] at h
      rw [List.getElem?_set_ne hj]
      exact S.slot j e h
  own := fun j e h => by
    by_cases hj : i = j
    · subst hj
      have hl : i < env.length := by
        have := (List.getElem?_eq_some_iff.mp h).1
        rwa [List.length_set] at this
      rw [List.getElem?_set_self hl] at h
      cases h
      exact ⟨p, o, List.getElem?_set_self (S.len ▸ hl), h0, hg, hp, c⟩
    · rw [List.getElem?_set_ne hj] at h
      rw [List.getElem?_set_ne hj]
      exact S.own j e h
  dis := fun j k e f q h1 h2 h3 h4 => by
    by_cases hj : i = j
    · subst hj
      by_cases hk : i = k
      · exact hk
      · have hl : i < env.length := by
          have := (List.getElem?_eq_some_iff.mp h1).1
          rwa [List.length_set] at this
        rw [List.getElem?_set_self (S.len ▸ hl)] at h3
        cases h3
        rw [List.getElem?_set_ne hk] at h2 h4
        exact (hn k f h2 h4).symm
    · by_cases hk : i = k
      · subst hk
        have hl : i < env.length := by
          have := (List.getElem?_eq_some_iff.mp h2).1
          rwa [List.length_set] at this
        rw [List.getElem?_set_self (S.len ▸ hl)] at h4
        cases h4
        rw [List.getElem?_set_ne hj] at h1 h3
        exact hn j e h1 h3
      · rw [List.getElem?_set_ne hj] at h1 h3
        rw [List.getElem?_set_ne hk] at h2 h4
        exact S.dis j k e f q h1 h2 h3 h4
  hld := fun j p' e h => by
    by_cases hj : i = j
    · subst hj
      have hl : i < env.length := by
        have := (List.getElem?_eq_some_iff.mp h).1
        rwa [List.length_set] at this
      rw [List.getElem?_set_self hl] at h
      cases h
    · rw [List.getElem?_set_ne hj] at h
      rw [List.getElem?_set_ne hj]
      exact S.hld j p' e h
/-- an own object changes -/
theorem SR.mut (S : SR K P G0 H0 env σ H G) {i : Nat} {p : Addr} {o : HO} {d d' : D} (hi : env[i]? = some (some (.mu d))) (hs : σ[i]? = some (some (.ref p))) (h0 : H0 p = none) (hg : G p = none) (c : Cont K P G o d') :
    SR K P G0 H0 (env.set i (some (.mu d'))) σ (upd H p o) G where
  wf := S.wf.mut hg (S.npool h0)
  up := S.up.mut h0
  pl := S.pl
  len := by rw [List.length_set, S.len]
  slot := fun j e h => by
    by_cases hj : i = j
    · subst hj
      rw [List.getElem?_set_self (List.getElem?_eq_some_iff.mp hi).1] at h
      cases h
    · rw [List.getElem?_set_ne hj] at h
      exact S.slot j e h
  own := fun j e h => by
    by_cases hj : i = j
    · subst hj
      rw [List.getElem?_set_self (List.getElem?_eq_some_iff.mp hi).1] at h
      cases h
      exact ⟨p, o, hs, h0, hg, upd_same, c⟩
    · rw [List.getElem?_set_ne hj] at h
      obtain ⟨q, u, h1, h2, h3, h4, h5⟩ := S.own j e h
      have ne : q ≠ p := fun z => by
        subst z
        exact hj (S.dis i j _ _ q hi h hs h1)
      exact ⟨q, u, h1, h2, h3, by rw [upd_ne ne]; exact h4, h5⟩
  dis := fun j k e f q h1 h2 h3 h4 => by
    have m : ∀ {j : Nat} {e : D}, (env.set i (some (.mu d')))[j]? = some (some (.mu e)) → ∃ e', env[j]? = some (some (.mu e')) := fun {j e} h => by
      by_cases hj : i = j
      · subst hj
        exact ⟨_, hi⟩
      · rw [List.getElem?_set_ne hj] at h
        exact ⟨_, h⟩
    obtain ⟨e', h1⟩ := m h1
    obtain ⟨f', h2⟩ := m h2
    exact S.dis j k _ _ q h1 h2 h3 h4
  hld := fun j p' e h => by
    by_cases hj : i = j
    · subst hj
      rw [List.getElem?_set_self (List.getElem?_eq_some_iff.mp hi).1] at h
      cases h
    · rw [List.getElem?_set_ne hj] at h
      exact S.hld j p' e h
/-- an own object is given up -/
theorem SR.frz (S : SR K P G0 H0 env σ H G) {i : Nat} {d : D} (hi : env[i]? = some (some (.mu d))) : ∃ p o, Le G (upd G p o) ∧ SR K P G0 H0 (env.set i (some (.fz d))) σ H (upd G p o) := by
  obtain ⟨p, o, hs, h0, hg, hp, c⟩ := S.own i d hi
  refine ⟨p, o, Le.new hg, S.wf.take hp hg (S.npool h0), S.up.take h0 hg, S.pl, by rw [List.length_set, S.len], fun j e h => ?_, fun j e h => ?_, fun j k e f q h1 h2 h3 h4 => ?_, fun j p' e h => ?_⟩
  · by_cases hj : i = j
    · subst hj
      rw [List.getElem?_set_self (List.getElem?_eq_some_iff.mp hi).1] at h
      cases h
      exact ⟨_, hs, .obj upd_same (c.mono (Le.new hg))⟩
    · rw [List.getElem?_set_ne hj] at h
      obtain ⟨v, h1, h2⟩ := S.slot j e h
      exact ⟨v, h1, h2.mono (Le.new hg)⟩
  · by_cases hj : i = j
    · subst hj
      rw [List.getElem?_set_self (List.getElem?_eq_some_iff.mp hi).1] at h
      cases h
    · rw [List.getElem?_set_ne hj] at h
      obtain ⟨q, u, h1, h2, h3, h4, h5⟩ := S.own j e h
      have ne : q ≠ p := fun z => by
        subst z
        exact hj (S.dis i j _ _ q hi h hs h1)
      exact ⟨q, u, h1, h2, by rw [upd_ne ne]; exact h3, h4, h5.mono (Le.new hg)⟩
  · have m : ∀ {j : Nat} {e : D}, (env.set i (some (.fz d)))[j]? = some (some (.mu e)) → env[j]? = some (some (.mu e)) := fun {j e} h => by
      by_cases hj : i = j
      · subst hj
        rw [List.getElem?_set_self (List.getElem?_eq_some_iff.mp hi).1] at h
        cases h
      · rw [List.getElem?_set_ne hj] at h
        exact h
    exact S.dis j k _ _ q (m h1) (m h2) h3 h4
  · by_cases hj : i = j
    · subst hj
      rw [List.getElem?_set_self (List.getElem?_eq_some_iff.mp hi).1] at h
      cases h
    · rw [List.getElem?_set_ne hj] at h
      obtain ⟨g1, u, g2, g3, g4⟩ := S.hld j p' e h
      exact ⟨g1, u, g2, g3, g4.mono (Le.new hg)⟩
/-- knowing less of some slot -/
theorem SR.weak {env' : En} (S : SR K P G0 H0 env σ H G) (hl : env'.length = env.length) (h : ∀ (i : Nat) (s : Sl), env'[i]? = some (some s) → env[i]? = some (some s)) : SR K P G0 H0 env' σ H G where
  wf := S.wf
  up := S.up
  pl := S.pl
  len := S.len.trans hl.symm
  slot := fun i d e => S.slot i d (h i _ e)
  own := fun i d e => S.own i d (h i _ e)
  dis := fun i j d e p h1 h2 => S.dis i j d e p (h i _ h1) (h j _ h2)
  hld := fun i p d e => S.hld i p d (h i _ e)
/-- a held object: the view of the caller takes it in, till it is let go -/
theorem SR.hold (S : SR K P G0 H0 env σ H G) {i : Nat} {d : D} (hi : env[i]? = some (some (.mu d))) : ∃ p o, H0 p = none ∧ G p = none ∧ H p = some o ∧ Cont K P G o d ∧ SR K P G0 (upd H0 p o) (env.set i (some (.hd p d))) σ H G := by
  obtain ⟨p, o, hs, h0, hg, hp, c⟩ := S.own i d hi
  have hn := S.npool h0
  refine ⟨p, o, h0, hg, hp, c, S.wf, ⟨S.up.g, fun a v q n => ?_, fun a v q => ?_, fun a v q => ?_⟩, fun q e => ?_, by rw [List.length_set, S.len], fun j e h => ?_, fun j e h => ?_, fun j k e f q h1 h2 h3 h4 => ?_, fun j p' e h => ?_⟩
  · by_cases z : a = p
    · rw [z, upd_same] at q
      cases q
      rw [z]
      exact hp
    · rw [upd_ne z] at q
      exact S.up.h a v q n
  · by_cases z : a = p
    · rw [z]
      exact ⟨_, hp⟩
    · rw [upd_ne z] at q
      exact S.up.d a v q
  · rcases S.up.n a v q with h | h
    · exact .inl h
    · refine .inr ?_
      rw [upd_ne fun z => by rw [z, hg] at q; cases q]
      exact h
  · obtain ⟨o', h⟩ := S.pl q e
    refine ⟨o', ?_⟩
    rw [upd_ne fun z => hn (by rw [← z]; exact e)]
    exact h
  · by_cases hj : i = j
    · subst hj
      rw [List.getElem?_set_self (List.getElem?_eq_some_iff.mp hi).1] at h
      cases h
    · rw [List.getElem?_set_ne hj] at h
      exact S.slot j e h
  · by_cases hj : i = j
    · subst hj
      rw [List.getElem?_set_self (List.getElem?_eq_some_iff.mp hi).1] at h
      cases h
    · rw [List.getElem?_set_ne hj] at h
      obtain ⟨q, u, h1, h2, h3, h4, h5⟩ := S.own j e h
      have ne : q ≠ p := fun z => by
        subst z
        exact hj (S.dis i j _ _ q hi h hs h1)
      exact ⟨q, u, h1, by rw [upd_ne ne]; exact h2, h3, h4, h5⟩
  · have m : ∀ {j : Nat} {e : D}, (env.set i (some (.hd p d)))[j]? = some (some (.mu e)) → env[j]? = some (some (.mu e)) := fun {j e} h => by
      by_cases hj : i = j
      · subst hj
        rw [List.getElem?_set_self (List.getElem?_eq_some_iff.mp hi).1] at h
        cases h
      · rw [List.getElem?_set_ne hj] at h
        exact h
    exact S.dis j k _ _ q (m h1) (m h2) h3 h4
  · by_cases hj : i = j
    · subst hj
      rw [List.getElem?_set_self (List.getElem?_eq_some_iff.mp hi).1] at h
      cases h
      exact ⟨hs, o, upd_same, hn, c⟩
    · rw [List.getElem?_set_ne hj] at h
      obtain ⟨g1, u, g2, g3, g4⟩ := S.hld j p' e h
      refine ⟨g1, u, ?_, g3, g4⟩
      rw [upd_ne fun z => by rw [z, h0] at g2; cases g2]
      exact g2
theorem Up.unhold {p : Addr} {o : HO} (u : Up P (upd H0 p o) G0 H G) (h0 : H0 p = none) : Up P H0 G0 H G :=
  ⟨u.g, fun a v q n => u.h a v (by rw [upd_ne (ne_of_none q h0)]; exact q) n, fun a v q => u.d a v (by rw [upd_ne (ne_of_none q h0)]; exact q), fun a v q => (u.n a v q).imp id fun z => by
    by_cases e : a = p
    · rw [e]
      exact h0
    · rwa [upd_ne e] at z⟩
theorem SR.unhold {p : Addr} {o : HO} {i : Nat} {d : D} (S : SR K P G0 (upd H0 p o) env σ H G) (h0 : H0 p = none) (g0 : G0 p = none) (pl : ∀ p, P = some p → ∃ o, H0 p = some o) (hi : env[i]? = some (some (.hd p d))) (old : ∀ j q e, env[j]? = some (some (.hd q e)) → j = i ∨ q ≠ p) : SR K P G0 H0 (env.set i (some (.mu d))) σ H G := by
  obtain ⟨hs, o', ho, hn, c⟩ := S.hld i p d hi
  rw [upd_same] at ho
  cases ho
  have hg : G p = none := by
    cases q : G p with
    | none => rfl
    | some v =>
      rcases S.up.n p v q with ⟨x, z⟩ | z
      · rw [g0] at z
        cases z
      · rw [upd_same] at z
        cases z
  refine ⟨S.wf, S.up.unhold h0, pl, by rw [List.length_set, S.len], fun j e h => ?_, fun j e h => ?_, fun j k e f q h1 h2 h3 h4 => ?_, fun j p' e h => ?_⟩
  · by_cases hj : i = j
    · subst hj
      rw [List.getElem?_set_self (List.getElem?_eq_some_iff.mp hi).1] at h
      cases h
    · rw [List.getElem?_set_ne hj] at h
      exact S.slot j e h
  · by_cases hj : i = j
    · subst hj
      rw [List.getElem?_set_self (List.getElem?_eq_some_iff.mp hi).1] at h
      cases h
      exact ⟨p, o, hs, h0, hg, S.up.h p o upd_same hn, c⟩
    · rw [List.getElem?_set_ne hj] at h
      obtain ⟨q, u, h1, h2, h3, h4, h5⟩ := S.own j e h
      refine ⟨q, u, h1, ?_, h3, h4, h5⟩
      by_cases z : q = p
      · rw [z]
        exact h0
      · rwa [upd_ne z] at h2
  · have ne : ∀ {j : Nat} {e : D}, i ≠ j → (env.set i (some (.mu d)))[j]? = some (some (.mu e)) → σ[j]? = some (some (.ref q)) → q ≠ p := fun {j e} hj h hq z => by
      rw [List.getElem?_set_ne hj] at h
      obtain ⟨q', u, h1, h2, _⟩ := S.own j e h
      rw [h1] at hq
      cases hq
      rw [z, upd_same] at h2
      cases h2
    by_cases hj : i = j
    · subst hj
      by_cases hk : i = k
      · exact hk
      · rw [hs] at h3
        cases h3
        exact absurd rfl (ne hk h2 h4)
    · by_cases hk : i = k
      · subst hk
        rw [hs] at h4
        cases h4
        exact absurd rfl (ne hj h1 h3)
      · rw [List.getElem?_set_ne hj] at h1
        rw [List.getElem?_set_ne hk] at h2
        exact S.dis j k e f q h1 h2 h3 h4
  · by_cases hj : i = j
    · subst hj
      rw [List.getElem?_set_self (List.getElem?_eq_some_iff.mp hi).1] at h
      cases h
    · rw [List.getElem?_set_ne hj] at h
      obtain ⟨g1, u, g2, g3, g4⟩ := S.hld j p' e h
      have ne : p' ≠ p := (old j p' e h).resolve_left fun z => hj z.symm
      refine ⟨g1, u, ?_, g3, g4⟩
      rwa [upd_ne ne] at g2
end
end Pv
namespace Pv
open PySem PySem.Spec L2

/-! ### what is read: in the view, or an own object -/
inductive RepW (K : PySem.W.Frag) (P : Option Addr) (G H : Hp) : V → D → Prop
  | s {v : V} {d : D} : Rep K P G v d → RepW K P G H v d
  | o {a : Addr} {o : HO} {d : D} : H a = some o → Cont K P G o d → P ≠ some a → RepW K P G H (.ref a) d
section
variable {K : PySem.W.Frag} {P : Option Addr} {G H G' H' : Hp} {v : V}
theorem RepW.up {d : D} (u : Up P H G H' G') (h : RepW K P G H v d) : RepW K P G' H' v d := by
  cases h with
  | s h => exact .s (h.mono u.g)
  | o h c n => exact .o (u.h _ _ h n) (c.mono u.g) n
theorem Rep.int_inv {i : Int} (h : Rep K P G v (.int i)) : v = .int i := by
  cases h with
  | int => rfl
  | obj _ c => cases c
  | frz _ _ c => cases c
theorem Rep.bl_inv {i : Bool} (h : Rep K P G v (.bl i)) : v = .bl i := by
  cases h with
  | bl => rfl
  | obj _ c => cases c
  | frz _ _ c => cases c
theorem Rep.str_inv {i : Str} (h : Rep K P G v (.str i)) : v = .str i := by
  cases h with
  | str => rfl
  | obj _ c => cases c
  | frz _ _ c => cases c
theorem Rep.non_inv (h : Rep K P G v .non) : v = .non := by
  cases h with
  | non => rfl
  | obj _ c => cases c
  | frz _ _ c => cases c
theorem Rep.pool_inv (h : Rep K P G v .pool) : ∃ p, v = .ref p ∧ P = some p := by
  cases h with
  | pool e => exact ⟨_, rfl, e⟩
  | obj _ c => cases c
  | frz _ _ c => cases c
theorem Rep.tup_inv {ds : List D} (h : Rep K P G v (.tup ds)) : ∃ a xs, v = .ref a ∧ SqT K G a xs ∧ RepL K P G xs ds := by
  cases h with
  | tup h r => exact ⟨_, _, rfl, h, r⟩
  | obj _ c => cases c
  | frz _ _ c => cases c
theorem Rep.lst_inv {ds : List D} (h : Rep K P G v (.lst ds)) : ∃ a xs, v = .ref a ∧ G a = some (.lst xs) ∧ RepL K P G xs ds := by
  cases h with
  | obj h c =>
    cases c with
    | lst r => exact ⟨_, _, rfl, h, r⟩
  | frz _ z c =>
    cases c with
    | lst r => cases z
theorem Rep.dk_inv {ds : List (Key × D)} (h : Rep K P G v (.dk ds)) : ∃ a kvs, v = .ref a ∧ Rd G a (.dK kvs) ∧ RepK K P G kvs ds := by
  cases h with
  | obj h c =>
    cases c with
    | dk r => exact ⟨_, _, rfl, .inl h, r⟩
  | frz h z c =>
    cases c with
    | dk r => exact ⟨_, _, rfl, .inr ⟨_, h⟩, r⟩
theorem Rep.dt_inv {ds : List (List Key × D)} (h : Rep K P G v (.dt ds)) : ∃ a kvs, v = .ref a ∧ Rd G a (.dT kvs) ∧ RepT K P G kvs ds := by
  cases h with
  | obj h c =>
    cases c with
    | dt r => exact ⟨_, _, rfl, .inl h, r⟩
  | frz h z c =>
    cases c with
    | dt r => exact ⟨_, _, rfl, .inr ⟨_, h⟩, r⟩
theorem RepW.int_inv {i : Int} (h : RepW K P G H v (.int i)) : v = .int i := by
  cases h with
  | s h => exact h.int_inv
  | o _ c => cases c
theorem RepW.bl_inv {i : Bool} (h : RepW K P G H v (.bl i)) : v = .bl i := by
  cases h with
  | s h => exact h.bl_inv
  | o _ c => cases c
theorem RepW.str_inv {i : Str} (h : RepW K P G H v (.str i)) : v = .str i := by
  cases h with
  | s h => exact h.str_inv
  | o _ c => cases c
theorem RepW.non_inv (h : RepW K P G H v .non) : v = .non := by
  cases h with
  | s h => exact h.non_inv
  | o _ c => cases c
theorem RepW.tup_inv {ds : List D} (h : RepW K P G H v (.tup ds)) : ∃ a xs, v = .ref a ∧ SqT K G a xs ∧ RepL K P G xs ds := by
  cases h with
  | s h => exact h.tup_inv
  | o _ c => cases c
theorem RepW.lst_inv {ds : List D} (w : Wf K P H G) (h : RepW K P G H v (.lst ds)) : ∃ a xs, v = .ref a ∧ H a = some (.lst xs) ∧ RepL K P G xs ds := by
  cases h with
  | s h =>
    obtain ⟨a, xs, e, h, r⟩ := h.lst_inv
    exact ⟨a, xs, e, w.gh _ _ h, r⟩
  | o h c n =>
    cases c with
    | lst r => exact ⟨_, _, rfl, h, r⟩
theorem Rd.le {a : Addr} {u : HO} (l : Le G H) (h : Rd G a u) : Rd H a u := by
  rcases h with h | ⟨o, h⟩
  · exact .inl (l _ _ h)
  · exact .inr ⟨o, l _ _ h⟩
theorem RepW.dk_inv {ds : List (Key × D)} (w : Wf K P H G) (h : RepW K P G H v (.dk ds)) : ∃ a kvs, v = .ref a ∧ Rd H a (.dK kvs) ∧ RepK K P G kvs ds := by
  cases h with
  | s h =>
    obtain ⟨a, kvs, e, h, r⟩ := h.dk_inv
    exact ⟨a, kvs, e, Rd.le w.gh h, r⟩
  | o h c n =>
    cases c with
    | dk r => exact ⟨_, _, rfl, .inl h, r⟩
theorem RepW.dt_inv {ds : List (List Key × D)} (w : Wf K P H G) (h : RepW K P G H v (.dt ds)) : ∃ a kvs, v = .ref a ∧ Rd H a (.dT kvs) ∧ RepT K P G kvs ds := by
  cases h with
  | s h =>
    obtain ⟨a, kvs, e, h, r⟩ := h.dt_inv
    exact ⟨a, kvs, e, Rd.le w.gh h, r⟩
  | o h c n =>
    cases c with
    | dt r => exact ⟨_, _, rfl, .inl h, r⟩
theorem sqT_le {a : Addr} {xs : List V} (w : Le G H) (h : SqT K G a xs) : SqT K H a xs := sqT_vw (.of w) h
end

/-! ### judgements -/
/-- both ways of a test -/
def Br (c : Bool) (A B : Prop) : Prop := (c = true → A) ∧ (c = false → B)
abbrev PX := En → (D → Prop) → Prop
abbrev PTt := En → (Bool → Prop) → Prop
abbrev PAa := En → (List D → Prop) → Prop
structure Fx where
  nx : En → Prop
  rt : D → Prop
  bk : En → Prop
  ct : En → Prop
abbrev PSt := Fx → En → Prop
section
variable (K : PySem.W.Frag) (P : Option Addr)
def EvW (te : TE) (px : PX) : Prop := ∀ G0 H0 env σ H G, SR K P G0 H0 env σ H G → ∀ Q, px env Q → ∀ R : VK, (∀ d v H' G', Q d → Up P H G H' G' → Wf K P H' G' → RepW K P G' H' v d → R v H') → te σ H R
def EvS (te : TE) (px : PX) : Prop := ∀ G0 H0 env σ H G, SR K P G0 H0 env σ H G → ∀ Q, px env Q → ∀ R : VK, (∀ d v H' G', Q d → Up P H G H' G' → Wf K P H' G' → Rep K P G' v d → R v H') → te σ H R
def EvF (te : TE) (px : PX) : Prop := ∀ G0 H0 env σ H G, SR K P G0 H0 env σ H G → ∀ Q, px env Q → ∀ R : VK, (∀ d p o H' G', Q d → Up P H G H' G' → Wf K P H' G' → H p = none → H' p = some o → G' p = none → Cont K P G' o d → R (.ref p) H') → te σ H R
def EvT (tt : TT) (pt : PTt) : Prop := ∀ G0 H0 env σ H G, SR K P G0 H0 env σ H G → ∀ Q, pt env Q → ∀ R : Bool → Hp → Prop, (∀ b H' G', Q b → Up P H G H' G' → Wf K P H' G' → R b H') → tt σ H R
def EvA (ta : TA) (pa : PAa) : Prop := ∀ G0 H0 env σ H G, SR K P G0 H0 env σ H G → ∀ Q, pa env Q → ∀ R : List V → Hp → Prop, (∀ ds vs H' G', Q ds → Up P H G H' G' → Wf K P H' G' → RepL K P G' vs ds → R vs H') → ta σ H R
/-- weak arguments -/
inductive RepWL (G H : Hp) : List V → List D → Prop
  | nil : RepWL G H [] []
  | cons {v : V} {vs : List V} {d : D} {ds : List D} : RepW K P G H v d → RepWL G H vs ds → RepWL G H (v :: vs) (d :: ds)
def EvB (ta : TA) (pa : PAa) : Prop := ∀ G0 H0 env σ H G, SR K P G0 H0 env σ H G → ∀ Q, pa env Q → ∀ R : List V → Hp → Prop, (∀ ds vs H' G', Q ds → Up P H G H' G' → Wf K P H' G' → RepWL K P G' H' vs ds → R vs H') → ta σ H R
/-- what is wanted behind a statement, of data and of the heap -/
structure Lnk (G0 H0 G : Hp) (F : Fx) (E : Ends) : Prop where
  nx : ∀ env σ H' G', Le G G' → SR K P G0 H0 env σ H' G' → F.nx env → E.nx σ H'
  bk : ∀ env σ H' G', Le G G' → SR K P G0 H0 env σ H' G' → F.bk env → E.bk σ H'
  ct : ∀ env σ H' G', Le G G' → SR K P G0 H0 env σ H' G' → F.ct env → E.ct σ H'
  rt : ∀ d v H' G', Le G G' → Up P H0 G0 H' G' → Wf K P H' G' → Rep K P G' v d → F.rt d → E.rt v H'
def EvC (ts : TS) (ps : PSt) : Prop := ∀ G0 H0 env σ H G, SR K P G0 H0 env σ H G → ∀ F E, Lnk K P G0 H0 G F E → ps F env → ts E σ H
end
section
variable {K : PySem.W.Frag} {P : Option Addr}
theorem Lnk.mono {G0 H0 G G' : Hp} {F : Fx} {E : Ends} (l : Le G G') (h : Lnk K P G0 H0 G F E) : Lnk K P G0 H0 G' F E :=
  ⟨fun e s H1 G1 a => h.nx e s H1 G1 fun x o q => a x o (l x o q), fun e s H1 G1 a => h.bk e s H1 G1 fun x o q => a x o (l x o q), fun e s H1 G1 a => h.ct e s H1 G1 fun x o q => a x o (l x o q), fun d v H1 G1 a => h.rt d v H1 G1 fun x o q => a x o (l x o q)⟩
theorem EvS.w {te : TE} {px : PX} (h : EvS K P te px) : EvW K P te px := fun G0 H0 env σ H G S Q hq R hr => h G0 H0 env σ H G S Q hq R fun d v H' G' q u w r => hr d v H' G' q u w (.s r)
theorem EvF.s {te : TE} {px : PX} (h : EvF K P te px) : EvS K P te px := fun G0 H0 env σ H G S Q hq R hr => h G0 H0 env σ H G S Q hq R fun d p o H' G' q u w e1 e2 e3 c =>
  hr d _ H' _ q (u.take e1 e3) (w.take e2 e3 (S.wf.npool e1)) (.obj upd_same (c.mono fun a v z => by rw [upd_ne (ne_of_none z e3)]; exact z))
end

def JW (K : PySem.W.Frag) (X : Cx) (e : Expr) (t : TE) (p : PX) : Prop := PE X e t ∧ ∀ P, EvW K P t p
def JS (K : PySem.W.Frag) (X : Cx) (e : Expr) (t : TE) (p : PX) : Prop := PE X e t ∧ ∀ P, EvS K P t p
def JF (K : PySem.W.Frag) (X : Cx) (e : Expr) (t : TE) (p : PX) : Prop := PE X e t ∧ ∀ P, EvF K P t p
def JT (K : PySem.W.Frag) (X : Cx) (e : Expr) (t : TT) (p : PTt) : Prop := PT X e t ∧ ∀ P, EvT K P t p
def JA (K : PySem.W.Frag) (X : Cx) (e : List Expr) (t : TA) (p : PAa) : Prop := PA X e t ∧ ∀ P, EvA K P t p
def JB (K : PySem.W.Frag) (X : Cx) (e : List Expr) (t : TA) (p : PAa) : Prop := PA X e t ∧ ∀ P, EvB K P t p
def JC (K : PySem.W.Frag) (X : Cx) (st : Stmt) (p : PSt) : Prop := ∃ t, PS X st t ∧ ∀ P, EvC K P t p
def JCs (K : PySem.W.Frag) (X : Cx) (st : List Stmt) (p : PSt) : Prop := ∃ t, PSs X st t ∧ ∀ P, EvC K P t p
section
variable {K : PySem.W.Frag} {X : Cx} {e a b c : Expr} {t ta tb : TE} {p pa pb pc : PX} {pos : Pos}
theorem JF.s (h : JF K X e t p) : JS K X e t p := ⟨h.1, fun P => (h.2 P).s⟩
theorem JS.w (h : JS K X e t p) : JW K X e t p := ⟨h.1, fun P => (h.2 P).w⟩
theorem JF.w (h : JF K X e t p) : JW K X e t p := h.s.w

/-! ### names, constants -/
def xVar (i : Nat) : PX := fun env Q => match env[i]? with
  | some (some s) => Q s.d
  | _ => False
def xVarS (i : Nat) : PX := fun env Q => match env[i]? with
  | some (some (.fz d)) => Q d
  | _ => False
def xC (d : D) : PX := fun _ Q => Q d
theorem j_var (i : Nat) {x : Str} {pos : Pos} (h : PE X (.Name x pos) (tVar i)) : JW K X (.Name x pos) (tVar i) (xVar i) := ⟨h, fun P G0 H0 env σ H G S Q hq R hr => by
  unfold xVar at hq
  split at hq
  · rename_i s hs
    cases s with
    | fz d =>
      obtain ⟨v, h1, h2⟩ := S.slot _ _ hs
      exact ⟨v, h1, hr d v H G hq .refl S.wf (.s h2)⟩
    | mu d =>
      obtain ⟨q, o, h1, h2, h3, h4, h5⟩ := S.own _ _ hs
      exact ⟨_, h1, hr d _ H G hq .refl S.wf (.o h4 h5 (S.npool h2))⟩
    | hd q d =>
      obtain ⟨h1, o, h2, h3, h4⟩ := S.hld _ _ _ hs
      exact ⟨_, h1, hr d _ H G hq .refl S.wf (.o (S.up.h _ _ h2 h3) h4 h3)⟩
  · exact hq.elim⟩
theorem j_varS (i : Nat) {x : Str} {pos : Pos} (h : PE X (.Name x pos) (tVar i)) : JS K X (.Name x pos) (tVar i) (xVarS i) := ⟨h, fun P G0 H0 env σ H G S Q hq R hr => by
  unfold xVarS at hq
  split at hq
  · rename_i d hs
    obtain ⟨v, h1, h2⟩ := S.slot _ _ hs
    exact ⟨v, h1, hr d v H G hq .refl S.wf h2⟩
  · exact hq.elim⟩
theorem j_con {v : V} {d : D} (h : PE X e (tC v)) (r : ∀ P G, Rep K P G v d) : JS K X e (tC v) (xC d) := ⟨h, fun P G0 H0 env σ H G S Q hq R hr => hr d v H G hq .refl S.wf (r P G)⟩
theorem j_int {i : Int} {j : Nat} : JS K X (.Constant (.int i) j pos) (tC (.int i)) (xC (.int i)) := j_con pe_int fun _ _ => .int i
theorem j_bl {i : Bool} {j : Nat} : JS K X (.Constant (.bool i) j pos) (tC (.bl i)) (xC (.bl i)) := j_con pe_bl fun _ _ => .bl i
theorem j_non {j : Nat} : JS K X (.Constant .none j pos) (tC .non) (xC .non) := j_con pe_non fun _ _ => .non
theorem j_str {i : Str} {j : Nat} : JS K X (.Constant (.str i) j pos) (tC (.str i)) (xC (.str i)) := j_con pe_str fun _ _ => .str i

/-! ### operators by values -/
abbrev O2 := D → D → (D → Prop) → Prop
abbrev O1 := D → (D → Prop) → Prop
def OpS (K : PySem.W.Frag) (r : R2) (o : O2) : Prop := ∀ (P : Option Addr) (H G : Hp) (x y : V) (a b : D), Wf K P H G → RepW K P G H x a → RepW K P G H y b → ∀ Q, o a b Q → ∀ R : VK,
  (∀ d v H' G', Q d → Up P H G H' G' → Wf K P H' G' → Rep K P G' v d → R v H') → r x y H R
def UnS (K : PySem.W.Frag) (r : V → Hp → VK → Prop) (o : O1) : Prop := ∀ (P : Option Addr) (H G : Hp) (x : V) (a : D), Wf K P H G → RepW K P G H x a → ∀ Q, o a Q → ∀ R : VK,
  (∀ d v H' G', Q d → Up P H G H' G' → Wf K P H' G' → Rep K P G' v d → R v H') → r x H R
def orR (r s : R2) : R2 := fun x y H Q => r x y H Q ∨ s x y H Q
theorem or_op {f : Value → Value → Sem Value} {r s : R2} (h1 : OpR X f r) (h2 : OpR X f s) : OpR X f (orR r s) := fun pins s σ H x y v u Q I rx ry h => h.elim (h1 pins s σ H x y v u Q I rx ry) (h2 pins s σ H x y v u Q I rx ry)
def xOp (o : O2) (pa pb : PX) : PX := fun env Q => pa env fun x => pb env fun y => o x y Q
def xUn (o : O1) (pa : PX) : PX := fun env Q => pa env fun x => o x Q
theorem ev_op {K : PySem.W.Frag} {P : Option Addr} {ta tb : TE} {r : R2} {o : O2} (hr : OpS K r o) (ha : EvW K P ta pa) (hb : EvW K P tb pb) : EvS K P (tOp r ta tb) (xOp o pa pb) := fun G0 H0 env σ H G S Q hq R k =>
  ha G0 H0 env σ H G S _ hq _ fun d v H1 G1 q1 u1 w1 r1 =>
    hb G0 H0 env σ H1 G1 (S.step u1 w1) _ q1 _ fun e y H2 G2 q2 u2 w2 r2 =>
      hr P H2 G2 v y d e w2 (r1.up u2) r2 Q q2 R fun z x H3 G3 q3 u3 w3 r3 => k z x H3 G3 q3 ((u1.trans u2).trans u3) w3 r3
theorem ev_un {K : PySem.W.Frag} {P : Option Addr} {ta : TE} {r : V → Hp → VK → Prop} {o : O1} (hr : UnS K r o) (ha : EvW K P ta pa) : EvS K P (tUn r ta) (xUn o pa) := fun G0 H0 env σ H G S Q hq R k =>
  ha G0 H0 env σ H G S _ hq _ fun d v H1 G1 q1 u1 w1 r1 => hr P H1 G1 v d w1 r1 Q q1 R fun z x H3 G3 q3 u3 w3 r3 => k z x H3 G3 q3 (u1.trans u3) w3 r3
theorem j_op {op : Operator} {r : R2} {o : O2} (ho : OpR X (binaryOp op) r) (hs : OpS K r o) (ha : JW K X a ta pa) (hb : JW K X b tb pb) : JS K X (.BinOp a op b pos) (tOp r ta tb) (xOp o pa pb) := ⟨pe_op ho ha.1 hb.1, fun P => ev_op hs (ha.2 P) (hb.2 P)⟩
theorem j_un {op : UnaryOp} {r : V → Hp → VK → Prop} {o : O1} (ho : UnR X (unaryOp op) r) (hs : UnS K r o) (ha : JW K X a ta pa) : JS K X (.UnaryOp op a pos) (tUn r ta) (xUn o pa) := ⟨pe_un ho ha.1, fun P => ev_un hs (ha.2 P)⟩
theorem j_cmp {op : CmpOp} {r : R2} {o : O2} (ho : OpR X (compareOp op) r) (hs : OpS K r o) (hm : behindInMarks op b = false) (ha : JW K X a ta pa) (hb : JW K X b tb pb) : JS K X (.Compare a [op] [b] pos) (tOp r ta tb) (xOp o pa pb) := ⟨pe_cmpR ho ha.1 hb.1 hm, fun P => ev_op hs (ha.2 P) (hb.2 P)⟩
/-- a comparison as a test -/
def xTest (p : PX) : PTt := fun env Q => p env fun d => match d with
  | .bl b => Q b
  | _ => False
theorem ev_test {K : PySem.W.Frag} {P : Option Addr} {ta : TE} (ha : EvS K P ta p) : EvT K P (tTest ta) (xTest p) := fun G0 H0 env σ H G S Q hq R k =>
  ha G0 H0 env σ H G S _ hq _ fun d v H1 G1 q1 u1 w1 r1 => by
    cases d with
    | bl c => exact ⟨c, r1.bl_inv, k c H1 G1 q1 u1 w1⟩
    | _ => exact False.elim q1
theorem ev_testB {K : PySem.W.Frag} {P : Option Addr} {ta : TE} (ha : EvW K P ta p) : EvT K P (tB ta) (xTest p) := fun G0 H0 env σ H G S Q hq R k =>
  ha G0 H0 env σ H G S _ hq _ fun d v H1 G1 q1 u1 w1 r1 => by
    cases d with
    | bl c => exact ⟨c, r1.bl_inv, k c H1 G1 q1 u1 w1⟩
    | _ => exact False.elim q1
theorem j_tcmp {op : CmpOp} {r : R2} {o : O2} (ho : OpR X (compareOp op) r) (hs : OpS K r o) (hm : behindInMarks op b = false) (ha : JW K X a ta pa) (hb : JW K X b tb pb) : JT K X (.Compare a [op] [b] pos) (tTest (tOp r ta tb)) (xTest (xOp o pa pb)) := ⟨pt_cmpR ho ha.1 hb.1 hm, fun P => ev_test (ev_op hs (ha.2 P) (hb.2 P))⟩
/-- a value as a test, by its truth -/
def truD : D → Option Bool
  | .non => some false
  | .bl b => some b
  | .int i => some (i != 0)
  | .lst xs => some (!xs.isEmpty)
  | .tup xs => some (!xs.isEmpty)
  | _ => none
def xTru (p : PX) : PTt := fun env Q => p env fun d => ∃ b, truD d = some b ∧ Q b
theorem RepL.emp {K : PySem.W.Frag} {P : Option Addr} {G : Hp} {xs : List V} {ds : List D} (h : RepL K P G xs ds) : xs.isEmpty = ds.isEmpty := by
  cases h <;> rfl
def tTr (K : PySem.W.Frag) (ta : TE) : TT := fun σ H Q => ta σ H fun x H' => ∃ k, TruV K x H' k ∧ Q k H'
theorem j_tru (ha : JW K X a ta pa) (he : ∀ whole, isTrue a X.env whole = (do let v ← whole; standAt a.pos; holding [v] (truthy v))) (kk : X.K = K := by rfl) : JT K X a (tTr K ta) (xTru pa) := by
  subst kk
  obtain ⟨h1, h2⟩ := ha
  refine ⟨pt_truth h1 he, fun P G0 H0 env σ H G S Q hq R k => h2 P G0 H0 env σ H G S _ hq _ fun d v H1 G1 q1 u1 w1 r1 => ?_⟩
  obtain ⟨b, hb, q⟩ := q1
  refine ⟨b, ?_, k b H1 G1 q u1 w1⟩
  cases d with
  | non =>
    cases hb
    rw [r1.non_inv]
    rfl
  | bl c =>
    cases hb
    rw [r1.bl_inv]
    rfl
  | int i =>
    cases hb
    rw [r1.int_inv]
    rfl
  | lst xs =>
    cases hb
    obtain ⟨l, ys, rfl, hl, rr⟩ := r1.lst_inv w1
    exact .inl ⟨ys, SqL.of hl, by rw [rr.emp]⟩
  | tup xs =>
    cases hb
    obtain ⟨l, ys, rfl, hl, rr⟩ := r1.tup_inv
    exact .inr (.inl ⟨ys, sqT_le w1.gh hl, by rw [rr.emp]⟩)
  | _ => cases hb
def xNotT (p : PTt) : PTt := fun env Q => p env fun b => Q (!b)
theorem j_not {t : TT} {p : PTt} (h : JT K X a t p) : JT K X (.UnaryOp .Not a pos) (tNot t) (xNotT p) := by
  obtain ⟨h1, h2⟩ := h
  exact ⟨pt_not h1, fun P G0 H0 env σ H G S Q hq R k => h2 P G0 H0 env σ H G S _ hq _ fun b H1 G1 q u w => k _ H1 G1 q u w⟩
def xNot (p : PX) : PX := fun env Q => p env fun d => match d with
  | .bl b => Q (.bl (!b))
  | _ => False
theorem j_notV (h : JW K X a ta pa) : JS K X (.UnaryOp .Not a pos) (tNotV ta) (xNot pa) := by
  obtain ⟨h1, h2⟩ := h
  refine ⟨pe_not h1, fun P G0 H0 env σ H G S Q hq R k => h2 P G0 H0 env σ H G S _ hq _ fun d v H1 G1 q u w r => ?_⟩
  cases d with
  | bl c => exact ⟨c, r.bl_inv, k _ _ H1 G1 q u w (.bl _)⟩
  | _ => exact False.elim q
/-- chains of and, or as tests -/
def JWt (K : PySem.W.Frag) (X : Cx) (e : Expr) (t : TT) (p : PTt) : Prop := PW X e t ∧ ∀ P, EvT K P t p
def xAnd (p q : PTt) : PTt := fun env Q => p env fun b => Br b (q env Q) (Q false)
def xOr (p q : PTt) : PTt := fun env Q => p env fun b => Br b (Q true) (q env Q)
theorem JWt.tt {t : TT} {p : PTt} (h : JWt K X e t p) : JT K X e t p := ⟨h.1.pt, h.2⟩
theorem j_and1 {t : TT} {p : PTt} (h : JT K X a t p) : JWt K X (.BoolOp .And [a] pos) t p := ⟨pw_and1 h.1, h.2⟩
theorem j_or1 {t : TT} {p : PTt} (h : JT K X a t p) : JWt K X (.BoolOp .Or [a] pos) t p := ⟨pw_or1 h.1, h.2⟩
theorem j_and {t u : TT} {p q : PTt} {rest : List Expr} (h : JT K X a t p) (k : JWt K X (.BoolOp .And (b :: rest) pos) u q) : JWt K X (.BoolOp .And (a :: b :: rest) pos) (tAnd t u) (xAnd p q) := by
  obtain ⟨h1, h2⟩ := h
  obtain ⟨h3, h4⟩ := k
  refine ⟨pw_and h1 h3, fun P G0 H0 env σ H G S Q hq R k => h2 P G0 H0 env σ H G S _ hq _ fun c H1 G1 q u w => ?_⟩
  cases c with
  | true =>
    replace q := q.1 rfl
    rw [if_pos rfl]
    exact h4 P G0 H0 env σ H1 G1 (S.step u w) _ q _ fun c H2 G2 q2 u2 w2 => k c H2 G2 q2 (u.trans u2) w2
  | false =>
    replace q := q.2 rfl
    rw [if_neg Bool.false_ne_true]
    exact k false H1 G1 q u w
theorem j_or {t u : TT} {p q : PTt} {rest : List Expr} (h : JT K X a t p) (k : JWt K X (.BoolOp .Or (b :: rest) pos) u q) : JWt K X (.BoolOp .Or (a :: b :: rest) pos) (tOr t u) (xOr p q) := by
  obtain ⟨h1, h2⟩ := h
  obtain ⟨h3, h4⟩ := k
  refine ⟨pw_or h1 h3, fun P G0 H0 env σ H G S Q hq R k => h2 P G0 H0 env σ H G S _ hq _ fun c H1 G1 q u w => ?_⟩
  cases c with
  | true =>
    replace q := q.1 rfl
    rw [if_pos rfl]
    exact k true H1 G1 q u w
  | false =>
    replace q := q.2 rfl
    rw [if_neg Bool.false_ne_true]
    exact h4 P G0 H0 env σ H1 G1 (S.step u w) _ q _ fun c H2 G2 q2 u2 w2 => k c H2 G2 q2 (u.trans u2) w2
/-- and, or as values: all but the last True or False -/
def xAndV (p q : PX) : PX := fun env Q => p env fun d => match d with
  | .bl b => Br b (q env Q) (Q (.bl false))
  | _ => False
def xOrV (p q : PX) : PX := fun env Q => p env fun d => match d with
  | .bl b => Br b (Q (.bl true)) (q env Q)
  | _ => False
theorem j_oneV {op : BoolOp} (h : JS K X a ta pa) : JS K X (.BoolOp op [a] pos) ta pa := ⟨pe_one h.1, h.2⟩
theorem j_andV {rest : List Expr} (h : JW K X a ta pa) (k : JS K X (.BoolOp .And (b :: rest) pos) tb pb) : JS K X (.BoolOp .And (a :: b :: rest) pos) (tAndV ta tb) (xAndV pa pb) := by
  obtain ⟨h1, h2⟩ := h
  obtain ⟨h3, h4⟩ := k
  refine ⟨pe_and h1 h3, fun P G0 H0 env σ H G S Q hq R k => h2 P G0 H0 env σ H G S _ hq _ fun d v H1 G1 q u w r => ?_⟩
  cases d with
  | bl c =>
    refine ⟨c, r.bl_inv, ?_⟩
    cases c with
    | true =>
      rw [if_pos rfl]
      replace q : pb env Q := q.1 rfl
      exact h4 P G0 H0 env σ H1 G1 (S.step u w) _ q _ fun d v H2 G2 q2 u2 w2 r2 => k d v H2 G2 q2 (u.trans u2) w2 r2
    | false =>
      rw [if_neg Bool.false_ne_true]
      exact k _ _ H1 G1 (q.2 rfl) u w (.bl _)
  | _ => exact False.elim q
theorem j_orV {rest : List Expr} (h : JW K X a ta pa) (k : JS K X (.BoolOp .Or (b :: rest) pos) tb pb) : JS K X (.BoolOp .Or (a :: b :: rest) pos) (tOrV ta tb) (xOrV pa pb) := by
  obtain ⟨h1, h2⟩ := h
  obtain ⟨h3, h4⟩ := k
  refine ⟨pe_or h1 h3, fun P G0 H0 env σ H G S Q hq R k => h2 P G0 H0 env σ H G S _ hq _ fun d v H1 G1 q u w r => ?_⟩
  cases d with
  | bl c =>
    refine ⟨c, r.bl_inv, ?_⟩
    cases c with
    | false =>
      rw [if_neg Bool.false_ne_true]
      replace q : pb env Q := q.2 rfl
      exact h4 P G0 H0 env σ H1 G1 (S.step u w) _ q _ fun d v H2 G2 q2 u2 w2 r2 => k d v H2 G2 q2 (u.trans u2) w2 r2
    | true =>
      rw [if_pos rfl]
      exact k _ _ H1 G1 (q.1 rfl) u w (.bl _)
  | _ => exact False.elim q
def xIfE (t : PTt) (pa pb : PX) : PX := fun env Q => t env fun b => Br b (pa env Q) (pb env Q)
theorem j_ifE {tc : TT} {t : PTt} (hc : JT K X c tc t) (ha : JS K X a ta pa) (hb : JS K X b tb pb) : JS K X (.IfExp c a b pos) (tIf tc ta tb) (xIfE t pa pb) := by
  obtain ⟨h1, h2⟩ := hc
  obtain ⟨h3, h4⟩ := ha
  obtain ⟨h5, h6⟩ := hb
  refine ⟨pe_ifExp h1 h3 h5, fun P G0 H0 env σ H G S Q hq R k => h2 P G0 H0 env σ H G S _ hq _ fun c H1 G1 q u w => ?_⟩
  cases c with
  | true =>
    replace q := q.1 rfl
    rw [if_pos rfl]
    exact h4 P G0 H0 env σ H1 G1 (S.step u w) _ q _ fun d v H2 G2 q2 u2 w2 r2 => k d v H2 G2 q2 (u.trans u2) w2 r2
  | false =>
    replace q := q.2 rfl
    rw [if_neg Bool.false_ne_true]
    exact h6 P G0 H0 env σ H1 G1 (S.step u w) _ q _ fun d v H2 G2 q2 u2 w2 r2 => k d v H2 G2 q2 (u.trans u2) w2 r2
end

/-! ### argument lists, displays -/
def xNil : PAa := fun _ Q => Q []
def xCons (p : PX) (r : PAa) : PAa := fun env Q => p env fun d => r env fun ds => Q (d :: ds)
def xTup (r : PAa) : PX := fun env Q => r env fun ds => ds.length ≤ 16777216 ∧ Q (.tup ds)
def xLst (r : PAa) : PX := fun env Q => r env fun ds => ds.length ≤ 16777216 ∧ Q (.lst ds)
section
variable {K : PySem.W.Frag} {X : Cx} {e : Expr} {es : List Expr} {te : TE} {tr : TA} {p : PX} {q : PAa} {pos : Pos}
theorem ja_nil : JA K X [] tNil xNil := ⟨pa_nil, fun P G0 H0 env σ H G S Q hq R k => k [] [] H G hq .refl S.wf .nil⟩
theorem ja_cons (h : JS K X e te p) (t : JA K X es tr q) (hs : starEach (e :: es) X.env = (false, eval e X.env) :: starEach es X.env := by rfl) : JA K X (e :: es) (tCons te tr) (xCons p q) := by
  obtain ⟨h1, h2⟩ := h
  obtain ⟨h3, h4⟩ := t
  exact ⟨pa_cons h1 h3 hs, fun P G0 H0 env σ H G S Q hq R k => h2 P G0 H0 env σ H G S _ hq _ fun d v H1 G1 q1 u1 w1 r1 =>
    h4 P G0 H0 env σ H1 G1 (S.step u1 w1) _ q1 _ fun ds vs H2 G2 q2 u2 w2 r2 => k _ _ H2 G2 q2 (u1.trans u2) w2 (.cons (r1.mono u2.g) r2)⟩
theorem RepWL.up {K : PySem.W.Frag} {P : Option Addr} {H G H' G' : Hp} (u : Up P H G H' G') : ∀ {vs : List V} {ds : List D}, RepWL K P G H vs ds → RepWL K P G' H' vs ds
  | _, _, .nil => .nil
  | _, _, .cons h t => .cons (h.up u) (RepWL.up u t)
theorem jb_nil : JB K X [] tNil xNil := ⟨pa_nil, fun P G0 H0 env σ H G S Q hq R k => k [] [] H G hq .refl S.wf .nil⟩
theorem jb_cons (h : JW K X e te p) (t : JB K X es tr q) (hs : starEach (e :: es) X.env = (false, eval e X.env) :: starEach es X.env := by rfl) : JB K X (e :: es) (tCons te tr) (xCons p q) := by
  obtain ⟨h1, h2⟩ := h
  obtain ⟨h3, h4⟩ := t
  exact ⟨pa_cons h1 h3 hs, fun P G0 H0 env σ H G S Q hq R k => h2 P G0 H0 env σ H G S _ hq _ fun d v H1 G1 q1 u1 w1 r1 =>
    h4 P G0 H0 env σ H1 G1 (S.step u1 w1) _ q1 _ fun ds vs H2 G2 q2 u2 w2 r2 => k _ _ H2 G2 q2 (u1.trans u2) w2 (.cons (r1.up u2) r2)⟩
theorem szle {n : Nat} (h : n ≤ 16777216) : n ≤ sizeLine := by rw [sizeLine_eq]; exact h
theorem szlt {n : Nat} (h : n < 16777216) : n < sizeLine := by rw [sizeLine_eq]; exact h
theorem j_tup {x1 : Nat} (h : JA K X es tr q) : JS K X (.Tuple es x1 pos) (tTup tr) (xTup q) := by
  obtain ⟨h1, h2⟩ := h
  refine ⟨pe_tup h1, fun P G0 H0 env σ H G S Q hq R k => h2 P G0 H0 env σ H G S _ hq _ fun ds vs H1 G1 q1 u1 w1 r1 => ⟨by rw [r1.len]; exact szle q1.1, fun p hp => ?_⟩⟩
  have hg := w1.no hp
  refine k _ _ _ (upd G1 p (.tup vs)) q1.2 (u1.trans ((Up.new hp).take hp hg)) ((w1.new hp).take upd_same hg (w1.npool hp)) (.tup (.inl (.inl upd_same)) (r1.mono fun a v z => by rw [upd_ne (ne_of_none z hg)]; exact z))
theorem j_lst (h : JA K X es tr q) : JF K X (.List es pos) (tLst tr) (xLst q) := by
  obtain ⟨h1, h2⟩ := h
  refine ⟨pe_lst h1, fun P G0 H0 env σ H G S Q hq R k => h2 P G0 H0 env σ H G S _ hq _ fun ds vs H1 G1 q1 u1 w1 r1 => ⟨by rw [r1.len]; exact szle q1.1, fun p hp => ?_⟩⟩
  exact k _ p _ _ G1 q1.2 (u1.trans (Up.new hp)) (w1.new hp) (u1.back hp) upd_same (w1.no hp) (.lst r1)
end
end Pv
namespace Pv
open PySem PySem.Spec L2

/-! ### statements -/
def xSkip : PSt := fun F env => F.nx env
def xSeq (a b : PSt) : PSt := fun F env => a { F with nx := b F } env
def xIf (t : PTt) (a b : PSt) : PSt := fun F env => t env fun c => Br c (a F env) (b F env)
def xRet (p : PX) : PSt := fun F env => p env F.rt
def xRetN : PSt := fun F _ => F.rt .non
def xBrk : PSt := fun F env => F.bk env
def xCnt : PSt := fun F env => F.ct env
def xDrop (p : PX) : PSt := fun F env => p env fun _ => F.nx env
def xSet (i : Nat) (p : PX) : PSt := fun F env => p env fun d => F.nx (env.set i (some (.fz d)))
def xOwn (i : Nat) (p : PX) : PSt := fun F env => p env fun d => F.nx (env.set i (some (.mu d)))
/-- ghosts: a slot is given up; slots are forgotten -/
def xFrz (i : Nat) (r : PSt) : PSt := fun F env => match env[i]? with
  | some (some (.mu d)) => r F (env.set i (some (.fz d)))
  | _ => r F env
def wipeE (env : En) : List Nat → En
  | [] => env
  | v :: vs => (wipeE env vs).set v none
def xWipe (ks : List Nat) (r : PSt) : PSt := fun F env => r F (wipeE env ks)
theorem wipeE_length (env : En) : ∀ vs : List Nat, (wipeE env vs).length = env.length
  | [] => rfl
  | v :: vs => by unfold wipeE; rw [List.length_set, wipeE_length env vs]
theorem wipeE_some {env : En} {i : Nat} {x : Sl} : ∀ {vs : List Nat}, (wipeE env vs)[i]? = some (some x) → env[i]? = some (some x) ∧ i ∉ vs
  | [], h => ⟨h, by simp⟩
  | v :: vs, h => by
    unfold wipeE at h
    by_cases hi : v = i
    · subst hi
      by_cases hv : v < (wipeE env vs).length
      · rw [List.getElem?_set_self hv] at h; cases h
      · rw [List.getElem?_eq_none (by simpa using hv)] at h; cases h
    · rw [List.getElem?_set_ne hi] at h
      obtain ⟨h1, h2⟩ := wipeE_some h
      exact ⟨h1, by simp only [List.mem_cons, not_or]; exact ⟨fun e => hi e.symm, h2⟩⟩
section
variable {K : PySem.W.Frag} {P : Option Addr} {G0 H0 : Hp} {env : En} {σ : L2.St} {H G H' G' : Hp}
theorem SR.wipe (S : SR K P G0 H0 env σ H G) (ks : List Nat) : SR K P G0 H0 (wipeE env ks) σ H G := S.weak (wipeE_length env ks) fun _ _ h => (wipeE_some h).1
theorem SR.wipe2 (S : SR K P G0 H0 env σ H G) (ks : List Nat) : SR K P G0 H0 (wipeE env ks) (L2.wipe σ ks) H G := by
  have W := S.wipe ks
  have g : ∀ (i : Nat) (s : Sl), (wipeE env ks)[i]? = some (some s) → (L2.wipe σ ks)[i]? = σ[i]? := fun i s h => by
    have ni := (wipeE_some h).2
    have go : ∀ (vs : List Nat), i ∉ vs → (L2.wipe σ vs)[i]? = σ[i]? := by
      intro vs
      induction vs with
      | nil => intro _; rfl
      | cons v vs ih =>
        intro hi
        unfold L2.wipe
        rw [List.getElem?_set_ne (fun e => hi (by rw [e]; exact List.mem_cons_self))]
        exact ih fun z => hi (List.mem_cons_of_mem _ z)
    exact go ks ni
  exact ⟨W.wf, W.up, W.pl, by rw [wipe_length, W.len], fun i d e => by rw [g i _ e]; exact W.slot i d e, fun i d e => by rw [g i _ e]; exact W.own i d e, fun i j d e p h1 h2 h3 h4 => by
    rw [g i _ h1] at h3
    rw [g j _ h2] at h4
    exact W.dis i j d e p h1 h2 h3 h4, fun i p d e => by rw [g i _ e]; exact W.hld i p d e⟩
/-- what follows a step of an expression -/
theorem Lnk.up {F : Fx} {E : Ends} (l : Lnk K P G0 H0 G F E) (u : Up P H G H' G') : Lnk K P G0 H0 G' F E := l.mono u.g
end
section
variable {K : PySem.W.Frag} {X : Cx} {e a b c : Expr} {te : TE} {p pa pb : PX} {pos : Pos} {st : Stmt} {sts rest : List Stmt} {s t u : PSt}
theorem jcs_nil : JCs K X [] xSkip := ⟨_, pss_nil, fun P G0 H0 env σ H G S F E L q => L.nx env σ H G .refl S q⟩
theorem jcs_cons (h : JC K X st t) (k : JCs K X rest u) : JCs K X (st :: rest) (xSeq t u) := by
  obtain ⟨t', h1, h2⟩ := h
  obtain ⟨u', h3, h4⟩ := k
  refine ⟨_, pss_cons h1 h3, fun P G0 H0 env σ H G S F E L q => ?_⟩
  exact h2 P G0 H0 env σ H G S { F with nx := u F } { E with nx := u' E } ⟨fun env σ H1 G1 l S1 q1 => h4 P G0 H0 env σ H1 G1 S1 F E (L.mono l) q1, L.bk, L.ct, L.rt⟩ q
theorem jcs_one (h : JC K X st t) : JCs K X [st] t := let ⟨t', h1, h2⟩ := h; ⟨t', pss_one h1, h2⟩
theorem jcs_frz (i : Nat) (h : JCs K X sts t) : JCs K X sts (xFrz i t) := by
  obtain ⟨t', h1, h2⟩ := h
  refine ⟨t', h1, fun P G0 H0 env σ H G S F E L q => ?_⟩
  unfold xFrz at q
  split at q
  · rename_i d hd
    obtain ⟨p, o, l, S'⟩ := S.frz hd
    exact h2 P G0 H0 _ σ H _ S' F E (L.mono l) q
  · exact h2 P G0 H0 _ σ H _ S F E L q
theorem jcs_wipe (ks : List Nat) (h : JCs K X sts t) : JCs K X sts (xWipe ks t) := by
  obtain ⟨t', h1, h2⟩ := h
  exact ⟨t', h1, fun P G0 H0 env σ H G S F E L q => h2 P G0 H0 _ σ H _ (S.wipe ks) F E L q⟩
theorem jc_pass : JC K X (.Pass pos) xSkip := ⟨_, ps_pass, fun P G0 H0 env σ H G S F E L q => L.nx env σ H G .refl S q⟩
theorem jc_brk : JC K X (.Break pos) xBrk := ⟨_, ps_break, fun P G0 H0 env σ H G S F E L q => L.bk env σ H G .refl S q⟩
theorem jc_cnt : JC K X (.Continue pos) xCnt := ⟨_, ps_continue, fun P G0 H0 env σ H G S F E L q => L.ct env σ H G .refl S q⟩
theorem jc_ret (h : JS K X e te p) : JC K X (.Return (some e) pos) (xRet p) := by
  obtain ⟨h1, h2⟩ := h
  exact ⟨_, ps_ret h1, fun P G0 H0 env σ H G S F E L q => h2 P G0 H0 env σ H G S _ q _ fun d v H1 G1 q1 u w r => L.rt d v H1 G1 u.g (S.up.trans u) w r q1⟩
theorem jc_retN : JC K X (.Return none pos) xRetN := ⟨_, ps_retN, fun P G0 H0 env σ H G S F E L q => L.rt _ _ H G .refl S.up S.wf .non q⟩
theorem jc_if {tc : TT} {t : PTt} {x y : List Stmt} {s u : PSt} (hc : JT K X c tc t) (hx : JCs K X x s) (hy : JCs K X y u) : JC K X (.If c x y pos) (xIf t s u) := by
  obtain ⟨h1, h2⟩ := hc
  obtain ⟨ta, h3, h4⟩ := hx
  obtain ⟨tb, h5, h6⟩ := hy
  refine ⟨_, ps_if h1 h3 h5, fun P G0 H0 env σ H G S F E L q => h2 P G0 H0 env σ H G S _ q _ fun c H1 G1 q u w => ?_⟩
  cases c with
  | true =>
    replace q := q.1 rfl
    rw [if_pos rfl]
    exact h4 P G0 H0 env σ H1 G1 (S.step u w) F E (L.up u) q
  | false =>
    replace q := q.2 rfl
    rw [if_neg Bool.false_ne_true]
    exact h6 P G0 H0 env σ H1 G1 (S.step u w) F E (L.up u) q
theorem jc_drop (h : JS K X e te p) (hs : swapsWith e none pos.line X.env = pure false := by rfl) : JC K X (.Expr e pos) (xDrop p) := by
  obtain ⟨h1, h2⟩ := h
  exact ⟨_, ps_expr h1 hs, fun P G0 H0 env σ H G S F E L q => h2 P G0 H0 env σ H G S _ q _ fun d v H1 G1 q1 u w r => L.nx env σ H1 G1 u.g (S.step u w) q1⟩
theorem ev_set {K : PySem.W.Frag} {P : Option Addr} {te : TE} (i : Nat) (h : EvS K P te p) : EvC K P (tAsg te (gName i)) (xSet i p) := fun G0 H0 env σ H G S F E L q => h G0 H0 env σ H G S _ q _ fun d v H1 G1 q1 u w r => L.nx _ _ H1 G1 u.g ((S.step u w).setFz r) q1
theorem ev_own {K : PySem.W.Frag} {P : Option Addr} {te : TE} (i : Nat) (h : EvF K P te p) : EvC K P (tAsg te (gName i)) (xOwn i p) := fun G0 H0 env σ H G S F E L q => h G0 H0 env σ H G S _ q _ fun d v o H1 G1 q1 u w e1 e2 e3 c => by
  have S1 := S.step u w
  refine L.nx _ _ H1 G1 u.g (S1.setMu (p := v) (S.up.back e1) e3 e2 c fun j d' hj hs => ?_) q1
  obtain ⟨q, o', h1, h2, h3, h4, h5⟩ := S.own j d' hj
  rw [hs] at h1
  cases h1
  rw [e1] at h4
  cases h4
theorem jc_set {i : Nat} {x : Str} {pos' : Pos} (hN : X.N.Nodup) (hi : X.N[i]? = some x) (hx : Loc X.env.scope x) (h : JS K X e te p) (hs : swapsWith e (some (.Name x pos')) pos.line X.env = pure false := by rfl) (hf : X.fn x = true ∨ X.env.scope.names.lookup x = some .local := by first | exact .inl rfl | exact .inr rfl | assumption) :
    JC K X (.Assign [.Name x pos'] e pos) (xSet i p) := ⟨_, ps_set hN hi hx h.1 hs hf, fun P => ev_set i (h.2 P)⟩
theorem jc_own {i : Nat} {x : Str} {pos' : Pos} (hN : X.N.Nodup) (hi : X.N[i]? = some x) (hx : Loc X.env.scope x) (h : JF K X e te p) (hs : swapsWith e (some (.Name x pos')) pos.line X.env = pure false := by rfl) (hf : X.fn x = true ∨ X.env.scope.names.lookup x = some .local := by first | exact .inl rfl | exact .inr rfl | assumption) :
    JC K X (.Assign [.Name x pos'] e pos) (xOwn i p) := ⟨_, ps_set hN hi hx h.1 hs hf, fun P => ev_own i (h.2 P)⟩
/-- a, b = x, y -/
def xPar (i j : Nat) (q : PAa) : PSt := fun F env => q env fun ds => match ds with
  | [d, e] => F.nx ((env.set i (some (.fz d))).set j (some (.fz e)))
  | _ => False
theorem jc_par {i j : Nat} {x y : Str} {ta : TA} {q : PAa} {px py pt : Pos} {kt k2 pt2} (hc : X.calm = true) (hN : X.N.Nodup) (hi : X.N[i]? = some x) (hj : X.N[j]? = some y) (hij : i ≠ j)
    (hx : X.env.scope.names.lookup x = some .local) (hy : X.env.scope.names.lookup y = some .local) (ha : JA K X [a, b] ta q)
    (hw : swappedStores [.Tuple [.Name x px, .Name y py] kt pt] (.Tuple [a, b] k2 pt2) X.env = pure (some [x, y]))
    (hs : swapsWithSole [.Tuple [.Name x px, .Name y py] kt pt] (.Tuple [a, b] k2 pt2) pos.line X.env = pure false := by rfl) :
    JC K X (.Assign [.Tuple [.Name x px, .Name y py] kt pt] (.Tuple [a, b] k2 pt2) pos) (xPar i j q) := by
  obtain ⟨h1, h2⟩ := ha
  refine ⟨_, ps_par hc hN hi hj hij hx hy h1 hw hs, fun P G0 H0 env σ H G S F E L q => h2 P G0 H0 env σ H G S _ q _ fun ds vs H1 G1 q1 u w r => ?_⟩
  cases r with
  | nil => exact False.elim q1
  | cons r1 r =>
    cases r with
    | nil => exact False.elim q1
    | cons r2 r =>
      cases r with
      | cons _ _ => exact False.elim q1
      | nil => exact ⟨_, _, rfl, L.nx _ _ H1 G1 u.g (((S.step u w).setFz r1).setFz r2) q1⟩
end

/-! ### targets: names, tuples of them -/
def xTg (i : Nat) : D → En → (En → Prop) → Prop := fun d env Q => Q (env.set i (some (.fz d)))
abbrev PTg := D → En → (En → Prop) → Prop
abbrev PTgs := List D → En → (En → Prop) → Prop
def xTgT (n : Nat) (ts : PTgs) : PTg := fun d env Q => match d with
  | .tup ds => ds.length = n ∧ ts ds env Q
  | _ => False
def xTgNil : PTgs := fun ds env Q => match ds with
  | [] => Q env
  | _ => False
def xTgCons (t : PTg) (ts : PTgs) : PTgs := fun ds env Q => match ds with
  | d :: ds => t d env fun env' => ts ds env' Q
  | _ => False
/-- slots at is alone have changed -/
def Chg (is : List Nat) (σ σ' : L2.St) : Prop := σ'.length = σ.length ∧ ∀ i, i ∉ is → σ'[i]? = σ[i]?
/-- own slots are as they were -/
def Ow (env : En) (σ : L2.St) (env' : En) (σ' : L2.St) : Prop := ∀ (j : Nat) (e : D), env'[j]? = some (some (.mu e)) → env[j]? = some (some (.mu e)) ∧ σ'[j]? = σ[j]?
theorem Ow.refl {env : En} {σ : L2.St} : Ow env σ env σ := fun _ _ h => ⟨h, rfl⟩
theorem Ow.trans {env env1 env2 : En} {σ σ1 σ2 : L2.St} (a : Ow env σ env1 σ1) (b : Ow env1 σ1 env2 σ2) : Ow env σ env2 σ2 := fun j e h => ⟨(a j e (b j e h).1).1, (b j e h).2.trans (a j e (b j e h).1).2⟩
theorem Ow.set {env : En} {σ : L2.St} {i : Nat} {d : D} {v : Option V} : Ow env σ (env.set i (some (.fz d))) (σ.set i v) := fun j e h => by
  by_cases hj : i = j
  · subst hj
    have hl : i < env.length := by
      have := (List.getElem?_eq_some_iff.mp h).1
      rwa [List.length_set] at this
    rw [List.getElem?_set_self hl] at h
    cases h
  · rw [List.getElem?_set_ne hj] at h
    exact ⟨h, List.getElem?_set_ne hj⟩
def EvG (K : PySem.W.Frag) (P : Option Addr) (is : List Nat) (g : TG) (t : PTg) : Prop := ∀ G0 H0 env σ H G, SR K P G0 H0 env σ H G → ∀ d v, Rep K P G v d → ∀ Q, t d env Q → ∀ R : L2.St → Hp → Prop, (∀ env' σ', Q env' → SR K P G0 H0 env' σ' H G → Chg is σ σ' → Ow env σ env' σ' → R σ' H) → g v σ H R
def EvGs (K : PySem.W.Frag) (P : Option Addr) (is : List Nat) (g : TGs) (t : PTgs) : Prop := ∀ G0 H0 env σ H G, SR K P G0 H0 env σ H G → ∀ d v, RepL K P G v d → ∀ Q, t d env Q → ∀ R : L2.St → Hp → Prop, (∀ env' σ', Q env' → SR K P G0 H0 env' σ' H G → Chg is σ σ' → Ow env σ env' σ' → R σ' H) → g v σ H R
def JG (K : PySem.W.Frag) (X : Cx) (e : Expr) (is : List Nat) (g : TG) (t : PTg) : Prop := PG X e g ∧ ∀ P, EvG K P is g t
def JGs (K : PySem.W.Frag) (X : Cx) (es : List Expr) (is : List Nat) (g : TGs) (t : PTgs) : Prop := PGs X es g ∧ ∀ P, EvGs K P is g t
section
variable {K : PySem.W.Frag} {X : Cx} {e : Expr} {es : List Expr} {pos : Pos} {is js : List Nat} {te : TE} {g : TG} {gs : TGs} {t : PTg} {ts : PTgs} {p : PX}
theorem chg_set {σ : L2.St} {i : Nat} {v : Option V} : Chg [i] σ (σ.set i v) := ⟨List.length_set, fun j hj => List.getElem?_set_ne fun z => hj (by rw [z]; exact List.mem_cons_self)⟩
theorem Chg.trans {σ σ1 σ2 : L2.St} (a : Chg is σ σ1) (b : Chg js σ1 σ2) : Chg (is ++ js) σ σ2 := ⟨b.1.trans a.1, fun i hi => (b.2 i fun z => hi (List.mem_append_right _ z)).trans (a.2 i fun z => hi (List.mem_append_left _ z))⟩
theorem wipe_at {σ : L2.St} {i : Nat} : ∀ {vs : List Nat}, (L2.wipe σ vs)[i]? = if i ∈ vs then (if i < σ.length then some none else none) else σ[i]?
  | [] => by simp [L2.wipe]
  | v :: vs => by
    unfold L2.wipe
    by_cases h : v = i
    · subst h
      rw [if_pos List.mem_cons_self]
      by_cases hl : v < σ.length
      · rw [List.getElem?_set_self (by rw [wipe_length]; exact hl), if_pos hl]
      · rw [List.getElem?_eq_none (by rw [List.length_set, wipe_length]; exact Nat.le_of_not_lt hl), if_neg hl]
    · rw [List.getElem?_set_ne h, wipe_at]
      have : (i ∈ v :: vs) ↔ i ∈ vs := ⟨fun z => (List.mem_cons.mp z).elim (fun z => absurd z.symm h) id, List.mem_cons_of_mem _⟩
      by_cases hi : i ∈ vs
      · rw [if_pos hi, if_pos (this.mpr hi)]
      · rw [if_neg hi, if_neg fun z => hi (this.mp z)]
theorem Chg.wipe {σ σ' : L2.St} {vs : List Nat} (c : Chg is σ σ') (h : ∀ i ∈ is, i ∈ vs) : L2.wipe σ' vs = L2.wipe σ vs := by
  apply List.ext_getElem?
  intro i
  rw [wipe_at, wipe_at, c.1]
  by_cases hi : i ∈ vs
  · rw [if_pos hi, if_pos hi]
  · rw [if_neg hi, if_neg hi, c.2 i fun z => hi (h i z)]
theorem wipe_wipe {σ : L2.St} {vs : List Nat} : L2.wipe (L2.wipe σ vs) vs = L2.wipe σ vs := by
  apply List.ext_getElem?
  intro i
  rw [wipe_at, wipe_length, wipe_at]
  by_cases hi : i ∈ vs
  · rw [if_pos hi, if_pos hi]
  · rw [if_neg hi, if_neg hi]
theorem jg_name (i : Nat) {x : Str} (h : PG X (.Name x pos) (gName i)) : JG K X (.Name x pos) [i] (gName i) (xTg i) := ⟨h, fun P G0 H0 env σ H G S d v r Q q R k => k _ _ q (S.setFz r) chg_set Ow.set⟩
theorem jgs_nil : JGs K X [] [] gNil xTgNil := ⟨pgs_nil, fun P G0 H0 env σ H G S d v r Q q R k => by
  cases r with
  | nil => exact ⟨rfl, k _ _ q S ⟨rfl, fun _ _ => rfl⟩ Ow.refl⟩
  | cons _ _ => exact False.elim q⟩
theorem jgs_cons (h : JG K X e is g t) (k : JGs K X es js gs ts) (h1 : (assignEach (e :: es) X.env).map (·.2) = assign e X.env :: (assignEach es X.env).map (·.2) := by rfl) : JGs K X (e :: es) (is ++ js) (gCons g gs) (xTgCons t ts) := by
  obtain ⟨h2, h3⟩ := h
  obtain ⟨h4, h5⟩ := k
  refine ⟨pgs_cons h2 h4 h1, fun P G0 H0 env σ H G S d v r Q q R k => ?_⟩
  cases r with
  | nil => exact False.elim q
  | cons r1 r2 => exact ⟨_, _, rfl, h3 P G0 H0 env σ H G S _ _ r1 _ q _ fun env' σ' q' S' c o => h5 P G0 H0 env' σ' H G S' _ _ r2 _ q' _ fun env2 σ2 q2 S2 c2 o2 => k env2 σ2 q2 S2 (c.trans c2) (o.trans o2)⟩
theorem jg_tup {k n : Nat} (hc : X.calm = true) (h : JGs K X es is gs ts) (hn : (assignEach es X.env).length = n := by rfl) (hst : (assignEach es X.env).findIdx? (·.1) = none := by rfl) (kk : X.K = K := by rfl) : JG K X (.Tuple es k pos) is (gTup K n gs) (xTgT n ts) := by
  subst kk
  obtain ⟨h1, h2⟩ := h
  refine ⟨pg_tup hc h1 hn hst, fun P G0 H0 env σ H G S d v r Q q R k => ?_⟩
  cases d with
  | tup ds =>
    obtain ⟨a, xs, rfl, hq, rr⟩ := r.tup_inv
    exact ⟨a, xs, rfl, sqT_le S.wf.gh hq, rr.len.trans q.1, h2 P G0 H0 env σ H G S ds xs rr Q q.2 R k⟩
  | _ => exact False.elim q
def xAsg (p : PX) (t : PTg) : PSt := fun F env => p env fun d => t d env F.nx
theorem jc_asg {tg : Expr} (he : JS K X e te p) (hg : JG K X tg is g t) (hs : swapsWithSole [tg] e pos.line X.env = pure false := by rfl) (hw : swappedStores [tg] e X.env = pure none := by rfl)
    (h1 : (assignEach [tg] X.env).map (·.2) = [assign tg X.env] := by rfl) : JC K X (.Assign [tg] e pos) (xAsg p t) := by
  obtain ⟨h2, h3⟩ := he
  obtain ⟨h4, h5⟩ := hg
  exact ⟨_, ps_asg h2 h4 hs hw h1, fun P G0 H0 env σ H G S F E L q => h3 P G0 H0 env σ H G S _ q _ fun d v H1 G1 q1 u w r => h5 P G0 H0 env σ H1 G1 (S.step u w) d v r _ q1 _ fun env' σ' q2 S2 _ _ => L.nx env' σ' H1 G1 u.g S2 q2⟩
end
end Pv
namespace Pv
open PySem PySem.Spec L2

/-! ### what is walked -/
/-- from the view G on the iterator gives the data ds, one a turn -/
def Wlk (K : PySem.W.Frag) (P : Option Addr) (J : It) (ds : List D) (G H0 : Hp) : Prop := ∀ H2 G2, Le G G2 → Wf K P H2 G2 → (∀ a o, H0 a = some o → P ≠ some a → H2 a = some o) → ∀ i : Nat,
  (ds.length ≤ i → J.stop i H2) ∧ ∀ d, ds[i]? = some d → J.go i H2 ∧ ∀ x H3, J.yld i H2 x H3 → ∃ G3, Up P H2 G2 H3 G3 ∧ Wf K P H3 G3 ∧ Rep K P G3 x d
def EvI (K : PySem.W.Frag) (P : Option Addr) (wi : TI) (src : PAa) : Prop := ∀ G0 H0 env σ H G, SR K P G0 H0 env σ H G → ∀ Q, src env Q → ∀ R : It → Hp → Prop, (∀ ds J H' G', Q ds → Up P H G H' G' → Wf K P H' G' → Wlk K P J ds G' H0 → R J H') → wi σ H R
def JI (K : PySem.W.Frag) (X : Cx) (tg it : Expr) (wi : TI) (src : PAa) : Prop := PI X tg it wi ∧ ∀ P, EvI K P wi src

def xLoop (t : PTg) (ks : List Nat) (body : PSt) (F : Fx) : List D → En → Prop
  | [], env => F.nx env
  | d :: ds, env => t d env fun env' => body { nx := fun e => xLoop t ks body F ds (wipeE e ks), ct := fun e => xLoop t ks body F ds (wipeE e ks), bk := F.nx, rt := F.rt } env'
def xFor (src : PAa) (t : PTg) (ks : List Nat) (body : PSt) : PSt := fun F env => src env fun ds => xLoop t ks body F ds (wipeE env ks)
def xWhileN (t : PTt) (ks : List Nat) (body : PSt) (F : Fx) : Nat → En → Prop
  | 0, _ => False
  | n + 1, env => t env fun b => Br b (body { nx := fun e => xWhileN t ks body F n (wipeE e ks), ct := fun e => xWhileN t ks body F n (wipeE e ks), bk := F.nx, rt := F.rt } env) (F.nx env)
def xWhile (t : PTt) (ks : List Nat) (body : PSt) : PSt := fun F env => ∃ n, xWhileN t ks body F n (wipeE env ks)
section
variable {K : PySem.W.Frag} {P : Option Addr} {is : List Nat} {t : PTg} {body : PSt} {wi : TI} {src : PAa} {g : TG} {tb : TS}
theorem ev_for (ks : List Nat) (hi : EvI K P wi src) (hg : EvG K P is g t) (hb : EvC K P tb body) : EvC K P (tFor wi g tb) (xFor src t ks body) := fun G0 H0 env σ H G S F E L q =>
  hi G0 H0 env σ H G S _ q _ fun ds J H1 G1 q1 u1 w1 wk => by
    refine ⟨fun i m σ H => m = ds.length - i ∧ i ≤ ds.length ∧ ∃ env G, Le G1 G ∧ SR K P G0 H0 env σ H G ∧ xLoop t ks body F (ds.drop i) env, ⟨ds.length, by simp, Nat.zero_le _, _, G1, .refl, (S.step u1 w1).wipe ks, q1⟩, ?_⟩
    rintro i m σ2 H2 ⟨rfl, hi, env2, G2, l2, S2, q2⟩
    by_cases hlt : i < ds.length
    · rw [List.drop_eq_getElem_cons hlt] at q2
      have hd : ds[i]? = some ds[i] := List.getElem?_eq_getElem hlt
      obtain ⟨go, yl⟩ := (wk H2 G2 l2 S2.wf S2.up.h i).2 _ hd
      refine .inr ⟨go, fun σ' H' => ∃ env G, Le G1 G ∧ SR K P G0 H0 env σ' H' G ∧ xLoop t ks body F (ds.drop (i + 1)) env, fun σ' H' n => ⟨ds.length - (i + 1), by omega, rfl, hlt, n⟩, fun x H3 y => ?_⟩
      obtain ⟨G3, u3, w3, r3⟩ := yl x H3 y
      have l3 : Le G1 G3 := fun a o z => u3.g a o (l2 a o z)
      refine hg G0 H0 env2 σ2 H3 G3 (S2.step u3 w3) _ x r3 _ q2 _ fun env4 σ4 q4 S4 _ _ => ?_
      have l0 : Le G G3 := fun a o z => l3 a o (u1.g a o z)
      have ag : ∀ (e : En) (σ5 : L2.St) (H5 G5 : Hp), Le G3 G5 → SR K P G0 H0 e σ5 H5 G5 → xLoop t ks body F (ds.drop (i + 1)) (wipeE e ks) → ∃ env G, Le G1 G ∧ SR K P G0 H0 env σ5 H5 G ∧ xLoop t ks body F (ds.drop (i + 1)) env :=
        fun e σ5 H5 G5 l S5 q5 => ⟨_, G5, fun a o z => l a o (l3 a o z), S5.wipe ks, q5⟩
      exact hb G0 H0 env4 σ4 H3 G3 S4 { nx := fun e => xLoop t ks body F (ds.drop (i + 1)) (wipeE e ks), ct := fun e => xLoop t ks body F (ds.drop (i + 1)) (wipeE e ks), bk := F.nx, rt := F.rt } _ ⟨ag, fun e σ5 H5 G5 l S5 q5 => L.nx e σ5 H5 G5 (fun a o z => l a o (l0 a o z)) S5 q5, ag, fun d v H5 G5 l u w r q5 => L.rt d v H5 G5 (fun a o z => l a o (l0 a o z)) u w r q5⟩ q4
    · have e : i = ds.length := by omega
      subst e
      rw [List.drop_length] at q2
      exact .inl ⟨(wk H2 G2 l2 S2.wf S2.up.h _).1 (Nat.le_refl _), L.nx env2 σ2 H2 G2 (fun a o z => l2 a o (u1.g a o z)) S2 q2⟩
theorem ev_while {c : TT} {pt : PTt} (ks : List Nat) (hc : EvT K P c pt) (hb : EvC K P tb body) : EvC K P (tWhile c tb) (xWhile pt ks body) := fun G0 H0 env σ H G S F E L q => by
  obtain ⟨n, q⟩ := q
  refine ⟨fun m σ2 H2 => ∃ env G2, Le G G2 ∧ SR K P G0 H0 env σ2 H2 G2 ∧ xWhileN pt ks body F m env, ⟨n, _, G, .refl, S.wipe ks, q⟩, ?_⟩
  rintro m σ2 H2 ⟨env2, G2, l2, S2, q2⟩
  cases m with
  | zero => exact False.elim q2
  | succ m =>
    refine hc G0 H0 env2 σ2 H2 G2 S2 _ q2 _ fun b H3 G3 q3 u3 w3 => ?_
    have S3 := S2.step u3 w3
    have l3 : Le G G3 := fun a o z => u3.g a o (l2 a o z)
    cases b with
    | true =>
      replace q3 := q3.1 rfl
      rw [if_pos rfl]
      refine ⟨fun σ' H' => ∃ env G2, Le G G2 ∧ SR K P G0 H0 env σ' H' G2 ∧ xWhileN pt ks body F m env, fun σ' H' n => ⟨m, Nat.lt_succ_self _, n⟩, ?_⟩
      have ag : ∀ (e : En) (σ5 : L2.St) (H5 G5 : Hp), Le G3 G5 → SR K P G0 H0 e σ5 H5 G5 → xWhileN pt ks body F m (wipeE e ks) → ∃ env G2, Le G G2 ∧ SR K P G0 H0 env σ5 H5 G2 ∧ xWhileN pt ks body F m env :=
        fun e σ5 H5 G5 l S5 q5 => ⟨_, G5, fun a o z => l a o (l3 a o z), S5.wipe ks, q5⟩
      exact hb G0 H0 env2 σ2 H3 G3 S3 { nx := fun e => xWhileN pt ks body F m (wipeE e ks), ct := fun e => xWhileN pt ks body F m (wipeE e ks), bk := F.nx, rt := F.rt } _ ⟨ag, fun e σ5 H5 G5 l S5 q5 => L.nx e σ5 H5 G5 (fun a o z => l a o (l3 a o z)) S5 q5, ag, fun d v H5 G5 l u w r q5 => L.rt d v H5 G5 (fun a o z => l a o (l3 a o z)) u w r q5⟩ q3
    | false =>
      replace q3 := q3.2 rfl
      rw [if_neg Bool.false_ne_true]
      exact L.nx env2 σ2 H3 G3 l3 S3 q3
end
section
variable {K : PySem.W.Frag} {X : Cx} {tg it c : Expr} {is : List Nat} {wi : TI} {g : TG} {tc : TT} {src : PAa} {t : PTg} {sts : List Stmt} {body : PSt} {pos : Pos}
theorem jc_for (ks : List Nat) (hp : PassesOwn (model X.prog X.w) X.A X.env X.xe) (hc : X.calm = true) (hi : JI K X tg it wi src) (hg : JG K X tg is g t) (hb : JCs K X sts body) (hs : ∀ x, foldedSetIterable it X.env x = pure x := by intro _; rfl) :
    JC K X (.For tg it sts [] pos) (xFor src t ks body) := by
  obtain ⟨h1, h2⟩ := hi
  obtain ⟨h3, h4⟩ := hg
  obtain ⟨tb, h5, h6⟩ := hb
  exact ⟨_, ps_for hp hc h1 h3 h5 hs, fun P => ev_for ks (h2 P) (h4 P) (h6 P)⟩
theorem jc_while {pt : PTt} (ks : List Nat) (hp : PassesOwn (model X.prog X.w) X.A X.env X.xe) (hc : JT K X c tc pt) (hb : JCs K X sts body) : JC K X (.While c sts [] pos) (xWhile pt ks body) := by
  obtain ⟨h1, h2⟩ := hc
  obtain ⟨tb, h5, h6⟩ := hb
  exact ⟨_, ps_while hp h1 h5, fun P => ev_while ks (h2 P) (h6 P)⟩
end

/-! ### an own object, held through a statement -/
def noHd : Option Sl → Option Sl
  | some (.hd _ _) => none
  | s => s
def unHd (k : Nat) (s : Sl) (d : D) (R : En → Prop) : En → Prop := fun e => e[k]? = some (some s) ∧ R ((e.map noHd).set k (some (.mu d)))
def xHeld (k : Nat) (st : PSt) : PSt := fun F env => match env[k]? with
  | some (some (.mu d)) => ∀ p, st { nx := unHd k (.hd p d) d F.nx, rt := F.rt, bk := unHd k (.hd p d) d F.bk, ct := unHd k (.hd p d) d F.ct } (env.set k (some (.hd p d)))
  | _ => False
theorem jc_held {K : PySem.W.Frag} {X : Cx} {st : Stmt} {p : PSt} (k : Nat) (h : JC K X st p) : JC K X st (xHeld k p) := by
  obtain ⟨ts, h1, h2⟩ := h
  refine ⟨ts, h1, fun P G0 H0 env σ H G S F E L q => ?_⟩
  unfold xHeld at q
  split at q
  · rename_i d hs
    obtain ⟨a, o, h0, hg, hp, c, S'⟩ := S.hold hs
    have g0 : G0 a = none := by
      cases z : G0 a with
      | none => rfl
      | some v =>
        rw [S.up.g a v z] at hg
        cases hg
    have back : ∀ {R : En → Prop} {Z : L2.St → Hp → Prop}, (∀ env σ H' G', Le G G' → SR K P G0 H0 env σ H' G' → R env → Z σ H') → ∀ env σ H' G', Le G G' → SR K P G0 (upd H0 a o) env σ H' G' → unHd k (.hd a d) d R env → Z σ H' := fun {R Z} l env2 σ2 H2 G2 le S2 ⟨z1, z2⟩ => by
      have hl : k < env2.length := (List.getElem?_eq_some_iff.mp z1).1
      have S3 : SR K P G0 (upd H0 a o) ((env2.map noHd).set k (some (.hd a d))) σ2 H2 G2 := S2.weak (by rw [List.length_set, List.length_map]) fun i s hi => by
        by_cases hk : k = i
        · subst hk
          rw [List.getElem?_set_self (by rw [List.length_map]; exact hl)] at hi
          cases hi
          exact z1
        · rw [List.getElem?_set_ne hk, List.getElem?_map] at hi
          cases e : env2[i]? with
          | none => rw [e] at hi; cases hi
          | some s' =>
            rw [e] at hi
            cases s' with
            | none => cases hi
            | some s' => cases s' <;> first | (cases hi; rfl) | cases hi
      have S4 := S3.unhold h0 g0 S.pl (i := k) (d := d) (List.getElem?_set_self (by rw [List.length_map]; exact hl)) fun j q e hj => by
        by_cases hk : k = j
        · exact .inl hk.symm
        · rw [List.getElem?_set_ne hk, List.getElem?_map] at hj
          cases e2 : env2[j]? with
          | none => rw [e2] at hj; cases hj
          | some s' =>
            rw [e2] at hj
            cases s' with
            | none => cases hj
            | some s' => cases s' <;> cases hj
      rw [List.set_set] at S4
      exact l _ σ2 H2 G2 le S4 z2
    exact h2 P G0 (upd H0 a o) _ σ H G S' { nx := unHd k (.hd a d) d F.nx, rt := F.rt, bk := unHd k (.hd a d) d F.bk, ct := unHd k (.hd a d) d F.ct } E ⟨back L.nx, back L.bk, back L.ct, fun d v H' G' l u w r z => L.rt d v H' G' l (u.unhold h0) w r z⟩ (q a)
  · exact q.elim

/-! ### sources -/
def xItems (p : PX) : PAa := fun env Q => p env fun d => match d with
  | .lst ds => Q ds
  | .tup ds => Q ds
  | _ => False
@[irreducible] def xRange (lo n : Int) : List D := (List.range (n - lo).toNat).map fun i => .int (lo + (i : Nat))
def xRng1 (p : PX) : PAa := fun env Q => p env fun d => match d with
  | .int n => (-4611686018427387904 ≤ n ∧ n < 4611686018427387904) ∧ Q (xRange 0 n)
  | _ => False
def xRng2 (p q : PX) : PAa := fun env Q => p env fun d => q env fun e => match d, e with
  | .int lo, .int n => (-4611686018427387904 ≤ lo ∧ lo < 4611686018427387904 ∧ -4611686018427387904 ≤ n ∧ n < 4611686018427387904) ∧ Q (xRange lo n)
  | _, _ => False
theorem xRange_len (lo n : Int) : (xRange lo n).length = (n - lo).toNat := by unfold xRange; simp
theorem xRange_at {lo n : Int} {i : Nat} {d : D} (h : (xRange lo n)[i]? = some d) : d = .int (lo + i) ∧ i < (n - lo).toNat := by
  unfold xRange at h
  rw [List.getElem?_map] at h
  cases e : (List.range (n - lo).toNat)[i]? with
  | none => rw [e] at h; cases h
  | some j =>
    rw [e] at h
    obtain ⟨h1, h2⟩ := List.getElem?_eq_some_iff.mp e
    rw [List.getElem_range] at h2
    subst h2
    rw [List.length_range] at h1
    exact ⟨(Option.some.inj h).symm, h1⟩
section
variable {K : PySem.W.Frag} {X : Cx} {tg e a b : Expr} {t t' : TE} {p q : PX} {pos : Pos}
theorem wlk_list {K : PySem.W.Frag} {P : Option Addr} {G H0 : Hp} {a : Addr} {xs : List V} {ds : List D} (h : G a = some (.lst xs)) (r : RepL K P G xs ds) : Wlk K P (Itl K a) ds G H0 := fun H2 G2 l w _ i => by
  have h2 : SqL K H2 a xs := SqL.of (w.gh _ _ (l _ _ h))
  refine ⟨fun hl => ⟨xs, h2, by rw [r.len]; exact hl⟩, fun d hd => ?_⟩
  obtain ⟨v, hv, rv⟩ := r.get hd
  refine ⟨⟨xs, v, h2, hv⟩, fun x H3 y => ?_⟩
  obtain ⟨rfl, y⟩ := y
  have e := (y xs h2).symm.trans hv
  cases e
  exact ⟨G2, .refl, w, rv.mono l⟩
theorem wlk_tup {K : PySem.W.Frag} {P : Option Addr} {G H0 : Hp} {a : Addr} {xs : List V} {ds : List D} (h : SqT K G a xs) (r : RepL K P G xs ds) : Wlk K P (Itt K a) ds G H0 := fun H2 G2 l w _ i => by
  have h2 : SqT K H2 a xs := sqT_le w.gh (sqT_le l h)
  refine ⟨fun hl => ⟨xs, h2, by rw [r.len]; exact hl⟩, fun d hd => ?_⟩
  obtain ⟨v, hv, rv⟩ := r.get hd
  refine ⟨⟨xs, v, h2, hv⟩, fun x H3 y => ?_⟩
  obtain ⟨rfl, y⟩ := y
  have e := (y xs h2).symm.trans hv
  cases e
  exact ⟨G2, .refl, w, rv.mono l⟩
theorem wlk_rng {K : PySem.W.Frag} {P : Option Addr} {G H0 : Hp} {lo n : Int} : Wlk K P (Itr lo (n - lo).toNat) (xRange lo n) G H0 := fun H2 G2 l w _ i => by
  refine ⟨fun hl => by rw [xRange_len] at hl; exact hl, fun d hd => ?_⟩
  obtain ⟨rfl, hi⟩ := xRange_at hd
  refine ⟨hi, fun x H3 y => ?_⟩
  obtain ⟨rfl, rfl⟩ := y
  exact ⟨G2, .refl, w, .int _⟩
/-- a list or a tuple, as the value turns out -/
def iSq (K : PySem.W.Frag) (tl : TE) : TI := fun σ H R => tl σ H fun x H1 => (∃ a xs, x = .ref a ∧ SqL K H1 a xs ∧ R (Itl K a) H1) ∨ ∃ a xs, x = .ref a ∧ SqT K H1 a xs ∧ R (Itt K a) H1
theorem pi_sq {l : Expr} {tl : TE} (hl : PE X l tl) : PI X tg l (iSq X.K tl) := ⟨fun pins s σ H R I h => thn (hl.run pins s σ H _ I h) fun v s1 ⟨x, H1, I1, r1, q1⟩ => by
  have fp : ∀ b ∈ [s1.heap.objs.size], FpOk X pins H1 b := fun b hb => by
    rw [List.mem_singleton.mp hb]
    exact I1.fpOk (Nat.le_refl _) (I1.hok.fresh (Nat.le_refl _))
  have nw : ∀ ob : Obj, Inv X pins σ H1 { s1 with heap := s1.heap.push ob, toks := s1.toks } := fun ob => I1.kept (fun b o e => Heap.get?_push_of_some _ e)
  rcases q1 with ⟨a, xs, rfl, hq, q⟩ | ⟨a, xs, rfl, hq, q⟩ <;> cases r1
  · obtain ⟨its, _, p, _⟩ := I1.list hq
    exact wpAny_pyIter_list p.isList ⟨_, [s1.heap.objs.size], _, Itl X.K a, H1, rfl, nw _, turn_list a s1.heap.objs.size, ⟨_, Heap.get?_push_size _ rfl, rfl, rfl⟩, fp, q⟩
  · obtain ⟨its, _, p, _⟩ := I1.tuple hq
    exact wpAny_pyIter_tuple (show s1.heap.IsTuple a its.toArray from p) ⟨_, [s1.heap.objs.size], _, Itt X.K a, H1, rfl, nw _, turn_tuple a s1.heap.objs.size, ⟨_, Heap.get?_push_size _ rfl, rfl, rfl⟩, fp, q⟩⟩
theorem ji_items (h : JS K X e t p) (kk : X.K = K := by rfl) : JI K X tg e (iSq K t) (xItems p) := by
  subst kk
  obtain ⟨h1, h2⟩ := h
  refine ⟨pi_sq h1, fun P G0 H0 env σ H G S Q q R k => h2 P G0 H0 env σ H G S _ q _ fun d v H1 G1 q1 u w r => ?_⟩
  cases d with
  | lst ds =>
    obtain ⟨a, xs, rfl, hq, rr⟩ := r.lst_inv
    exact .inl ⟨a, xs, rfl, SqL.of (w.gh _ _ hq), k ds _ H1 G1 q1 u w (wlk_list hq rr)⟩
  | tup ds =>
    obtain ⟨a, xs, rfl, hq, rr⟩ := r.tup_inv
    exact .inr ⟨a, xs, rfl, sqT_le w.gh hq, k ds _ H1 G1 q1 u w (wlk_tup hq rr)⟩
  | _ => exact False.elim q1
/-- an own list, held while it is walked -/
def xItemsH (k : Nat) : PAa := fun env Q => match env[k]? with
  | some (some (.hd _ (.lst ds))) => Q ds
  | _ => False
theorem wlk_held {K : PySem.W.Frag} {P : Option Addr} {G H0 : Hp} {a : Addr} {xs : List V} {ds : List D} (h : H0 a = some (.lst xs)) (hn : P ≠ some a) (r : RepL K P G xs ds) : Wlk K P (Itl K a) ds G H0 := fun H2 G2 l w hh i => by
  have h2 : SqL K H2 a xs := SqL.of (hh _ _ h hn)
  refine ⟨fun hl => ⟨xs, h2, by rw [r.len]; exact hl⟩, fun d hd => ?_⟩
  obtain ⟨v, hv, rv⟩ := r.get hd
  refine ⟨⟨xs, v, h2, hv⟩, fun x H3 y => ?_⟩
  obtain ⟨rfl, y⟩ := y
  have e := (y xs h2).symm.trans hv
  cases e
  exact ⟨G2, .refl, w, rv.mono l⟩
theorem ji_held (k : Nat) {x : Str} {pos : Pos} (h : PE X (.Name x pos) (tVar k)) (kk : X.K = K := by rfl) : JI K X tg (.Name x pos) (iSq K (tVar k)) (xItemsH k) := by
  subst kk
  refine ⟨pi_sq h, fun P G0 H0 env σ H G S Q q R kont => ?_⟩
  unfold xItemsH at q
  split at q
  · rename_i q' ds hs
    obtain ⟨h1, o, h2, h3, h4⟩ := S.hld _ _ _ hs
    cases h4 with
    | lst rr => exact ⟨_, h1, .inl ⟨q', _, rfl, SqL.of (S.up.h _ _ h2 h3), kont ds _ H G q .refl S.wf (wlk_held h2 h3 rr)⟩⟩
  · exact q.elim
theorem ji_range1 {pos' : Pos} (hg : Gl X "range") (hm : X.mg "range" = none) (h : JW K X a t p) (hs : starEach [a] X.env = [(false, eval a X.env)] := by rfl) : JI K X tg (.Call (.Name "range" pos') [a] [] pos) (iRng1 (tCons t tNil)) (xRng1 p) := by
  obtain ⟨h1, h2⟩ := h
  refine ⟨pi_range1 hg hm (pa_cons h1 pa_nil hs) hs, fun P G0 H0 env σ H G S Q q R k => h2 P G0 H0 env σ H G S _ q _ fun d v H1 G1 q1 u w r => ?_⟩
  cases d with
  | int n =>
    obtain ⟨q1, q2⟩ := q1
    rw [r.int_inv]
    exact ⟨n, rfl, by omega, by omega, k _ _ H1 G1 q2 u w (by rw [show n.toNat = (n - 0).toNat by omega]; exact wlk_rng)⟩
  | _ => exact False.elim q1
theorem ji_range2 {pos' : Pos} (hg : Gl X "range") (hm : X.mg "range" = none) (h : JW K X a t p) (h' : JW K X b t' q) (hs : starEach [a, b] X.env = [(false, eval a X.env), (false, eval b X.env)] := by rfl) (hs2 : starEach [b] X.env = [(false, eval b X.env)] := by rfl) :
    JI K X tg (.Call (.Name "range" pos') [a, b] [] pos) (iRng2 (tCons t (tCons t' tNil))) (xRng2 p q) := by
  obtain ⟨h1, h2⟩ := h
  obtain ⟨h3, h4⟩ := h'
  refine ⟨pi_range2 hg hm (pa_cons h1 (pa_cons h3 pa_nil hs2) (by rw [hs, hs2])) hs hs2, fun P G0 H0 env σ H G S Q q R k => h2 P G0 H0 env σ H G S _ q _ fun d v H1 G1 q1 u w r => ?_⟩
  refine h4 P G0 H0 env σ H1 G1 (S.step u w) _ q1 _ fun e y H2 G2 q2 u2 w2 r2 => ?_
  cases d with
  | int lo =>
    cases e with
    | int n =>
      obtain ⟨q3, q4⟩ := q2
      rw [r.int_inv, r2.int_inv]
      exact ⟨lo, n, rfl, by omega, k _ _ H2 G2 q4 (u.trans u2) w2 wlk_rng⟩
    | _ => exact False.elim q2
  | _ => cases e <;> exact False.elim q2
end

/-! ### list comprehensions -/
def xLcL (t : PTg) (c : PTt) (elt : PX) (env : En) (Q : D → Prop) : List D → List D → Prop
  | [], acc => Q (.lst acc)
  | d :: ds, acc => t d env fun env' => c env' fun b => Br b (elt env' fun y => xLcL t c elt env Q ds (acc ++ [y])) (xLcL t c elt env Q ds acc)
def xLc (src : PAa) (vs : List Nat) (t : PTg) (c : PTt) (elt : PX) : PX := fun env Q => src env fun ds => ds.length ≤ 16777216 ∧ xLcL t c elt (wipeE env vs) Q ds []
def xYes : PTt := fun _ Q => Q true
section
variable {K : PySem.W.Frag} {P : Option Addr} {is : List Nat} {t : PTg} {wi : TI} {src : PAa} {g : TG} {tt : TT} {c : PTt} {te : TE} {elt : PX}
theorem ev_lc (vs : List Nat) (hv : ∀ i ∈ is, i ∈ vs) (hi : EvI K P wi src) (hg : EvG K P is g t) (hc : EvT K P tt c) (he : EvS K P te elt) : EvF K P (tLc wi g tt te vs) (xLc src vs t c elt) := fun G0 H0 env σ H G S Q q R k =>
  hi G0 H0 env σ H G S _ q _ fun ds J H1 G1 q1 u1 w1 wk Dl hD => by
    obtain ⟨hz, q1⟩ := q1
    have hn : P ≠ some Dl := w1.npool hD
    have gD : G1 Dl = none := w1.no hD
    refine ⟨fun i m H2 => m = ds.length - i ∧ i ≤ ds.length ∧ ∃ G2 acc ys, Up P H1 G1 H2 G2 ∧ Wf K P H2 G2 ∧ G2 Dl = none ∧ H2 Dl = some (.lst ys) ∧ RepL K P G2 ys acc ∧ acc.length ≤ i ∧ xLcL t c elt (wipeE env vs) Q (ds.drop i) acc,
      ⟨ds.length, by simp, Nat.zero_le _, G1, [], [], Up.new hD, w1.new hD, gD, upd_same, .nil, Nat.zero_le _, q1⟩, ?_⟩
    rintro i m H2 ⟨rfl, hi, G2, acc, ys, u2, w2, g2, h2, r2, hl, q2⟩
    have up2 := u1.trans u2
    have S2 : SR K P G0 H0 env σ H2 G2 := S.step up2 w2
    by_cases hlt : i < ds.length
    · rw [List.drop_eq_getElem_cons hlt] at q2
      have hd : ds[i]? = some ds[i] := List.getElem?_eq_getElem hlt
      obtain ⟨go, yl⟩ := (wk H2 G2 u2.g w2 S2.up.h i).2 _ hd
      refine .inr ⟨go, fun H' => i < ds.length ∧ ∃ G2 acc ys, Up P H1 G1 H' G2 ∧ Wf K P H' G2 ∧ G2 Dl = none ∧ H' Dl = some (.lst ys) ∧ RepL K P G2 ys acc ∧ acc.length ≤ i + 1 ∧ xLcL t c elt (wipeE env vs) Q (ds.drop (i + 1)) acc,
        fun H' n => ⟨ds.length - (i + 1), by omega, rfl, n⟩, fun x H3 y => ?_⟩
      obtain ⟨G3, u3, w3, r3⟩ := yl x H3 y
      have nD : ∀ {H4 G4 H5 G5 : Hp}, Up P H4 G4 H5 G5 → Wf K P H5 G5 → H4 Dl = some (.lst ys) → G4 Dl = none → H5 Dl = some (.lst ys) ∧ G5 Dl = none := fun {H4 G4 H5 G5} u w h g => ⟨u.h _ _ h hn, by
        cases z : G5 Dl with
        | none => rfl
        | some o =>
          rcases u.n _ _ z with ⟨_, z⟩ | z
          · rw [g] at z
            cases z
          · rw [h] at z
            cases z⟩
      obtain ⟨h3, g3⟩ := nD u3 w3 h2 g2
      refine hg G0 H0 _ _ H3 G3 ((S2.step u3 w3).wipe2 vs) _ x r3 _ q2 _ fun env4 σ4 q4 S4 ch _ => ⟨(ch.wipe hv).trans wipe_wipe, ?_⟩
      refine hc G0 H0 env4 σ4 H3 G3 S4 _ q4 _ fun b H5 G5 q5 u5 w5 => ?_
      obtain ⟨h5, g5⟩ := nD u5 w5 h3 g3
      cases b with
      | true =>
        replace q5 := q5.1 rfl
        rw [if_pos rfl]
        refine he G0 H0 env4 σ4 H5 G5 (S4.step u5 w5) _ q5 _ fun d y' H6 G6 q6 u6 w6 r6 => ?_
        obtain ⟨h6, g6⟩ := nD u6 w6 h5 g5
        refine ⟨ys, h6, szlt (by rw [r2.len]; omega), hlt, G6, acc ++ [d], ys ++ [y'], ((u2.trans u3).trans (u5.trans u6)).mut hD, w6.mut g6 hn, g6, upd_same, ((((r2.mono u3.g).mono u5.g).mono u6.g)).append (.cons r6 .nil), by rw [List.length_append]; simp; omega, q6⟩
      | false =>
        replace q5 := q5.2 rfl
        rw [if_neg Bool.false_ne_true]
        exact ⟨hlt, G5, acc, ys, (u2.trans u3).trans u5, w5, g5, h5, ((r2.mono u3.g).mono u5.g), by omega, q5⟩
    · have e : i = ds.length := by omega
      subst e
      rw [List.drop_length] at q2
      exact .inl ⟨(wk H2 G2 u2.g w2 S2.up.h _).1 (Nat.le_refl _), k _ Dl _ H2 G2 q2 up2 w2 (u1.back hD) h2 g2 (.lst r2)⟩
end
def JTs (K : PySem.W.Frag) (X : Cx) (ifs : List Expr) (t : TT) (c : PTt) : Prop := PTs X ifs t ∧ ∀ P, EvT K P t c
section
variable {K : PySem.W.Frag} {X : Cx} {elt tg iter : Expr} {ifs : List Expr} {scope : Scope} {own : List (Str × Nat)} {pos : Pos} {wi : TI} {g : TG} {tt : TT} {te : TE} {is : List Nat} {src : PAa} {t : PTg} {c : PTt} {p : PX}
theorem jts_nil : JTs K X [] tYes xYes := ⟨pts_nil, fun P G0 H0 env σ H G S Q q R k => k true H G q .refl S.wf⟩
theorem jts_one {e : Expr} (h : JT K X e tt c) : JTs K X [e] tt c := ⟨pts_one h.1, h.2⟩
/-- within a comprehension's block -/
abbrev Blk (X : Cx) (scope : Scope) (J : Cx → Prop) : Prop := ∀ (s : Shared) (H : Hp) (C : Addr) (cl : List (Str × Addr)) (fp : List Addr), J (X.blk s H scope (compEnvC scope cl C X.env) fp)
theorem Blk.one {J : Cx → Prop} {Z : Prop} (h : Blk X scope J) (k : ∀ Y, J Y → Z) : Z := k _ (h { heap := {}, os := default } (fun _ => none) 0 [] [])
theorem j_lc (hc : X.calm = true) (hN : X.N.Nodup) (hi : JI K X tg iter wi src) (ok : BlkOk X.N X.env.scope scope own) (hv : ∀ i ∈ is, i ∈ own.map (·.2)) (hg : Blk X scope fun Y => JG K Y tg is g t) (ht : Blk X scope fun Y => JTs K Y ifs tt c) (he : Blk X scope fun Y => JS K Y elt te p)
    (hs : ∀ x, foldedSetIterable iter X.env x = pure x := by intro _; rfl) : JF K X (.ListComp elt [⟨tg, iter, ifs, 0⟩] scope pos) (tLc wi g tt te (own.map (·.2))) (xLc src (own.map (·.2)) t c p) :=
  ⟨pe_lc hc hN hi.1 ok (fun s H C cl fp => (hg s H C cl fp).1) (fun s H C cl fp => (ht s H C cl fp).1) (fun s H C cl fp => (he s H C cl fp).1) hs, fun P => ev_lc _ hv (hi.2 P) (hg.one fun _ h => h.2 P) (ht.one fun _ h => h.2 P) (he.one fun _ h => h.2 P)⟩
/-- name = [..] : kept, or one's own -/
theorem jc_setLc {i : Nat} {y : Str} {py spos : Pos} (hc : X.calm = true) (hN : X.N.Nodup) (hy : X.N[i]? = some y) (hyl : X.env.scope.names.lookup y = some .local) (hsw : swapsWith (.ListComp elt [⟨tg, iter, ifs, 0⟩] scope pos) (some (.Name y py)) spos.line X.env = pure true)
    (hi : JI K X tg iter wi src) (ok : BlkOk X.N X.env.scope scope own) (hv : ∀ i ∈ is, i ∈ own.map (·.2)) (hg : Blk X scope fun Y => JG K Y tg is g t) (ht : Blk X scope fun Y => JTs K Y ifs tt c) (he : Blk X scope fun Y => JS K Y elt te p)
    (hs : ∀ x, foldedSetIterable iter X.env x = pure x := by intro _; rfl) : JC K X (.Assign [.Name y py] (.ListComp elt [⟨tg, iter, ifs, 0⟩] scope pos) spos) (xSet i (xLc src (own.map (·.2)) t c p)) :=
  ⟨_, ps_setLc hc hN hy hyl hsw hi.1 ok (fun s H C cl fp => (hg s H C cl fp).1) (fun s H C cl fp => (ht s H C cl fp).1) (fun s H C cl fp => (he s H C cl fp).1) hs, fun P => ev_set i (ev_lc _ hv (hi.2 P) (hg.one fun _ h => h.2 P) (ht.one fun _ h => h.2 P) (he.one fun _ h => h.2 P)).s⟩
theorem jc_ownLc {i : Nat} {y : Str} {py spos : Pos} (hc : X.calm = true) (hN : X.N.Nodup) (hy : X.N[i]? = some y) (hyl : X.env.scope.names.lookup y = some .local) (hsw : swapsWith (.ListComp elt [⟨tg, iter, ifs, 0⟩] scope pos) (some (.Name y py)) spos.line X.env = pure true)
    (hi : JI K X tg iter wi src) (ok : BlkOk X.N X.env.scope scope own) (hv : ∀ i ∈ is, i ∈ own.map (·.2)) (hg : Blk X scope fun Y => JG K Y tg is g t) (ht : Blk X scope fun Y => JTs K Y ifs tt c) (he : Blk X scope fun Y => JS K Y elt te p)
    (hs : ∀ x, foldedSetIterable iter X.env x = pure x := by intro _; rfl) : JC K X (.Assign [.Name y py] (.ListComp elt [⟨tg, iter, ifs, 0⟩] scope pos) spos) (xOwn i (xLc src (own.map (·.2)) t c p)) :=
  ⟨_, ps_setLc hc hN hy hyl hsw hi.1 ok (fun s H C cl fp => (hg s H C cl fp).1) (fun s H C cl fp => (ht s H C cl fp).1) (fun s H C cl fp => (he s H C cl fp).1) hs, fun P => ev_own i (ev_lc _ hv (hi.2 P) (hg.one fun _ h => h.2 P) (ht.one fun _ h => h.2 P) (he.one fun _ h => h.2 P))⟩
end
end Pv
namespace Pv
open PySem PySem.Spec L2

/-! ### defs: what is promised, by data -/
abbrev PSpec := List D → (D → Prop) → Prop
def mkSp (K : PySem.W.Frag) (ps : PSpec) : Sp := fun vs H Q _ => ∃ (P : Option Addr) (G : Hp) (ds : List D) (Q0 : D → Prop), Wf K P H G ∧ RepL K P G vs ds ∧ ps ds Q0 ∧ ∀ d v H' G', Q0 d → Up P H G H' G' → Wf K P H' G' → Rep K P G' v d → Q v H'
/-- a def that stands in the module's name x -/
structure Fo (Pg : Program) (w : World) (K : PySem.W.Frag) (mg : Str → Option Value) (base : Heap) (k : Nat) (x : Str) (prs : List Str) (ps : PSpec) : Prop where
  ex : ∃ f fd, FnOk Pg w K mg base CX0 k f fd prs (mkSp K ps) ∧ PySem.W.keepIn K (.ref f) = true ∧ Binds K fd prs [] ∧ mg x = some (.ref f)
theorem Fo.mono {Pg : Program} {w : World} {K : PySem.W.Frag} {mg : Str → Option Value} {base : Heap} {j k : Nat} {x : Str} {prs : List Str} {ps : PSpec} (F : Fo Pg w K mg base j x prs ps) (h : j ≤ k) : Fo Pg w K mg base k x prs ps :=
  let ⟨f, fd, h1, h2, h3, h4⟩ := F.ex; ⟨f, fd, h1.mono h, h2, h3, h4⟩
def xCall (ps : PSpec) (pa : PAa) : PX := fun env Q => pa env fun ds => ∃ Q0, ps ds Q0 ∧ ∀ d, Q0 d → Q d
theorem j_call {K : PySem.W.Frag} {X : Cx} {k : Nat} {x : Str} {prs : List Str} {ps : PSpec} {e : Expr} {es : List Expr} {ta : TA} {pa : PAa} {p pos : Pos} (F : Fo X.prog X.w K X.mg X.base k x prs ps) (hr : Room k X.A) (hg : Gl X x) (ha : JA K X (e :: es) ta pa)
    (hdb : (x == ("__debug__" : Str)) = false := by decide) (he : starEach (e :: es) X.env = (false, eval e X.env) :: starEach es X.env := by rfl) (hpl : (backTo pos (starEach es X.env)).any (·.1) = false := by rfl) (kk : X.K = K := by rfl) :
    JS K X (.Call (.Name x p) (e :: es) [] pos) (tCall (mkSp K ps) [] E0 ta) (xCall ps pa) := by
  subst kk
  obtain ⟨f, fd, h1, h2, h3, h4⟩ := F.ex
  refine ⟨pe_call h1 hr hg h4 h2 h3 .nil pass0 ha.1 hdb he hpl, fun P G0 H0 env σ H G S Q q R k => ha.2 P G0 H0 env σ H G S _ q _ fun ds vs H1 G1 q1 u w r => ?_⟩
  obtain ⟨Q0, q2, q3⟩ := q1
  rw [List.append_nil]
  exact ⟨P, G1, ds, Q0, w, r, q2, fun d v H' G' z u' w' r' => k d v H' G' (q3 d z) (u.trans u') w' r'⟩
def startE (n : Nat) (ds : List D) : En := (ds.map fun d => some (.fz d)) ++ List.replicate (n - ds.length) none
theorem start_sr {K : PySem.W.Frag} {P : Option Addr} {N : List Str} {vs : List V} {ds : List D} {H G : Hp} (w : Wf K P H G) (r : RepL K P G vs ds) : SR K P G H (startE N.length ds) (L2.start N vs) H G := by
  have hl := r.len
  refine ⟨w, .refl, fun p e => ?_, ?_, fun i d e => ?_, fun i d e => ?_, fun i j d e p h1 => ?_, fun i p d h1 => ?_⟩
  · obtain ⟨⟨a, ns, pl, x, f, h1, _⟩, _⟩ := w.pool p e
    exact ⟨_, h1⟩
  · unfold L2.start startE
    simp [hl]
  · unfold startE at e
    rcases Nat.lt_or_ge i ds.length with hi | hi
    · rw [List.getElem?_append_left (by simpa using hi), List.getElem?_map, List.getElem?_eq_getElem hi] at e
      cases e
      obtain ⟨v, h1, h2⟩ := r.get (List.getElem?_eq_getElem hi)
      refine ⟨v, ?_, h2⟩
      unfold L2.start
      rw [List.getElem?_append_left (by simpa [hl] using hi), List.getElem?_map, h1]
      rfl
    · rw [List.getElem?_append_right (by simpa using hi)] at e
      rw [List.getElem?_replicate] at e
      split at e <;> cases e
  · exact absurd e (by
      unfold startE
      intro e
      rcases Nat.lt_or_ge i ds.length with hi | hi
      · rw [List.getElem?_append_left (by simpa using hi), List.getElem?_map, List.getElem?_eq_getElem hi] at e
        cases e
      · rw [List.getElem?_append_right (by simpa using hi), List.getElem?_replicate] at e
        split at e <;> cases e)
  · exact absurd h1 (by
      unfold startE
      intro e
      rcases Nat.lt_or_ge i ds.length with hi | hi
      · rw [List.getElem?_append_left (by simpa using hi), List.getElem?_map, List.getElem?_eq_getElem hi] at e
        cases e
      · rw [List.getElem?_append_right (by simpa using hi), List.getElem?_replicate] at e
        split at e <;> cases e)
  · exact absurd h1 (by
      unfold startE
      intro e
      rcases Nat.lt_or_ge i ds.length with hi | hi
      · rw [List.getElem?_append_left (by simpa using hi), List.getElem?_map, List.getElem?_eq_getElem hi] at e
        cases e
      · rw [List.getElem?_append_right (by simpa using hi), List.getElem?_replicate] at e
        split at e <;> cases e)
/-- the ends of a body -/
abbrev fin (Q : D → Prop) : Fx := { nx := fun _ => Q .non, rt := Q, bk := fun _ => False, ct := fun _ => False }
theorem fo_mk {Pg : Program} {w : World} {K : PySem.W.Frag} {mg : Str → Option Value} {base : Heap} {k : Nat} {x qual : Str} {st : Stmt} {f : Addr} {fd : FuncData} {N prs : List Str} {ps : PSpec} {pb : PSt}
    (F : Fun K x qual st f fd) (b : Binds K fd prs []) (m : mg x = some (.ref f)) (S : FnScope N prs (defScope st)) (len : ∀ ds Q, ps ds Q → ds.length = prs.length)
    (body : ∀ (cdv : Value) (A : Around) (outer : List Env) (s : Shared) (H : Hp) (E : XK), Room k (A.deeper (PyProof.Rows.envOfC qual (defScope st) s.heap.objs.size f cdv)) → JCs K (cxOf CX0 Pg w K mg base N qual (defScope st) f cdv A outer s H E).nox (defBody st) pb)
    (pure : ∀ ds Q, ps ds Q → pb (fin Q) (startE N.length ds)) : Fo Pg w K mg base (k + 1) x prs ps := by
  refine ⟨f, fd, F.ok S (fun vs H Q E h => ?_) (fun cdv A outer s H vs Q E hr h => ?_), F.kp, b, m⟩
  · obtain ⟨P, G, ds, Q0, _, r, h, _⟩ := h
    rw [r.len]
    exact len _ _ h
  · obtain ⟨P, G, ds, Q0, w, r, h, q⟩ := h
    obtain ⟨t, h1, h2⟩ := body cdv A outer s H E hr
    refine ⟨t, h1, ?_⟩
    refine h2 P G H _ _ H G (start_sr w r) (fin Q0) _ ⟨fun env σ H' G' l S' z => q _ _ H' G' z S'.up S'.wf .non, fun _ _ _ _ _ _ z => z.elim, fun _ _ _ _ _ _ z => z.elim, fun d v H' G' l u w r z => q d v H' G' z u w r⟩ (pure ds Q0 h)

/-! ### numbers -/
section
variable {K : PySem.W.Frag} {X : Cx}
/-- an operator on two ints -/
theorem ops_I {C : Int → Int → Prop} {g : Int → Int → V} {o : O2} (h : ∀ a b Q, o a b Q → ∃ i j d, a = .int i ∧ b = .int j ∧ C i j ∧ Q d ∧ (∀ P G, Rep K P G (g i j) d)) : OpS K (rI C g) o := fun P H G x y a b w rx ry Q q R k => by
  obtain ⟨i, j, d, rfl, rfl, hc, q, r⟩ := h a b Q q
  exact ⟨i, j, rx.int_inv, ry.int_inv, hc, k d _ H G q .refl w (r P G)⟩
theorem ops_I0 {g : Int → Int → V} {o : O2} (h : ∀ a b Q, o a b Q → ∃ i j d, a = .int i ∧ b = .int j ∧ Q d ∧ (∀ P G, Rep K P G (g i j) d)) : OpS K (rI0 g) o := fun P H G x y a b w rx ry Q q R k => by
  obtain ⟨i, j, d, rfl, rfl, q, r⟩ := h a b Q q
  exact ⟨i, j, rx.int_inv, ry.int_inv, k d _ H G q .refl w (r P G)⟩
def oSub : O2 := fun a b Q => match a, b with
  | .int i, .int j => Q (.int (i - j))
  | _, _ => False
theorem s_sub : OpS K (rI0 fun i j => .int (i - j)) oSub := ops_I0 fun a b Q q => by
  cases a <;> cases b <;> first | exact False.elim q | exact ⟨_, _, _, rfl, rfl, q, fun _ _ => .int _⟩
/-- products: one side small, or both together below a million bits -/
def mulOk (i j : Int) : Prop := CMul i j ∨ CMulW i j
def oMulI : O2 := fun a b Q => match a, b with
  | .int i, .int j => mulOk i j ∧ Q (.int (i * j))
  | _, _ => False
theorem op_mulA : OpR X (binaryOp .Mult) (rI mulOk fun i j => .int (i * j)) := fun pins s σ H x y v u Q I rx ry ⟨i, j, h1, h2, hc, q⟩ => hc.elim
  (fun c => op_mul pins s σ H x y v u Q I rx ry ⟨i, j, h1, h2, c, q⟩) (fun c => op_mulW pins s σ H x y v u Q I rx ry ⟨i, j, h1, h2, c, q⟩)
theorem s_mulI : OpS K (rI mulOk fun i j => .int (i * j)) oMulI := ops_I fun a b Q q => by
  cases a <;> cases b <;> first | exact False.elim q | exact ⟨_, _, _, rfl, rfl, q.1, q.2, fun _ _ => .int _⟩
/-- xs * k -/
def rMulA : R2 := orR (rI mulOk fun i j => .int (i * j)) rRep
def oMul : O2 := fun a b Q => match a, b with
  | .int i, .int j => mulOk i j ∧ Q (.int (i * j))
  | .lst xs, .int k => -9223372036854775808 ≤ k ∧ k < 9223372036854775808 ∧ xs.length * k.toNat ≤ 16777216 ∧ Q (.lst (List.replicate k.toNat xs).flatten)
  | _, _ => False
def divOk (j : Int) : Prop := 0 < j ∧ j.natAbs.log2 < 9000
def oDiv : O2 := fun a b Q => match a, b with
  | .int i, .int j => divOk j ∧ Q (.int (i / j))
  | _, _ => False
theorem s_div : OpS K (rI CDivW fun i j => .int (i / j)) oDiv := ops_I fun a b Q q => by
  cases a <;> cases b <;> first | exact False.elim q | exact ⟨_, _, _, rfl, rfl, q.1, q.2, fun _ _ => .int _⟩
def oMod : O2 := fun a b Q => match a, b with
  | .int i, .int j => 0 < j ∧ Q (.int (i % j))
  | _, _ => False
theorem s_mod : OpS K (rI (fun _ j => 0 < j) fun i j => .int (i % j)) oMod := ops_I fun a b Q q => by
  cases a <;> cases b <;> first | exact False.elim q | exact ⟨_, _, _, rfl, rfl, q.1, q.2, fun _ _ => .int _⟩
def oPow : O2 := fun a b Q => match a, b with
  | .int i, .int j => CPow i j ∧ Q (.int (i ^ j.toNat))
  | _, _ => False
theorem s_pow : OpS K (rI CPow fun i j => .int (i ^ j.toNat)) oPow := ops_I fun a b Q q => by
  cases a <;> cases b <;> first | exact False.elim q | exact ⟨_, _, _, rfl, rfl, q.1, q.2, fun _ _ => .int _⟩
def oNeg : O1 := fun a Q => match a with
  | .int i => Q (.int (-i))
  | _ => False
theorem s_neg : UnS K (rU fun i => .int (-i)) oNeg := fun P H G x a w rx Q q R k => by
  cases a <;> first | exact False.elim q | exact ⟨_, rx.int_inv, k _ _ H G q .refl w (.int _)⟩
/-- +: ints, lists, tuples, texts -/
def rAddS : R2 := fun x y H Q => ∃ i j, x = .str i ∧ y = .str j ∧ i.length + j.length ≤ sizeLine ∧ Q (.str (i ++ j)) H
def rAddA (K : PySem.W.Frag) : R2 := orR (rI0 fun i j => .int (i + j)) (orR rCat (orR (rCatA K) rAddS))
def oAdd : O2 := fun a b Q => match a, b with
  | .int i, .int j => Q (.int (i + j))
  | .lst xs, .lst ys => xs.length + ys.length ≤ 16777216 ∧ Q (.lst (xs ++ ys))
  | .tup xs, .tup ys => xs.length + ys.length ≤ 16777216 ∧ Q (.tup (xs ++ ys))
  | .str x, .str y => x.length + y.length ≤ 16777216 ∧ Q (.str (x ++ y))
  | _, _ => False
theorem op_addA : OpR X (binaryOp .Add) (rAddA X.K) := or_op op_add (or_op op_cat (or_op op_catA op_add_str))
theorem take_new {P : Option Addr} {H G : Hp} {p : Addr} {o : HO} (w : Wf K P H G) (h : H p = none) : Up P H G (upd H p o) (upd G p o) ∧ Wf K P (upd H p o) (upd G p o) := ⟨(Up.new h).take h (w.no h), (w.new h).take upd_same (w.no h) (w.npool h)⟩
theorem s_add : OpS K (rAddA K) oAdd := fun P H G x y a b w rx ry Q q R k => by
  cases a with
  | int i => cases b <;> first | exact False.elim q | exact .inl ⟨_, _, rx.int_inv, ry.int_inv, k _ _ H G q .refl w (.int _)⟩
  | str i => cases b <;> first | exact False.elim q | exact .inr (.inr (.inr ⟨_, _, rx.str_inv, ry.str_inv, szle q.1, k _ _ H G q.2 .refl w (.str _)⟩))
  | lst xs =>
    cases b with
    | lst ys =>
      obtain ⟨l, vs, e1, h1, r1⟩ := rx.lst_inv w
      obtain ⟨m, us, e2, h2, r2⟩ := ry.lst_inv w
      refine .inr (.inl ⟨l, m, vs, us, e1, e2, h1, h2, by rw [r1.len, r2.len]; exact szle q.1, fun p hp => ?_⟩)
      obtain ⟨u', w'⟩ := take_new (o := .lst (vs ++ us)) w hp
      exact k _ _ _ _ q.2 u' w' (.obj upd_same (.lst ((r1.append r2).mono u'.g)))
    | _ => exact False.elim q
  | tup xs =>
    cases b with
    | tup ys =>
      obtain ⟨l, vs, e1, h1, r1⟩ := rx.tup_inv
      obtain ⟨m, us, e2, h2, r2⟩ := ry.tup_inv
      subst e1
      subst e2
      refine .inr (.inr (.inl ⟨l, m, vs, us, rfl, rfl, sqT_le w.gh h1, sqT_le w.gh h2, by rw [r1.len, r2.len]; exact szle q.1, fun e => ?_, fun e1 e => ?_, fun _ _ p hp => ?_⟩))
      · subst e
        cases r1
        exact k _ _ H G q.2 .refl w (.tup h2 r2)
      · subst e
        cases r2
        have q2 := q.2
        rw [List.append_nil] at q2
        exact k _ _ H G q2 .refl w (.tup h1 r1)
      · obtain ⟨u', w'⟩ := take_new (o := .tup (vs ++ us)) w hp
        exact k _ _ _ _ q.2 u' w' (.tup (.inl (.inl upd_same)) ((r1.append r2).mono u'.g))
    | _ => exact False.elim q
  | _ => exact False.elim q
theorem flat_repl {P : Option Addr} {G : Hp} {vs : List V} {ds : List D} (r : RepL K P G vs ds) : ∀ n : Nat, RepL K P G (List.replicate n vs).flatten (List.replicate n ds).flatten
  | 0 => .nil
  | n + 1 => by
    rw [List.replicate_succ, List.replicate_succ, List.flatten_cons, List.flatten_cons]
    exact r.append (flat_repl r n)
theorem op_mulAll : OpR X (binaryOp .Mult) rMulA := or_op op_mulA op_rep
end
end Pv
namespace Pv
open PySem PySem.Spec L2

/-! ### order of ints, == of data, is -/
section
variable {K : PySem.W.Frag} {X : Cx}
def oCmpI (f : Int → Int → Bool) : O2 := fun a b Q => match a, b with
  | .int i, .int j => Q (.bl (f i j))
  | _, _ => False
theorem s_cmpI {f : Int → Int → Bool} : OpS K (rI0 fun i j => .bl (f i j)) (oCmpI f) := ops_I0 fun a b Q q => by
  cases a <;> cases b <;> first | exact False.elim q | exact ⟨_, _, _, rfl, rfl, q, fun _ _ => .bl _⟩
/-- None, True, False on the right of is -/
def isK : D → D → Bool
  | .non, .non => true
  | .bl a, .bl b => a == b
  | _, _ => false
def oIs : O2 := fun a b Q => match b with
  | .non => Q (.bl (isK a .non))
  | .bl c => Q (.bl (isK a (.bl c)))
  | _ => False
def oIsNot : O2 := fun a b Q => match b with
  | .non => Q (.bl (!isK a .non))
  | .bl c => Q (.bl (!isK a (.bl c)))
  | _ => False
def rIsA : R2 := fun x y H Q => (y = .non ∧ Q (.bl (decide (x = .non))) H) ∨ ∃ c, y = .bl c ∧ (∀ n, x ≠ .ty n) ∧ Q (.bl (decide (x = .bl c))) H
def rIsNotA : R2 := fun x y H Q => (y = .non ∧ Q (.bl (!decide (x = .non))) H) ∨ ∃ c, y = .bl c ∧ (∀ n, x ≠ .ty n) ∧ Q (.bl (!decide (x = .bl c))) H
theorem op_isA : OpR X (compareOp .Is) rIsA := fun pins s σ H x y v u Q I rx ry h => h.elim (op_isN pins s σ H x y v u Q I rx ry) fun ⟨c, e, _, q⟩ => by
  subst e
  cases (show u = Value.bool c from ry)
  have go : ∀ b : Bool, decide (x = .bl c) = b → plainIs v (.bool c) = true → (v == .bool c) = b → wpAny (model X.prog X.w) X.A (compareOp .Is v (.bool c)) (EP X pins σ Q) X.xe s := fun b e1 hp e2 => wpAny_is_plain hp (by rw [e2]; exact ⟨.bl b, H, I, rfl, by rw [← e1]; exact q⟩)
  cases x with
  | bl b =>
    cases (show v = Value.bool b from rx)
    refine go (b == c) (by cases b <;> cases c <;> decide) rfl (by cases b <;> cases c <;> rfl)
  | non =>
    cases (show v = Value.none from rx)
    exact go false (by simp) rfl rfl
  | int i =>
    obtain ⟨t, rfl⟩ := rx
    exact go false (by simp) rfl rfl
  | str i =>
    obtain ⟨t, rfl⟩ := rx
    exact go false (by simp) rfl rfl
  | byt i =>
    obtain ⟨t, rfl⟩ := rx
    exact go false (by simp) rfl rfl
  | flt i =>
    obtain ⟨t, rfl⟩ := rx
    exact go false (by simp) rfl rfl
  | ref a =>
    cases (show v = Value.ref a from rx)
    exact go false (by simp) rfl rfl
  | ty n =>
    cases (show v = Value.type n from rx)
    exact go false (by simp) rfl rfl
theorem op_isNotA : OpR X (compareOp .IsNot) rIsNotA := fun pins s σ H x y v u Q I rx ry h => h.elim (op_notN pins s σ H x y v u Q I rx ry) fun ⟨c, e, _, q⟩ => by
  subst e
  cases (show u = Value.bool c from ry)
  have go : ∀ b : Bool, decide (x = .bl c) = b → plainIs v (.bool c) = true → (v == .bool c) = b → wpAny (model X.prog X.w) X.A (compareOp .IsNot v (.bool c)) (EP X pins σ Q) X.xe s := fun b e1 hp e2 => wpAny_isNot_plain hp (by rw [e2]; exact ⟨.bl (!b), H, I, rfl, by rw [← e1]; exact q⟩)
  cases x with
  | bl b =>
    cases (show v = Value.bool b from rx)
    refine go (b == c) (by cases b <;> cases c <;> decide) rfl (by cases b <;> cases c <;> rfl)
  | non =>
    cases (show v = Value.none from rx)
    exact go false (by simp) rfl rfl
  | int i =>
    obtain ⟨t, rfl⟩ := rx
    exact go false (by simp) rfl rfl
  | str i =>
    obtain ⟨t, rfl⟩ := rx
    exact go false (by simp) rfl rfl
  | byt i =>
    obtain ⟨t, rfl⟩ := rx
    exact go false (by simp) rfl rfl
  | flt i =>
    obtain ⟨t, rfl⟩ := rx
    exact go false (by simp) rfl rfl
  | ref a =>
    cases (show v = Value.ref a from rx)
    exact go false (by simp) rfl rfl
  | ty n =>
    cases (show v = Value.type n from rx)
    exact go false (by simp) rfl rfl
theorem Rep.ref_of {P : Option Addr} {G : Hp} {v : V} {d : D} (r : Rep K P G v d) : (∃ a, v = .ref a ∧ (∀ b, d ≠ .bl b) ∧ d ≠ .non) ∨ (v = .non ∧ d = .non) ∨ (∃ b, v = .bl b ∧ d = .bl b) ∨ (∃ i, v = .int i ∧ d = .int i) ∨ ∃ s, v = .str s ∧ d = .str s := by
  cases r with
  | non => exact .inr (.inl ⟨rfl, rfl⟩)
  | bl b => exact .inr (.inr (.inl ⟨b, rfl, rfl⟩))
  | int i => exact .inr (.inr (.inr (.inl ⟨i, rfl, rfl⟩)))
  | str s => exact .inr (.inr (.inr (.inr ⟨s, rfl, rfl⟩)))
  | pool e => exact .inl ⟨_, rfl, (fun _ z => nomatch z), (fun z => nomatch z)⟩
  | tup _ _ => exact .inl ⟨_, rfl, (fun _ z => nomatch z), (fun z => nomatch z)⟩
  | obj _ c => exact .inl ⟨_, rfl, (fun _ z => by subst z; cases c), (fun z => by subst z; cases c)⟩
  | frz _ _ c => exact .inl ⟨_, rfl, (fun _ z => by subst z; cases c), (fun z => by subst z; cases c)⟩
theorem RepW.ref_of {P : Option Addr} {G H : Hp} {v : V} {d : D} (r : RepW K P G H v d) : (∃ a, v = .ref a ∧ (∀ b, d ≠ .bl b) ∧ d ≠ .non) ∨ (v = .non ∧ d = .non) ∨ (∃ b, v = .bl b ∧ d = .bl b) ∨ (∃ i, v = .int i ∧ d = .int i) ∨ ∃ s, v = .str s ∧ d = .str s := by
  cases r with
  | s r => exact r.ref_of
  | o _ c _ => exact .inl ⟨_, rfl, (fun _ z => by subst z; cases c), (fun z => by subst z; cases c)⟩
theorem isK_eq {P : Option Addr} {G H : Hp} {v : V} {d : D} (r : RepW K P G H v d) : (decide (v = .non) = isK d .non) ∧ ∀ c, decide (v = .bl c) = isK d (.bl c) := by
  rcases r.ref_of with ⟨a, rfl, h1, h2⟩ | ⟨rfl, rfl⟩ | ⟨b, rfl, rfl⟩ | ⟨i, rfl, rfl⟩ | ⟨i, rfl, rfl⟩
  · refine ⟨?_, fun c => ?_⟩
    · rw [decide_eq_false (fun z => nomatch z)]
      cases d <;> first | rfl | exact absurd rfl h2
    · rw [decide_eq_false (fun z => nomatch z)]
      cases d <;> first | rfl | exact absurd rfl (h1 _)
  · exact ⟨rfl, fun c => by simp [isK]⟩
  · exact ⟨by simp [isK], fun c => by cases b <;> cases c <;> decide⟩
  · exact ⟨by simp [isK], fun c => by simp [isK]⟩
  · exact ⟨by simp [isK], fun c => by simp [isK]⟩
theorem RepW.noty {P : Option Addr} {G H : Hp} {v : V} {d : D} (r : RepW K P G H v d) : ∀ n, v ≠ .ty n := fun n z => by
  subst z
  rcases r.ref_of with ⟨a, e, _⟩ | ⟨e, _⟩ | ⟨b, e, _⟩ | ⟨i, e, _⟩ | ⟨i, e, _⟩ <;> cases e
theorem s_is : OpS K rIsA oIs := fun P H G x y a b w rx ry Q q R k => by
  have e := isK_eq rx
  cases b with
  | non => exact .inl ⟨ry.non_inv, by rw [e.1]; exact k _ _ H G q .refl w (.bl _)⟩
  | bl c => exact .inr ⟨c, ry.bl_inv, rx.noty, by rw [e.2 c]; exact k _ _ H G q .refl w (.bl _)⟩
  | _ => exact False.elim q
theorem s_isNot : OpS K rIsNotA oIsNot := fun P H G x y a b w rx ry Q q R k => by
  have e := isK_eq rx
  cases b with
  | non => exact .inl ⟨ry.non_inv, by rw [e.1]; exact k _ _ H G q .refl w (.bl _)⟩
  | bl c => exact .inr ⟨c, ry.bl_inv, rx.noty, by rw [e.2 c]; exact k _ _ H G q .refl w (.bl _)⟩
  | _ => exact False.elim q

/-! ### == -/
mutual
def py : D → PyData
  | .non => .none
  | .bl b => .bool b
  | .int i => .int i
  | .str s => .str s
  | .lst xs => .list (pyL xs)
  | .tup xs => .tuple (pyL xs)
  | .dk _ => .none
  | .dt _ => .none
  | .pool => .none
def pyL : List D → List PyData
  | [] => []
  | x :: xs => py x :: pyL xs
end
/-- plain data, at most n deep -/
def pl : Nat → D → Bool
  | _, .non => true
  | _, .bl _ => true
  | _, .int _ => true
  | _, .str s => PyData.strOk s
  | n + 1, .lst xs => xs.all (pl n)
  | n + 1, .tup xs => xs.all (pl n)
  | _, _ => false
theorem pl_shaped : ∀ (n : Nat) (d : D), pl n d = true → (py d).canLay0 = true ∧ (py d).depth ≤ n := by
  intro n
  induction n with
  | zero =>
    intro d h
    cases d <;> first
      | exact ⟨rfl, Nat.zero_le _⟩
      | (simp only [pl] at h; first | exact absurd h Bool.false_ne_true | exact ⟨by simpa [py, PyData.canLay0] using h, Nat.le_of_eq (by simp [py, PyData.depth])⟩)
  | succ n ih =>
    have all : ∀ xs : List D, xs.all (pl n) = true → PyData.canLayAll0 (pyL xs) = true ∧ PyData.depthAll (pyL xs) ≤ n := by
      intro xs
      induction xs with
      | nil => intro _; exact ⟨rfl, by simp [pyL, PyData.depthAll]⟩
      | cons x xs ih2 =>
        intro h
        rw [List.all_cons, Bool.and_eq_true] at h
        obtain ⟨h1, h2⟩ := ih x h.1
        obtain ⟨h3, h4⟩ := ih2 h.2
        exact ⟨by simp [pyL, PyData.canLayAll0, h1, h3], by simp only [pyL, PyData.depthAll]; omega⟩
    intro d h
    cases d with
    | lst xs =>
      obtain ⟨h1, h2⟩ := all xs (by simpa [pl] using h)
      exact ⟨by simpa [py, PyData.canLay0] using h1, by simp only [py, PyData.depth]; omega⟩
    | tup xs =>
      obtain ⟨h1, h2⟩ := all xs (by simpa [pl] using h)
      exact ⟨by simpa [py, PyData.canLay0] using h1, by simp only [py, PyData.depth]; omega⟩
    | str s => exact ⟨by simpa [py, PyData.canLay0, pl] using h, by simp [py, PyData.depth]⟩
    | _ => first | exact ⟨rfl, by simp [py, PyData.depth]⟩ | (simp [pl] at h)
def eqD (a b : D) : Bool := PyData.eqv (py a) (py b)
theorem pl_sh {d : D} (h : pl 16 d = true) : SeqAt.shaped (py d) = true := by
  obtain ⟨h1, h2⟩ := pl_shaped 16 d h
  unfold SeqAt.shaped
  rw [h1]
  simp
  omega
theorem dpL {P : Option Addr} {G H : Hp} {n : Nat} (ih : ∀ (d : D) (v : V), pl n d = true → Rep K P G v d → Dp K H v (py d)) : ∀ {vs : List V} {ds : List D}, RepL K P G vs ds → ds.all (pl n) = true → DpAll K H vs (pyL ds)
  | _, _, .nil, _ => .nil
  | _, _, .cons h t, z => by
    rw [List.all_cons, Bool.and_eq_true] at z
    exact .cons (ih _ _ z.1 h) (dpL ih t z.2)
theorem dp_of {P : Option Addr} {G H : Hp} (w : Wf K P H G) : ∀ (n : Nat) (d : D) (v : V), pl n d = true → Rep K P G v d → Dp K H v (py d) := by
  intro n
  induction n with
  | zero =>
    intro d v h r
    cases d with
    | non => rw [r.non_inv]; exact .non
    | bl b => rw [r.bl_inv]; exact .bl b
    | int b => rw [r.int_inv]; exact .int b
    | str b => rw [r.str_inv]; exact .str b
    | _ => simp [pl] at h
  | succ n ih =>
    intro d v h r
    cases d with
    | non => rw [r.non_inv]; exact .non
    | bl b => rw [r.bl_inv]; exact .bl b
    | int b => rw [r.int_inv]; exact .int b
    | str b => rw [r.str_inv]; exact .str b
    | lst ds =>
      obtain ⟨a, xs, rfl, h1, r1⟩ := r.lst_inv
      exact .lst (SqL.of (w.gh _ _ h1)) (dpL ih r1 (by simpa [pl] using h))
    | tup ds =>
      obtain ⟨a, xs, rfl, h1, r1⟩ := r.tup_inv
      exact .tup (sqT_le w.gh h1) (dpL ih r1 (by simpa [pl] using h))
    | _ => simp [pl] at h
theorem dp_ofW {P : Option Addr} {G H : Hp} (w : Wf K P H G) {d : D} {v : V} (h : pl 16 d = true) (r : RepW K P G H v d) : Dp K H v (py d) := by
  cases r with
  | s r => exact dp_of w 16 d v h r
  | o e c _ =>
    cases c with
    | lst r => exact .lst (SqL.of e) (dpL (dp_of w 15) r (by simpa [pl] using h))
    | _ => simp [pl] at h
def oEq : O2 := fun a b Q => pl 16 a = true ∧ pl 16 b = true ∧ Q (.bl (eqD a b))
def oNe : O2 := fun a b Q => pl 16 a = true ∧ pl 16 b = true ∧ Q (.bl (!eqD a b))
theorem s_eq : OpS K (rEqD K) oEq := fun P H G x y a b w rx ry Q q R k => ⟨_, _, dp_ofW w q.1 rx, dp_ofW w q.2.1 ry, pl_sh q.1, pl_sh q.2.1, k _ _ H G q.2.2 .refl w (.bl _)⟩
theorem s_ne : OpS K (rNeD K) oNe := fun P H G x y a b w rx ry Q q R k => ⟨_, _, dp_ofW w q.1 rx, dp_ofW w q.2.1 ry, pl_sh q.1, pl_sh q.2.1, k _ _ H G q.2.2 .refl w (.bl _)⟩
theorem eqD_int {i j : Int} : eqD (.int i) (.int j) = decide (i = j) := by
  unfold eqD
  simp only [py, PyData.eqv]
  exact Bool.beq_eq_decide_eq i j
theorem eqD_str {i j : Str} : eqD (.str i) (.str j) = decide (i = j) := by
  unfold eqD
  simp only [py, PyData.eqv]
  exact Bool.beq_eq_decide_eq i j
theorem eqD_refl {d : D} (h : pl 16 d = true) : eqD d d = true := SeqAt.eqv_refl _ (pl_shaped 16 d h).1
/-! ### in, not in: lists and tuples -/
def oIn : O2 := fun a b Q => match b with
  | .lst xs => pl 16 a = true ∧ xs.all (pl 15) = true ∧ Q (.bl (xs.any fun z => eqD z a))
  | _ => False
def oNotIn : O2 := fun a b Q => match b with
  | .lst xs => pl 16 a = true ∧ xs.all (pl 15) = true ∧ Q (.bl (!xs.any fun z => eqD z a))
  | _ => False
theorem pyL_any (a : D) : ∀ xs : List D, (pyL xs).any (fun z => PyData.eqv z (py a)) = xs.any fun z => eqD z a
  | [] => rfl
  | x :: xs => by
    rw [pyL, List.any_cons, List.any_cons, pyL_any a xs]
    rfl
theorem s_in : OpS K (rInD K) oIn := fun P H G x y a b w rx ry Q q R k => by
  cases b with
  | lst xs =>
    have hb : pl 16 (.lst xs) = true := by simpa [pl] using q.2.1
    exact ⟨_, _, dp_ofW w q.1 rx, dp_ofW w hb ry, pl_sh q.1, pl_sh hb, by rw [pyL_any]; exact k _ _ H G q.2.2 .refl w (.bl _)⟩
  | _ => exact False.elim q
theorem s_notIn : OpS K (rNotInD K) oNotIn := fun P H G x y a b w rx ry Q q R k => by
  cases b with
  | lst xs =>
    have hb : pl 16 (.lst xs) = true := by simpa [pl] using q.2.1
    exact ⟨_, _, dp_ofW w q.1 rx, dp_ofW w hb ry, pl_sh q.1, pl_sh hb, by rw [pyL_any]; exact k _ _ H G q.2.2 .refl w (.bl _)⟩
  | _ => exact False.elim q
end
end Pv
namespace Pv
open PySem PySem.Spec L2

/-! ### subscripts -/
section
variable {K : PySem.W.Frag} {X : Cx} {P : Option Addr} {G H : Hp}
theorem RepL.atI {vs : List V} {ds : List D} {i : Int} {d : D} (r : RepL K P G vs ds) (h : L2.atI ds i = some d) : ∃ v, L2.atI vs i = some v ∧ Rep K P G v d := by
  unfold L2.atI at h ⊢
  rw [r.len]
  cases e : ixN ds.length i with
  | none => rw [e] at h; cases h
  | some j =>
    rw [e] at h
    exact r.get (show ds[j]? = some d from h)
theorem RepK.val {kvs : List (Key × V)} {ds : List (Key × D)} (r : RepK K P G kvs ds) (k : Key) : (∀ d, (ds.find? fun kv => decide (kv.1 = k)).map (·.2) = some d → ∃ v, valV kvs k = some v ∧ Rep K P G v d) ∧
    ((ds.find? fun kv => decide (kv.1 = k)).map (·.2) = none → valV kvs k = none) := by
  unfold valV
  match kvs, ds, r with
  | _, _, .nil => exact ⟨fun d h => by simp at h, fun _ => rfl⟩
  | _, _, @RepK.cons _ _ _ k' v _ d' _ h t =>
    by_cases e : k' = k
    · subst e
      simp only [List.find?_cons, decide_true, Option.map_some]
      exact ⟨fun d q => ⟨v, rfl, by cases q; exact h⟩, fun q => by cases q⟩
    · simp only [List.find?_cons, decide_eq_false e]
      exact RepK.val t k
theorem RepT.val {kvs : List (List Key × V)} {ds : List (List Key × D)} (r : RepT K P G kvs ds) (k : List Key) : (∀ d, (ds.find? fun kv => decide (kv.1 = k)).map (·.2) = some d → ∃ v, valV kvs k = some v ∧ Rep K P G v d) ∧
    ((ds.find? fun kv => decide (kv.1 = k)).map (·.2) = none → valV kvs k = none) := by
  unfold valV
  match kvs, ds, r with
  | _, _, .nil => exact ⟨fun d h => by simp at h, fun _ => rfl⟩
  | _, _, @RepT.cons _ _ _ k' v _ d' _ h t =>
    by_cases e : k' = k
    · subst e
      simp only [List.find?_cons, decide_true, Option.map_some]
      exact ⟨fun d q => ⟨v, rfl, by cases q; exact h⟩, fun q => by cases q⟩
    · simp only [List.find?_cons, decide_eq_false e]
      exact RepT.val t k
/-- what a dict holds at a key -/
def look {κ : Type} [DecidableEq κ] (kvs : List (κ × D)) (k : κ) : Option D := (kvs.find? fun kv => decide (kv.1 = k)).map (·.2)
def keyD : D → Option Key
  | .int i => some (.inl i)
  | .str s => some (.inr s)
  | _ => none
def keysD : List D → Option (List Key)
  | [] => some []
  | d :: ds => match keyD d, keysD ds with
    | some k, some ks => some (k :: ks)
    | _, _ => none
def tkeyD : D → Option (List Key)
  | .tup ds => keysD ds
  | _ => none
theorem keyD_v {v : V} {d : D} {k : Key} (h : keyD d = some k) (r : RepW K P G H v d) : v = kV k := by
  cases d with
  | int i =>
    cases h
    exact r.int_inv
  | str s =>
    cases h
    exact r.str_inv
  | _ => cases h
theorem keysD_v : ∀ {ds : List D} {ks : List Key} {vs : List V}, keysD ds = some ks → RepL K P G vs ds → vs = ks.map kV
  | [], ks, vs, h, r => by
    cases r
    cases h
    rfl
  | d :: ds, ks, vs, h, r => by
    cases r with
    | cons r1 r2 =>
      rw [keysD] at h
      cases e1 : keyD d with
      | none => rw [e1] at h; cases h
      | some k =>
        rw [e1] at h
        cases e2 : keysD ds with
        | none => rw [e2] at h; cases h
        | some ks2 =>
          rw [e2] at h
          cases h
          rw [keyD_v e1 (.s (H := G) r1), keysD_v e2 r2]
          rfl
/-- a dict's item, its key a tuple that may be the module's too -/
def DGetS (K : PySem.W.Frag) (H : Hp) (a : Addr) (y : V) (r : Option V) : Prop :=
  (∃ kvs k, Rd H a (.dK kvs) ∧ y = kV k ∧ r = valV kvs k) ∨ ∃ kvs k b, Rd H a (.dT kvs) ∧ y = .ref b ∧ SqT K H b (k.map kV) ∧ r = valV kvs k
def rIxD (K : PySem.W.Frag) : R2 := fun x y H Q => ∃ a v, x = .ref a ∧ DGetS K H a y (some v) ∧ Q v H
theorem keyT_of {pins : List (Addr × Obj)} {σ : L2.St} {s : Shared} {b : Addr} {k : List Key} (I : Inv X pins σ H s) (hb : SqT X.K H b (k.map kV)) : (tupleKind (mixKind X.prog X.w)).is s.heap k b := by
  obtain ⟨its, r, ⟨o, h1, h2, n, h3⟩, _⟩ := I.tuple hb
  exact ⟨o, its.toArray, n, h1, h2, h3, by simpa using items_are r⟩
theorem d_getItemS {A : Around} {E : Value → Shared → Prop} {pins : List (Addr × Obj)} {σ : L2.St} {s : Shared} {a : Addr} {y v : V} {u : Value} {Q : Value → Shared → Prop} (hu : A.units + 1 < cLine) (I : Inv X pins σ H s) (g : DGetS X.K H a y (some v)) (ry : RelV y u) (h : ∀ w' s', Inv X pins σ H s' → RelV v w' → Q w' s') :
    wpAny (model X.prog X.w) A (getItem (.ref a) u) Q E s ∧ s.TypeIs (.ref a) "dict" := by
  rcases g with ⟨kvs, k, e, ey, l⟩ | ⟨kvs, k, b, e, ey, eb, l⟩
  · exact ⟨d_getItem hu I (.inl ⟨kvs, k, e, ey, l⟩) ry h, dict_typeIs I (.inl ⟨kvs, k, e, ey, l⟩)⟩
  · subst ey
    cases (show u = Value.ref b from ry)
    obtain ⟨_, hd, xs, rel, dd⟩ := dt_rd I.hok e
    obtain ⟨w', hw, rw'⟩ := RelO.some_of (v := v) (o := (atKey xs k).map (·.2)) (by rw [l]; exact rel.val k)
    obtain ⟨p, hp, hp2⟩ := Option.map_eq_some_iff.mp hw
    exact ⟨wpAny_getItem_heap (tupleKind_room_in1 hu) (keyT_of I eb) dd hp (by rw [hp2]; exact h w' _ (I.tok _) rw'), dd.typeIs⟩
theorem ix_dictS (hu : X.A.units + 1 < cLine) : IxR X (rIxD X.K) := fun value slice pins s σ H x y v u Q I rx ry h hs => by
  obtain ⟨a, v0, rfl, g, q⟩ := h
  cases (show v = Value.ref a from rx)
  obtain ⟨h1, h2⟩ := d_getItemS (E := X.xe) (Q := EP X pins σ Q) hu I g ry fun w' s' I' r' => ⟨v0, H, I', r', q⟩
  exact PyProof.Rows.tail_any h2 PySem.F.slot_dict_getitem.lookup h1 hs
def rIxA (K : PySem.W.Frag) : R2 := fun x y H Q => rIx K x y H Q ∨ rIxD K x y H Q
theorem ix_all (hu : X.A.units + 1 < cLine) : IxR X (rIxA X.K) := ix_seq.or (ix_dictS hu)
def oIx : O2 := fun a b Q => match a with
  | .lst xs => (match b with
    | .int i => ∃ d, L2.atI xs i = some d ∧ Q d
    | _ => False)
  | .tup xs => (match b with
    | .int i => ∃ d, L2.atI xs i = some d ∧ Q d
    | _ => False)
  | .dk kvs => ∃ kk d, keyD b = some kk ∧ look kvs kk = some d ∧ Q d
  | .dt kvs => ∃ kk d, tkeyD b = some kk ∧ look kvs kk = some d ∧ Q d
  | _ => False
theorem s_ix : OpS K (rIxA K) oIx := fun P H G x y a b w rx ry Q q R k => by
  cases a with
  | lst xs =>
    cases b with
    | int i =>
      obtain ⟨d, h, q⟩ := q
      obtain ⟨p, vs, rfl, h1, r1⟩ := rx.lst_inv w
      obtain ⟨v, h2, r2⟩ := r1.atI h
      exact .inl (.inl ⟨p, vs, i, v, rfl, ry.int_inv, SqL.of h1, h2, k d v H G q .refl w r2⟩)
    | _ => exact False.elim q
  | tup xs =>
    cases b with
    | int i =>
      obtain ⟨d, h, q⟩ := q
      obtain ⟨p, vs, rfl, h1, r1⟩ := rx.tup_inv
      obtain ⟨v, h2, r2⟩ := r1.atI h
      exact .inl (.inr (.inl ⟨p, vs, i, v, rfl, ry.int_inv, sqT_le w.gh h1, h2, k d v H G q .refl w r2⟩))
    | _ => exact False.elim q
  | dk kvs =>
    obtain ⟨kk, d, e, h, q⟩ := q
    obtain ⟨p, vs, rfl, h1, r1⟩ := rx.dk_inv w
    obtain ⟨v, h2, r2⟩ := (r1.val kk).1 d h
    exact .inr ⟨p, v, rfl, .inl ⟨vs, kk, h1, keyD_v e ry, h2.symm⟩, k d v H G q .refl w r2⟩
  | dt kvs =>
    obtain ⟨kk, d, e, h, q⟩ := q
    obtain ⟨p, vs, rfl, h1, r1⟩ := rx.dt_inv w
    obtain ⟨v, h2, r2⟩ := (r1.val kk).1 d h
    cases b with
    | tup ds =>
      obtain ⟨t, us, rfl, h3, r3⟩ := ry.tup_inv
      have e3 := keysD_v (show keysD ds = some kk from e) r3
      subst e3
      exact .inr ⟨p, v, rfl, .inr ⟨vs, kk, t, h1, rfl, sqT_le w.gh h3, h2.symm⟩, k d v H G q .refl w r2⟩
    | _ => cases e
  | _ => exact False.elim q
theorem j_ix {a b : Expr} {ta tb : TE} {pa pb : PX} {pos : Pos} (hu : X.A.units + 64 < cLine) (ha : JW K X a ta pa) (hb : JW K X b tb pb) (hs : PlainIx b) (kk : X.K = K := by rfl) : JS K X (.Subscript a b pos) (tOp (rIxA K) ta tb) (xOp oIx pa pb) := by
  subst kk
  exact ⟨pe_ix (ix_all (by omega)) ha.1 hb.1 hs, fun P => ev_op s_ix (ha.2 P) (hb.2 P)⟩
/-! ### slices -/
def EvO (K : PySem.W.Frag) (P : Option Addr) (t : TO) (p : En → (Option Int → Prop) → Prop) : Prop := ∀ G0 H0 env σ H G, SR K P G0 H0 env σ H G → ∀ Q, p env Q → ∀ R : Option Int → Hp → Prop, (∀ b H' G', Q b → Up P H G H' G' → Wf K P H' G' → R b H') → t σ H R
abbrev POt := En → (Option Int → Prop) → Prop
def JO (K : PySem.W.Frag) (X : Cx) (e : Option Expr) (t : TO) (p : POt) : Prop := PO X e t ∧ ∀ P, EvO K P t p
def xNo : POt := fun _ Q => Q none
def xPart (p : PX) : POt := fun env Q => p env fun d => match d with
  | .int i => Q (some i)
  | _ => False
theorem jo_no : JO K X none tNoPart xNo := ⟨po_none, fun P G0 H0 env σ H G S Q q R k => k _ H G q .refl S.wf⟩
theorem jo_some {e : Expr} {te : TE} {p : PX} (h : JW K X e te p) : JO K X (some e) (tPart te) (xPart p) := ⟨po_some h.1, fun P G0 H0 env σ H G S Q q R k => h.2 P G0 H0 env σ H G S _ q _ fun d v H1 G1 q1 u w r => by
  cases d with
  | int i => exact ⟨i, r.int_inv, k _ H1 G1 q1 u w⟩
  | _ => exact False.elim q1⟩
def cutD (xs : List D) (lo hi : Option Int) : List D := (xs.drop (HT.sIx xs.length 0 lo)).take (HT.sIx xs.length xs.length hi - HT.sIx xs.length 0 lo)
def rSlAll (K : PySem.W.Frag) : V → Option Int → Option Int → Hp → VK → Prop := fun x lo hi H Q => rSlL K x lo hi H Q ∨ rSlA K x lo hi H Q
theorem sl_all : SlR X (rSlAll X.K) := sl_list.or sl_tupA
def xSl (p : PX) (lo hi : POt) : PX := fun env Q => p env fun d => lo env fun l => hi env fun u => match d with
  | .lst xs => Q (.lst (cutD xs l u))
  | .tup xs => Q (.tup (cutD xs l u))
  | _ => False
theorem RepL.cut {vs : List V} {ds : List D} (r : RepL K P G vs ds) (lo hi : Option Int) : RepL K P G (cutV vs lo hi) (cutD ds lo hi) := by
  unfold cutV cutD
  rw [r.len]
  exact (r.drop _).take _
theorem sIx_le (n d : Nat) (hd : d ≤ n) (o : Option Int) : HT.sIx n d o ≤ n := by
  unfold HT.sIx
  cases o with
  | none => exact hd
  | some i => dsimp only; split <;> omega
theorem j_sl {e : Expr} {te : TE} {p : PX} {lo hi : Option Expr} {tl th : TO} {pl ph : POt} {pos p2 : Pos} (he : JW K X e te p) (hl : JO K X lo tl pl) (hh : JO K X hi th ph) (kk : X.K = K := by rfl) : JS K X (.Subscript e (.Slice lo hi none p2) pos) (tSl (rSlAll K) te tl th) (xSl p pl ph) := by
  subst kk
  refine ⟨pe_slice sl_all he.1 hl.1 hh.1, fun P G0 H0 env σ H G S Q q R k => he.2 P G0 H0 env σ H G S _ q _ fun d v H1 G1 q1 u1 w1 r1 => hl.2 P G0 H0 env σ H1 G1 (S.step u1 w1) _ q1 _ fun l H2 G2 q2 u2 w2 =>
    hh.2 P G0 H0 env σ H2 G2 ((S.step u1 w1).step u2 w2) _ q2 _ fun h H3 G3 q3 u3 w3 => ?_⟩
  have r3 := (r1.up u2).up u3
  have up := (u1.trans u2).trans u3
  cases d with
  | lst xs =>
    obtain ⟨a, vs, rfl, h1, rr⟩ := r3.lst_inv w3
    refine .inl ⟨a, vs, rfl, SqL.of h1, fun p hp => ?_⟩
    obtain ⟨u', w'⟩ := take_new (o := .lst (cutV vs l h)) w3 hp
    exact k _ _ _ _ q3 (up.trans u') w' (.obj upd_same (.lst ((rr.cut l h).mono u'.g)))
  | tup xs =>
    obtain ⟨a, vs, rfl, h1, rr⟩ := r3.tup_inv
    refine .inr ⟨a, vs, rfl, sqT_le w3.gh h1, fun z => ?_, fun _ p hp => ?_⟩
    · have e : cutD xs l h = xs := by
        unfold cutD
        rw [← rr.len, z.1, z.2]
        simp [rr.len]
      replace q3 : Q (.tup (cutD xs l h)) := q3
      rw [e] at q3
      exact k _ _ H3 G3 q3 up w3 (.tup h1 rr)
    · obtain ⟨u', w'⟩ := take_new (o := .tup (cutV vs l h)) w3 hp
      exact k _ _ _ _ q3 (up.trans u') w' (.tup (.inl (.inl upd_same)) ((rr.cut l h).mono u'.g))
  | _ => exact False.elim q3
end
end Pv
namespace Pv
open PySem PySem.Spec L2

/-! ### built-ins by name -/
abbrev OC := List D → (D → Prop) → Prop
def CaS (K : PySem.W.Frag) (r : List V → Hp → VK → Prop) (o : OC) : Prop := ∀ (P : Option Addr) (H G : Hp) (vs : List V) (ds : List D), Wf K P H G → RepWL K P G H vs ds → ∀ Q, o ds Q → ∀ R : VK,
  (∀ d v H' G', Q d → Up P H G H' G' → Wf K P H' G' → Rep K P G' v d → R v H') → r vs H R
/-- .. that gives a new object -/
def CaF (K : PySem.W.Frag) (r : List V → Hp → VK → Prop) (o : OC) : Prop := ∀ (P : Option Addr) (H G : Hp) (vs : List V) (ds : List D), Wf K P H G → RepWL K P G H vs ds → ∀ Q, o ds Q → ∀ R : VK,
  (∀ d p u, Q d → H p = none → Cont K P G u d → R (.ref p) (upd H p u)) → r vs H R
theorem CaF.s {K : PySem.W.Frag} {r : List V → Hp → VK → Prop} {o : OC} (h : CaF K r o) : CaS K r o := fun P H G vs ds w rv Q q R k => h P H G vs ds w rv Q q R fun d p u q1 hp c => by
  obtain ⟨u', w'⟩ := take_new (o := u) w hp
  exact k d _ _ _ q1 u' w' (.obj upd_same (c.mono u'.g))
def xCB (o : OC) (pa : PAa) : PX := fun env Q => pa env fun ds => o ds Q
section
variable {K : PySem.W.Frag} {X : Cx} {r : List V → Hp → VK → Prop} {o : OC} {t : TA} {pa : PAa} {x : Str} {p pos : Pos} {e : Expr} {es : List Expr} {fid T : String}
theorem ev_cb {P : Option Addr} (hs : CaS K r o) (ha : EvB K P t pa) : EvS K P (tCB r t) (xCB o pa) := fun G0 H0 env σ H G S Q q R k => ha G0 H0 env σ H G S _ q _ fun ds vs H1 G1 q1 u w rv => hs P H1 G1 vs ds w rv Q q1 R fun d v H' G' a b c d' => k d v H' G' a (u.trans b) c d'
theorem ev_cf {P : Option Addr} (hs : CaF K r o) (ha : EvB K P t pa) : EvF K P (tCB r t) (xCB o pa) := fun G0 H0 env σ H G S Q q R k => ha G0 H0 env σ H G S _ q _ fun ds vs H1 G1 q1 u w rv => hs P H1 G1 vs ds w rv Q q1 R fun d p o' q2 hp c =>
  k d p o' _ G1 q2 (u.trans (Up.new hp)) (w.new hp) (u.back hp) upd_same (w.no hp) c
theorem j_cb (hc : CallR X (.builtin fid) r) (hs : CaS K r o) (hg : Gl X x) (hm : X.mg x = none) (hv : bootBuiltins x = some (.builtin fid)) (ha : JB K X (e :: es) t pa) (hn : x ≠ "__name__" := by decide) (hdb : (x == ("__debug__" : Str)) = false := by decide)
    (he : starEach (e :: es) X.env = (false, eval e X.env) :: starEach es X.env := by rfl) (hpl : (backTo pos (starEach es X.env)).any (·.1) = false := by rfl) : JS K X (.Call (.Name x p) (e :: es) [] pos) (tCB r t) (xCB o pa) := ⟨pe_callB hc hg hm hv ha.1 hn hdb he hpl, fun P => ev_cb hs (ha.2 P)⟩
theorem j_cbF (hc : CallR X (.builtin fid) r) (hs : CaF K r o) (hg : Gl X x) (hm : X.mg x = none) (hv : bootBuiltins x = some (.builtin fid)) (ha : JB K X (e :: es) t pa) (hn : x ≠ "__name__" := by decide) (hdb : (x == ("__debug__" : Str)) = false := by decide)
    (he : starEach (e :: es) X.env = (false, eval e X.env) :: starEach es X.env := by rfl) (hpl : (backTo pos (starEach es X.env)).any (·.1) = false := by rfl) : JF K X (.Call (.Name x p) (e :: es) [] pos) (tCB r t) (xCB o pa) := ⟨pe_callB hc hg hm hv ha.1 hn hdb he hpl, fun P => ev_cf hs (ha.2 P)⟩
theorem j_ct (hc : CallR X (.type T) r) (hs : CaS K r o) (hg : Gl X x) (hm : X.mg x = none) (hv : bootBuiltins x = some (.type T)) (ha : JB K X (e :: es) t pa) (hn : x ≠ "__name__" := by decide) (hdb : (x == ("__debug__" : Str)) = false := by decide)
    (he : starEach (e :: es) X.env = (false, eval e X.env) :: starEach es X.env := by rfl) (hpl : (backTo pos (starEach es X.env)).any (·.1) = false := by rfl) : JS K X (.Call (.Name x p) (e :: es) [] pos) (tCB r t) (xCB o pa) := ⟨pe_callTy hc hg hm hv ha.1 hn hdb he hpl, fun P => ev_cb hs (ha.2 P)⟩
theorem j_ctF (hc : CallR X (.type T) r) (hs : CaF K r o) (hg : Gl X x) (hm : X.mg x = none) (hv : bootBuiltins x = some (.type T)) (ha : JB K X (e :: es) t pa) (hn : x ≠ "__name__" := by decide) (hdb : (x == ("__debug__" : Str)) = false := by decide)
    (he : starEach (e :: es) X.env = (false, eval e X.env) :: starEach es X.env := by rfl) (hpl : (backTo pos (starEach es X.env)).any (·.1) = false := by rfl) : JF K X (.Call (.Name x p) (e :: es) [] pos) (tCB r t) (xCB o pa) := ⟨pe_callTy hc hg hm hv ha.1 hn hdb he hpl, fun P => ev_cf hs (ha.2 P)⟩
/-- a built-in function that the module has by a name (gcd) -/
theorem j_cbM (hc : CallR X (.builtin fid) r) (hs : CaS K r o) (hg : Gl X x) (hm : X.mg x = some (.builtin fid)) (ha : JB K X (e :: es) t pa) (hdb : (x == ("__debug__" : Str)) = false := by decide)
    (he : starEach (e :: es) X.env = (false, eval e X.env) :: starEach es X.env := by rfl) (hpl : (backTo pos (starEach es X.env)).any (·.1) = false := by rfl) : JS K X (.Call (.Name x p) (e :: es) [] pos) (tCB r t) (xCB o pa) := ⟨pe_callBfun hc hg hm ha.1 hdb he hpl, fun P => ev_cb hs (ha.2 P)⟩
def orC (r s : List V → Hp → VK → Prop) : List V → Hp → VK → Prop := fun xs H Q => r xs H Q ∨ s xs H Q
theorem or_call {f : Value} {r s : List V → Hp → VK → Prop} (h1 : CallR X f r) (h2 : CallR X f s) : CallR X f (orC r s) := fun pins s' σ H xs us Q I rv h => h.elim (h1 pins s' σ H xs us Q I rv) (h2 pins s' σ H xs us Q I rv)
theorem rwl1 {P : Option Addr} {G H : Hp} {vs : List V} {d : D} (h : RepWL K P G H vs [d]) : ∃ v, vs = [v] ∧ RepW K P G H v d := by
  cases h with
  | cons h t =>
    cases t
    exact ⟨_, rfl, h⟩
theorem rwl2 {P : Option Addr} {G H : Hp} {vs : List V} {d e : D} (h : RepWL K P G H vs [d, e]) : ∃ v u, vs = [v, u] ∧ RepW K P G H v d ∧ RepW K P G H u e := by
  cases h with
  | cons h t =>
    obtain ⟨u, rfl, k⟩ := rwl1 t
    exact ⟨_, _, rfl, h, k⟩
/-! len -/
def rLenA (K : PySem.W.Frag) : List V → Hp → VK → Prop := fun xs H Q => ∃ x n, xs = [x] ∧ LenV K x H n ∧ Q (.int n) H
def oLen : OC := fun ds Q => match ds with
  | [.lst xs] => Q (.int (xs.length : Nat))
  | [.tup xs] => Q (.int (xs.length : Nat))
  | [.str s] => s.length ≤ 16777216 ∧ Q (.int (s.length : Nat))
  | _ => False
theorem c_len : CallR X (.builtin "len") (rLenA X.K) := call_len
theorem s_len : CaS K (rLenA K) oLen := fun P H G vs ds w rv Q q R k => by
  match ds, q with
  | [.lst xs], q =>
    obtain ⟨v, rfl, r⟩ := rwl1 rv
    obtain ⟨a, ys, rfl, h, rr⟩ := r.lst_inv w
    exact ⟨_, xs.length, rfl, .inl ⟨ys, SqL.of h, rr.len.symm⟩, k _ _ H G q .refl w (.int _)⟩
  | [.tup xs], q =>
    obtain ⟨v, rfl, r⟩ := rwl1 rv
    obtain ⟨a, ys, rfl, h, rr⟩ := r.tup_inv
    exact ⟨_, xs.length, rfl, .inr ⟨ys, sqT_le w.gh h, rr.len.symm⟩, k _ _ H G q .refl w (.int _)⟩
  | [.str s], q =>
    obtain ⟨v, rfl, r⟩ := rwl1 rv
    exact ⟨_, s.length, rfl, by rw [r.str_inv]; exact ⟨szle q.1, rfl⟩, k _ _ H G q.2 .refl w (.int _)⟩
/-! int(x), abs(x), max(x, y), min(x, y), gcd(x, y) -/
def rInt1 : List V → Hp → VK → Prop := fun xs H Q => (∃ i, xs = [.int i] ∧ Q (.int i) H) ∨ ∃ k, xs = [.bl k] ∧ Q (.int (if k then 1 else 0)) H
def oInt1 : OC := fun ds Q => match ds with
  | [.int i] => Q (.int i)
  | [.bl b] => Q (.int (if b then 1 else 0))
  | _ => False
theorem c_int : CallR X (.type "int") rInt1 := call_int1
theorem s_int : CaS K rInt1 oInt1 := fun P H G vs ds w rv Q q R k => by
  match ds, q with
  | [.int i], q =>
    obtain ⟨v, rfl, r⟩ := rwl1 rv
    exact .inl ⟨i, by rw [r.int_inv], k _ _ H G q .refl w (.int _)⟩
  | [.bl i], q =>
    obtain ⟨v, rfl, r⟩ := rwl1 rv
    exact .inr ⟨i, by rw [r.bl_inv], k _ _ H G q .refl w (.int _)⟩
def rAbs : List V → Hp → VK → Prop := fun xs H Q => ∃ i, xs = [.int i] ∧ Q (.int (if i < 0 then -i else i)) H
def oAbs : OC := fun ds Q => match ds with
  | [.int i] => Q (.int (if i < 0 then -i else i))
  | _ => False
theorem c_abs : CallR X (.builtin "abs") rAbs := call_abs
theorem s_abs : CaS K rAbs oAbs := fun P H G vs ds w rv Q q R k => by
  match ds, q with
  | [.int i], q =>
    obtain ⟨v, rfl, r⟩ := rwl1 rv
    exact ⟨i, by rw [r.int_inv], k _ _ H G q .refl w (.int _)⟩
def rI2 (f : Int → Int → Int) : List V → Hp → VK → Prop := fun xs H Q => ∃ i j, xs = [.int i, .int j] ∧ Q (.int (f i j)) H
def oI2 (f : Int → Int → Int) : OC := fun ds Q => match ds with
  | [.int i, .int j] => Q (.int (f i j))
  | _ => False
theorem s_I2 {f : Int → Int → Int} : CaS K (rI2 f) (oI2 f) := fun P H G vs ds w rv Q q R k => by
  match ds, q with
  | [.int i, .int j], q =>
    obtain ⟨v, u, rfl, r, r'⟩ := rwl2 rv
    exact ⟨i, j, by rw [r.int_inv, r'.int_inv], k _ _ H G q .refl w (.int _)⟩
theorem c_max2 (hc : X.calm = true := by rfl) : CallR X (.builtin "max") (rI2 fun i j => if j > i then j else i) := call_max2 hc
theorem c_min2 (hc : X.calm = true := by rfl) : CallR X (.builtin "min") (rI2 fun i j => if j < i then j else i) := call_min2 hc
theorem c_gcd : CallR X (.builtin "math.gcd") (rI2 fun a b => ((Nat.gcd a.natAbs b.natAbs : Nat) : Int)) := cr_gcd
/-! list(x), tuple(x) -/
def rListS (K : PySem.W.Frag) : List V → Hp → VK → Prop := fun xs H Q => ∃ p ys, xs = [.ref p] ∧ (SqL K H p ys ∨ SqT K H p ys) ∧ ∀ l, H l = none → Q (.ref l) (upd H l (.lst ys))
def oSeqL (f : List D → D) : OC := fun ds Q => match ds with
  | [.lst xs] => Q (f xs)
  | [.tup xs] => Q (f xs)
  | _ => False
theorem c_list : CallR X (.type "list") (rListS X.K) := call_list_of
theorem s_list : CaF K (rListS K) (oSeqL .lst) := fun P H G vs ds w rv Q q R k => by
  match ds, q with
  | [.lst xs], q =>
    obtain ⟨v, rfl, r⟩ := rwl1 rv
    obtain ⟨a, ys, rfl, h, rr⟩ := r.lst_inv w
    exact ⟨a, ys, rfl, .inl (SqL.of h), fun l hl => k _ l _ q hl (.lst rr)⟩
  | [.tup xs], q =>
    obtain ⟨v, rfl, r⟩ := rwl1 rv
    obtain ⟨a, ys, rfl, h, rr⟩ := r.tup_inv
    exact ⟨a, ys, rfl, .inr (sqT_le w.gh h), fun l hl => k _ l _ q hl (.lst rr)⟩
def rTupS (K : PySem.W.Frag) : List V → Hp → VK → Prop := fun xs H Q => ∃ p ys, xs = [.ref p] ∧ ((SqL K H p ys ∧ ∀ l, H l = none → Q (.ref l) (upd H l (.tup ys))) ∨ (SqT K H p ys ∧ Q (.ref p) H))
theorem c_tuple : CallR X (.type "tuple") (rTupS X.K) := call_tuple_of
theorem s_tuple : CaS K (rTupS K) (oSeqL .tup) := fun P H G vs ds w rv Q q R k => by
  match ds, q with
  | [.lst xs], q =>
    obtain ⟨v, rfl, r⟩ := rwl1 rv
    obtain ⟨a, ys, rfl, h, rr⟩ := r.lst_inv w
    refine ⟨a, ys, rfl, .inl ⟨SqL.of h, fun l hl => ?_⟩⟩
    obtain ⟨u', w'⟩ := take_new (o := .tup ys) w hl
    exact k _ _ _ _ q u' w' (.tup (.inl (.inl upd_same)) (rr.mono u'.g))
  | [.tup xs], q =>
    obtain ⟨v, rfl, r⟩ := rwl1 rv
    obtain ⟨a, ys, rfl, h, rr⟩ := r.tup_inv
    exact ⟨a, ys, rfl, .inr ⟨sqT_le w.gh h, k _ _ H G q .refl w (.tup h rr)⟩⟩
/-! sums, greatest, least, order of ints -/
def intsD : List D → Option (List Int)
  | [] => some []
  | .int i :: ds => (intsD ds).map (i :: ·)
  | _ => none
theorem intsD_map (ns : List Int) : intsD (ns.map D.int) = some ns := by
  induction ns with
  | nil => rfl
  | cons n ns ih => simp [intsD, ih]
theorem intsD_of : ∀ {ds : List D} {ns : List Int}, intsD ds = some ns → ds = ns.map D.int
  | [], ns, h => by cases h; rfl
  | .int i :: ds, ns, h => by
    unfold intsD at h
    cases e : intsD ds with
    | none => rw [e] at h; cases h
    | some ms =>
      rw [e] at h
      cases h
      rw [intsD_of e]
      rfl
theorem ints_v {P : Option Addr} {G : Hp} : ∀ {ns : List Int} {vs : List V}, RepL K P G vs (ns.map D.int) → vs = ns.map V.int
  | [], _, r => by cases r; rfl
  | n :: ns, _, r => by
    cases r with
    | cons h t =>
      rw [h.int_inv, ints_v t]
      rfl
theorem ints_rep {P : Option Addr} {G : Hp} : ∀ (ns : List Int), RepL K P G (ns.map V.int) (ns.map D.int)
  | [] => .nil
  | n :: ns => .cons (.int n) (ints_rep ns)
def oSum : OC := fun ds Q => match ds with
  | [.lst xs] => ∃ ns, xs = List.map D.int ns ∧ Q (.int ns.sum)
  | _ => False
theorem c_sum (hc : X.calm = true := by rfl) : CallR X (.builtin "sum") (rSum X.K) := cr_sum hc
theorem s_sum : CaS K (rSum K) oSum := fun P H G vs ds w rv Q q R k => by
  match ds, q with
  | [.lst xs], q =>
    obtain ⟨ns, rfl, q⟩ := q
    obtain ⟨v, rfl, r⟩ := rwl1 rv
    obtain ⟨a, ys, rfl, h, rr⟩ := r.lst_inv w
    rw [ints_v rr] at h
    exact ⟨a, ns, rfl, SqL.of h, k _ _ H G q .refl w (.int _)⟩
def maxL : List Int → Int
  | [] => 0
  | [x] => x
  | x :: xs => if x ≥ maxL xs then x else maxL xs
def minL : List Int → Int
  | [] => 0
  | [x] => x
  | x :: xs => if x ≤ minL xs then x else minL xs
theorem maxL_spec : ∀ {ns : List Int}, ns ≠ [] → maxL ns ∈ ns ∧ ∀ y ∈ ns, y ≤ maxL ns
  | [x], _ => ⟨by simp [maxL], by simp [maxL]⟩
  | x :: y :: ns, _ => by
    obtain ⟨h1, h2⟩ := maxL_spec (ns := y :: ns) (by simp)
    unfold maxL
    split
    · rename_i h
      refine ⟨List.mem_cons_self, fun z hz => ?_⟩
      rcases List.mem_cons.mp hz with e | hz
      · omega
      · have := h2 z hz
        omega
    · rename_i h
      refine ⟨List.mem_cons_of_mem _ h1, fun z hz => ?_⟩
      rcases List.mem_cons.mp hz with e | hz
      · omega
      · exact h2 z hz
theorem minL_spec : ∀ {ns : List Int}, ns ≠ [] → minL ns ∈ ns ∧ ∀ y ∈ ns, minL ns ≤ y
  | [x], _ => ⟨by simp [minL], by simp [minL]⟩
  | x :: y :: ns, _ => by
    obtain ⟨h1, h2⟩ := minL_spec (ns := y :: ns) (by simp)
    unfold minL
    split
    · rename_i h
      refine ⟨List.mem_cons_self, fun z hz => ?_⟩
      rcases List.mem_cons.mp hz with e | hz
      · omega
      · have := h2 z hz
        omega
    · rename_i h
      refine ⟨List.mem_cons_of_mem _ h1, fun z hz => ?_⟩
      rcases List.mem_cons.mp hz with e | hz
      · omega
      · exact h2 z hz
def oMaxL : OC := fun ds Q => match ds with
  | [.lst xs] => ∃ ns, xs = List.map D.int ns ∧ ns ≠ [] ∧ Q (.int (maxL ns))
  | _ => False
def oMinL : OC := fun ds Q => match ds with
  | [.lst xs] => ∃ ns, xs = List.map D.int ns ∧ ns ≠ [] ∧ Q (.int (minL ns))
  | _ => False
theorem c_maxL (hc : X.calm = true := by rfl) : CallR X (.builtin "max") (rMax X.K) := cr_max hc
theorem c_minL (hc : X.calm = true := by rfl) : CallR X (.builtin "min") (rMin X.K) := cr_min hc
theorem s_maxL : CaS K (rMax K) oMaxL := fun P H G vs ds w rv Q q R k => by
  match ds, q with
  | [.lst xs], q =>
    obtain ⟨ns, rfl, hn, q⟩ := q
    obtain ⟨v, rfl, r⟩ := rwl1 rv
    obtain ⟨a, ys, rfl, h, rr⟩ := r.lst_inv w
    rw [ints_v rr] at h
    refine ⟨a, ns, rfl, SqL.of h, List.length_pos_iff.mpr hn, fun m h1 h2 => ?_⟩
    obtain ⟨h3, h4⟩ := maxL_spec hn
    have e : m = maxL ns := Int.le_antisymm (h4 m h1) (h2 _ h3)
    rw [e]
    exact k _ _ H G q .refl w (.int _)
theorem s_minL : CaS K (rMin K) oMinL := fun P H G vs ds w rv Q q R k => by
  match ds, q with
  | [.lst xs], q =>
    obtain ⟨ns, rfl, hn, q⟩ := q
    obtain ⟨v, rfl, r⟩ := rwl1 rv
    obtain ⟨a, ys, rfl, h, rr⟩ := r.lst_inv w
    rw [ints_v rr] at h
    refine ⟨a, ns, rfl, SqL.of h, List.length_pos_iff.mpr hn, fun m h1 h2 => ?_⟩
    obtain ⟨h3, h4⟩ := minL_spec hn
    have e : m = minL ns := Int.le_antisymm (h2 _ h3) (h4 m h1)
    rw [e]
    exact k _ _ H G q .refl w (.int _)
/-! all, any of lists of truth values -/
theorem bls_v {P : Option Addr} {G : Hp} : ∀ {ns : List Bool} {vs : List V}, RepL K P G vs (ns.map D.bl) → vs = ns.map V.bl
  | [], _, r => by cases r; rfl
  | n :: ns, _, r => by
    cases r with
    | cons h t =>
      rw [h.bl_inv, bls_v t]
      rfl
def oAll : OC := fun ds Q => match ds with
  | [.lst xs] => ∃ bs, xs = List.map D.bl bs ∧ Q (.bl (bs.all id))
  | _ => False
def oAny : OC := fun ds Q => match ds with
  | [.lst xs] => ∃ bs, xs = List.map D.bl bs ∧ Q (.bl (bs.any id))
  | _ => False
theorem c_all (hc : X.calm = true := by rfl) : CallR X (.builtin "all") (rAll X.K) := cr_all hc
theorem c_any (hc : X.calm = true := by rfl) : CallR X (.builtin "any") (rAny X.K) := cr_any hc
theorem s_all : CaS K (rAll K) oAll := fun P H G vs ds w rv Q q R k => by
  match ds, q with
  | [.lst xs], q =>
    obtain ⟨ns, rfl, q⟩ := q
    obtain ⟨v, rfl, r⟩ := rwl1 rv
    obtain ⟨a, ys, rfl, h, rr⟩ := r.lst_inv w
    rw [bls_v rr] at h
    exact ⟨a, ns, rfl, SqL.of h, k _ _ H G q .refl w (.bl _)⟩
theorem s_any : CaS K (rAny K) oAny := fun P H G vs ds w rv Q q R k => by
  match ds, q with
  | [.lst xs], q =>
    obtain ⟨ns, rfl, q⟩ := q
    obtain ⟨v, rfl, r⟩ := rwl1 rv
    obtain ⟨a, ys, rfl, h, rr⟩ := r.lst_inv w
    rw [bls_v rr] at h
    exact ⟨a, ns, rfl, SqL.of h, k _ _ H G q .refl w (.bl _)⟩
end
/-! ### isinstance -/
section
variable {K : PySem.W.Frag} {X : Cx}
def tyN : D → Option String
  | .non => some "NoneType"
  | .bl _ => some "bool"
  | .int _ => some "int"
  | .str _ => some "str"
  | .lst _ => some "list"
  | .tup _ => some "tuple"
  | .dk _ => some "dict"
  | _ => none
def isInt : D → Bool
  | .int _ => true
  | .bl _ => true
  | _ => false
def isBl : D → Bool
  | .bl _ => true
  | _ => false
def isStr : D → Bool
  | .str _ => true
  | _ => false
def isLst : D → Bool
  | .lst _ => true
  | _ => false
def isTup : D → Bool
  | .tup _ => true
  | _ => false
def isDk : D → Bool
  | .dk _ => true
  | _ => false
def xIsi (f : D → Bool) (p : PX) : PX := fun env Q => p env fun d => (tyN d).isSome = true ∧ Q (.bl (f d))
theorem ty_rep {P : Option Addr} {G H : Hp} {v : V} {d : D} (w : Wf K P H G) {T : String} (h : tyN d = some T) (r : RepW K P G H v d) : TyX K H v (.type T) := by
  cases d with
  | non =>
    cases h
    rw [r.non_inv]
    exact .base .non
  | bl b =>
    cases h
    rw [r.bl_inv]
    exact .base (.bl b)
  | int b =>
    cases h
    rw [r.int_inv]
    exact .base (.int b)
  | str b =>
    cases h
    rw [r.str_inv]
    exact .base (.str b)
  | lst ds =>
    cases h
    obtain ⟨a, xs, rfl, h, _⟩ := r.lst_inv w
    exact .base (.lst h)
  | tup ds =>
    cases h
    obtain ⟨a, xs, rfl, h, _⟩ := r.tup_inv
    rcases sqT_le w.gh h with (h | ⟨o, h⟩) | ⟨o, its, n, h1, h2, _⟩
    · exact .base (.tup h)
    · exact .fTuple h
    · exact .kTuple h1 h2
  | dk ds =>
    cases h
    obtain ⟨a, xs, rfl, h, _⟩ := r.dk_inv w
    rcases h with h | ⟨o, h⟩
    · exact .base (.dK h)
    · exact .fDict h
  | _ => cases h
abbrev Kit (T : String) (f : D → Bool) : Prop := ∀ (d : D) (N : String), tyN d = some N → kitB N T = some (f d)
theorem kit_int : Kit "int" isInt := fun d N h => by
  cases d <;> first | (cases h; first | exact (show kitB _ _ = some true by decide +kernel) | exact (show kitB _ _ = some false by decide +kernel)) | cases h
theorem kit_bool : Kit "bool" isBl := fun d N h => by
  cases d <;> first | (cases h; first | exact (show kitB _ _ = some true by decide +kernel) | exact (show kitB _ _ = some false by decide +kernel)) | cases h
theorem kit_str : Kit "str" isStr := fun d N h => by
  cases d <;> first | (cases h; first | exact (show kitB _ _ = some true by decide +kernel) | exact (show kitB _ _ = some false by decide +kernel)) | cases h
theorem kit_list : Kit "list" isLst := fun d N h => by
  cases d <;> first | (cases h; first | exact (show kitB _ _ = some true by decide +kernel) | exact (show kitB _ _ = some false by decide +kernel)) | cases h
theorem kit_tuple : Kit "tuple" isTup := fun d N h => by
  cases d <;> first | (cases h; first | exact (show kitB _ _ = some true by decide +kernel) | exact (show kitB _ _ = some false by decide +kernel)) | cases h
theorem kit_dict : Kit "dict" isDk := fun d N h => by
  cases d <;> first | (cases h; first | exact (show kitB _ _ = some true by decide +kernel) | exact (show kitB _ _ = some false by decide +kernel)) | cases h
theorem j_isi {T : String} {f : D → Bool} {e : Expr} {te : TE} {p : PX} {x : Str} {p1 p2 pos : Pos} (hT : Kit T f) (hg : Gl X "isinstance") (hm : X.mg "isinstance" = none) (hv : bootBuiltins "isinstance" = some (.builtin "isinstance"))
    (hx : PE X (.Name x p2) (tC (.ty T))) (he : JW K X e te p) (hs : starEach [e, .Name x p2] X.env = (false, eval e X.env) :: starEach [.Name x p2] X.env := by rfl) (hs2 : starEach [.Name x p2] X.env = (false, eval (.Name x p2) X.env) :: starEach [] X.env := by rfl)
    (hpl : (backTo pos (starEach [.Name x p2] X.env)).any (·.1) = false := by rfl) (kk : X.K = K := by rfl) :
    JS K X (.Call (.Name "isinstance" p1) [e, .Name x p2] [] pos) (tCB (rIsi K) (tCons te (tCons (tC (.ty T)) tNil))) (xIsi f p) := by
  subst kk
  refine ⟨pe_callB call_isi hg hm hv (pa_cons he.1 (pa_cons hx pa_nil hs2) hs) (by decide) (by decide) hs hpl, fun P G0 H0 env σ H G S Q q R k => he.2 P G0 H0 env σ H G S _ q _ fun d v H1 G1 q1 u w r => ?_⟩
  obtain ⟨q1, q2⟩ := q1
  cases e1 : tyN d with
  | none => rw [e1] at q1; cases q1
  | some N => exact ⟨v, .ty T, .type N, .type T, _, rfl, .ty T, ty_rep w e1 r, kit_ty (hT d N e1), k _ _ H1 G1 q2 u w (.bl _)⟩
end
end Pv
namespace Pv
open PySem PySem.Spec L2

/-! ### expressions that change own lists -/
abbrev PM := En → (En → D → Prop) → Prop
def EvM (K : PySem.W.Frag) (P : Option Addr) (te : TE) (pm : PM) : Prop := ∀ G0 H0 env σ H G, SR K P G0 H0 env σ H G → ∀ Q, pm env Q → ∀ R : VK, (∀ env' d v H' G', Q env' d → Le G G' → SR K P G0 H0 env' σ H' G' → Rep K P G' v d → R v H') → te σ H R
def JM (K : PySem.W.Frag) (X : Cx) (e : Expr) (t : TE) (p : PM) : Prop := PE X e t ∧ ∀ P, EvM K P t p
def xPure (p : PX) : PM := fun env Q => p env fun d => Q env d
/-- a list's method: the list and the arguments in, the list behind it and the value out -/
abbrev OM := List D → List D → (List D → D → Prop) → Prop
def MuS (K : PySem.W.Frag) (r : V → List V → Hp → VK → Prop) (m : OM) : Prop := ∀ (P : Option Addr) (H G : Hp) (p : Addr) (vs us : List V) (xs ds : List D), Wf K P H G → H p = some (.lst vs) → RepL K P G vs xs → RepL K P G us ds → ∀ Q, m xs ds Q → ∀ R : VK,
  (∀ xs' vs' d v, Q xs' d → RepL K P G vs' xs' → Rep K P G v d → R v (upd H p (.lst vs'))) → r (.ref p) us H R
/-- .. whose arguments are only read -/
def MuW (K : PySem.W.Frag) (r : V → List V → Hp → VK → Prop) (m : OM) : Prop := ∀ (P : Option Addr) (H G : Hp) (p : Addr) (vs us : List V) (xs ds : List D), Wf K P H G → H p = some (.lst vs) → RepL K P G vs xs → RepWL K P G H us ds → ∀ Q, m xs ds Q → ∀ R : VK,
  (∀ xs' vs' d v, Q xs' d → RepL K P G vs' xs' → Rep K P G v d → R v (upd H p (.lst vs'))) → r (.ref p) us H R
def ownL (env : En) (i : Nat) (Q : List D → Prop) : Prop := match env[i]? with
  | some (some (.mu (.lst xs))) => Q xs
  | _ => False
def xMeth (i : Nat) (m : OM) (pa : PAa) : PM := fun env Q => ownL env i fun _ => pa env fun ds => ownL env i fun xs => m xs ds fun xs' d => Q (env.set i (some (.mu (.lst xs')))) d
def xMethM (i : Nat) (m : OM) (pa : PM) : PM := fun env Q => ownL env i fun _ => pa env fun env' d0 => ownL env' i fun xs => m xs [d0] fun xs' d => Q (env'.set i (some (.mu (.lst xs')))) d
section
variable {K : PySem.W.Frag} {P : Option Addr} {G0 H0 : Hp} {env : En} {σ : L2.St} {H G : Hp}
theorem own_at {i : Nat} {Q : List D → Prop} (S : SR K P G0 H0 env σ H G) (q : ownL env i Q) : ∃ p xs vs, env[i]? = some (some (.mu (.lst xs))) ∧ σ[i]? = some (some (.ref p)) ∧ H0 p = none ∧ G p = none ∧ H p = some (.lst vs) ∧ RepL K P G vs xs ∧ Q xs := by
  unfold ownL at q
  split at q
  · rename_i xs hs
    obtain ⟨p, o, h1, h2, h3, h4, h5⟩ := S.own _ _ hs
    cases h5 with
    | lst r => exact ⟨p, xs, _, hs, h1, h2, h3, h4, r, q⟩
  · exact q.elim
theorem ev_pure {te : TE} {p : PX} (h : EvS K P te p) : EvM K P te (xPure p) := fun G0 H0 env σ H G S Q q R k => h G0 H0 env σ H G S _ q _ fun d v H1 G1 q1 u w r => k env d v H1 G1 q1 u.g (S.step u w) r
theorem tyl {p : Addr} {vs : List V} (h : H p = some (.lst vs)) : tyV K "list" (.ref p) H := .inl ⟨rfl, _, SqL.of h⟩
end
section
variable {K : PySem.W.Frag} {X : Cx} {e : Expr} {te : TE} {p : PX} {pm : PM} {pos : Pos}
theorem jm_of (h : JS K X e te p) : JM K X e te (xPure p) := ⟨h.1, fun P => ev_pure (h.2 P)⟩
variable {o : Expr} {es : List Expr} {t : TA} {i : Nat} {m : OM} {pa : PAa} {r : V → List V → Hp → VK → Prop}
theorem ev_meth {P : Option Addr} (hs : MuS K r m) (ha : EvA K P t pa) : EvM K P (tBM K "list" r (tVar i) t) (xMeth i m pa) := fun G0 H0 env σ H G S Q q R k => by
  obtain ⟨p, _, vs, _, h1, _, _, h2, _, q⟩ := own_at S q
  refine ⟨_, h1, tyl h2, ?_⟩
  refine ha G0 H0 env σ H G S _ q _ fun ds us H1 G1 q1 u w rr => ?_
  obtain ⟨p', xs, vs', e1, e2, e3, e4, e5, e6, q2⟩ := own_at (S.step u w) q1
  rw [h1] at e2
  cases e2
  exact hs P H1 G1 p vs' us xs ds w e5 e6 rr _ q2 _ fun xs' vs2 d v q3 r3 r4 => k _ d v _ G1 q3 u.g ((S.step u w).mut e1 h1 e3 e4 (.lst r3)) r4
theorem ev_methW {P : Option Addr} (hs : MuW K r m) (ha : EvB K P t pa) : EvM K P (tBM K "list" r (tVar i) t) (xMeth i m pa) := fun G0 H0 env σ H G S Q q R k => by
  obtain ⟨p, _, vs, _, h1, _, _, h2, _, q⟩ := own_at S q
  refine ⟨_, h1, tyl h2, ?_⟩
  refine ha G0 H0 env σ H G S _ q _ fun ds us H1 G1 q1 u w rr => ?_
  obtain ⟨p', xs, vs', e1, e2, e3, e4, e5, e6, q2⟩ := own_at (S.step u w) q1
  rw [h1] at e2
  cases e2
  exact hs P H1 G1 p vs' us xs ds w e5 e6 rr _ q2 _ fun xs' vs2 d v q3 r3 r4 => k _ d v _ G1 q3 u.g ((S.step u w).mut e1 h1 e3 e4 (.lst r3)) r4
theorem ev_methM {P : Option Addr} (hs : MuS K r m) (ha : EvM K P te pm) : EvM K P (tBM K "list" r (tVar i) (tCons te tNil)) (xMethM i m pm) := fun G0 H0 env σ H G S Q q R k => by
  obtain ⟨p, _, vs, _, h1, _, _, h2, _, q⟩ := own_at S q
  refine ⟨_, h1, tyl h2, ?_⟩
  refine ha G0 H0 env σ H G S _ q _ fun env' d0 v0 H1 G1 q1 l S1 rr => ?_
  obtain ⟨p', xs, vs', e1, e2, e3, e4, e5, e6, q2⟩ := own_at S1 q1
  rw [h1] at e2
  cases e2
  exact hs P H1 G1 p vs' [v0] xs [d0] S1.wf e5 e6 (.cons rr .nil) _ q2 _ fun xs' vs2 d v q3 r3 r4 => k _ d v _ G1 q3 l (S1.mut e1 h1 e3 e4 (.lst r3)) r4
theorem ev_meth0 {P : Option Addr} (hs : MuS K r m) : EvM K P (tBM0 K "list" r (tVar i)) (xMeth i m xNil) := fun G0 H0 env σ H G S Q q R k => by
  obtain ⟨p, xs, vs, e1, h1, e3, e4, h2, e6, q⟩ := own_at S q
  obtain ⟨p', xs', vs', f1, f2, f3, f4, f5, f6, q2⟩ := own_at S q
  rw [h1] at f2
  cases f2
  exact ⟨_, h1, tyl h2, hs P H G p vs' [] xs' [] S.wf f5 f6 .nil _ q2 _ fun xs2 vs2 d v q3 r3 r4 => k _ d v _ G q3 .refl (S.mut f1 h1 f3 f4 (.lst r3)) r4⟩
/-- o.m(e, ..), o the list in slot i -/
theorem jm_meth (i : Nat) {x name : Str} {fid : String} {p1 apos cpos : Pos} (hs : MuS K r m) (slot : Slot "list" name fid) (hty : typeOf (.builtin fid) = pure (.type "method_descriptor")) (hm : MtR X fid r) (ho : PE X (.Name x p1) (tVar i)) (ha : JA K X (e :: es) t pa)
    (hfew : ((backTo cpos (starEach (e :: es) X.env)).all (fun x => !x.1) && (backToKw cpos (keywordEach [] X.env)).all (fun x => x.1.isSome) && decide ((e :: es).length + ([] : List Keyword).length + (if ([] : List Keyword).isEmpty then 0 else 1) < 30)) = true := by rfl)
    (hline : (apos.endLine == cpos.line) = true := by rfl) (h5 : starEach (e :: es) X.env = (false, eval e X.env) :: starEach es X.env := by rfl) (h6 : (backTo cpos (starEach es X.env)).any (·.1) = false := by rfl) (hbase : attributeBase (.Name x p1) name X.env (eval (.Name x p1) X.env) = eval (.Name x p1) X.env := by rfl) (kk : X.K = K := by rfl) :
    JM K X (.Call (.Attribute (.Name x p1) name apos) (e :: es) [] cpos) (tBM K "list" r (tVar i) t) (xMeth i m pa) := by
  subst kk
  exact ⟨pe_bm PySem.F.plainAttrs_list slot hty hm ho ha.1 hbase hfew hline h5 h6, fun P => ev_meth hs (ha.2 P)⟩
theorem jm_methW (i : Nat) {x name : Str} {fid : String} {p1 apos cpos : Pos} (hs : MuW K r m) (slot : Slot "list" name fid) (hty : typeOf (.builtin fid) = pure (.type "method_descriptor")) (hm : MtR X fid r) (ho : PE X (.Name x p1) (tVar i)) (ha : JB K X (e :: es) t pa)
    (hfew : ((backTo cpos (starEach (e :: es) X.env)).all (fun x => !x.1) && (backToKw cpos (keywordEach [] X.env)).all (fun x => x.1.isSome) && decide ((e :: es).length + ([] : List Keyword).length + (if ([] : List Keyword).isEmpty then 0 else 1) < 30)) = true := by rfl)
    (hline : (apos.endLine == cpos.line) = true := by rfl) (h5 : starEach (e :: es) X.env = (false, eval e X.env) :: starEach es X.env := by rfl) (h6 : (backTo cpos (starEach es X.env)).any (·.1) = false := by rfl) (hbase : attributeBase (.Name x p1) name X.env (eval (.Name x p1) X.env) = eval (.Name x p1) X.env := by rfl) (kk : X.K = K := by rfl) :
    JM K X (.Call (.Attribute (.Name x p1) name apos) (e :: es) [] cpos) (tBM K "list" r (tVar i) t) (xMeth i m pa) := by
  subst kk
  exact ⟨pe_bm PySem.F.plainAttrs_list slot hty hm ho ha.1 hbase hfew hline h5 h6, fun P => ev_methW hs (ha.2 P)⟩
theorem jm_methM (i : Nat) {x name : Str} {fid : String} {p1 apos cpos : Pos} (hs : MuS K r m) (slot : Slot "list" name fid) (hty : typeOf (.builtin fid) = pure (.type "method_descriptor")) (hm : MtR X fid r) (ho : PE X (.Name x p1) (tVar i)) (ha : JM K X e te pm)
    (hfew : ((backTo cpos (starEach [e] X.env)).all (fun x => !x.1) && (backToKw cpos (keywordEach [] X.env)).all (fun x => x.1.isSome) && decide ([e].length + ([] : List Keyword).length + (if ([] : List Keyword).isEmpty then 0 else 1) < 30)) = true := by rfl)
    (hline : (apos.endLine == cpos.line) = true := by rfl) (h5 : starEach [e] X.env = (false, eval e X.env) :: starEach [] X.env := by rfl) (h6 : (backTo cpos (starEach [] X.env)).any (·.1) = false := by rfl) (hbase : attributeBase (.Name x p1) name X.env (eval (.Name x p1) X.env) = eval (.Name x p1) X.env := by rfl) (kk : X.K = K := by rfl) :
    JM K X (.Call (.Attribute (.Name x p1) name apos) [e] [] cpos) (tBM K "list" r (tVar i) (tCons te tNil)) (xMethM i m pm) := by
  subst kk
  exact ⟨pe_bm PySem.F.plainAttrs_list slot hty hm ho (pa_cons ha.1 pa_nil h5) hbase hfew hline h5 h6, fun P => ev_methM hs (ha.2 P)⟩
theorem jm_meth0 (i : Nat) {x name : Str} {fid : String} {p1 apos cpos : Pos} (hs : MuS K r m) (slot : Slot "list" name fid) (hty : typeOf (.builtin fid) = pure (.type "method_descriptor")) (hm : MtR X fid r) (ho : PE X (.Name x p1) (tVar i))
    (hline : (apos.endLine == cpos.line) = true := by rfl) (hbase : attributeBase (.Name x p1) name X.env (eval (.Name x p1) X.env) = eval (.Name x p1) X.env := by rfl) (kk : X.K = K := by rfl) :
    JM K X (.Call (.Attribute (.Name x p1) name apos) [] [] cpos) (tBM0 K "list" r (tVar i)) (xMeth i m xNil) := by
  subst kk
  exact ⟨pe_bm0 PySem.F.plainAttrs_list slot hty hm ho hbase hline, fun P => ev_meth0 hs⟩
/-! their statements -/
def xDropM (p : PM) : PSt := fun F env => p env fun env' _ => F.nx env'
def xSetM (i : Nat) (p : PM) : PSt := fun F env => p env fun env' d => F.nx (env'.set i (some (.fz d)))
def xRetM (p : PM) : PSt := fun F env => p env fun _ d => F.rt d
theorem jc_dropM (h : JM K X e te pm) (hs : swapsWith e none pos.line X.env = pure false := by rfl) : JC K X (.Expr e pos) (xDropM pm) := ⟨_, ps_expr h.1 hs, fun P G0 H0 env σ H G S F E L q => h.2 P G0 H0 env σ H G S _ q _ fun env' d v H1 G1 q1 l S1 r => L.nx env' σ H1 G1 l S1 q1⟩
theorem jc_setM {i : Nat} {x : Str} {pos' : Pos} (hN : X.N.Nodup) (hi : X.N[i]? = some x) (hx : Loc X.env.scope x) (h : JM K X e te pm) (hs : swapsWith e (some (.Name x pos')) pos.line X.env = pure false := by rfl) (hf : X.fn x = true ∨ X.env.scope.names.lookup x = some .local := by first | exact .inl rfl | exact .inr rfl | assumption) :
    JC K X (.Assign [.Name x pos'] e pos) (xSetM i pm) := ⟨_, ps_set hN hi hx h.1 hs hf, fun P G0 H0 env σ H G S F E L q => h.2 P G0 H0 env σ H G S _ q _ fun env' d v H1 G1 q1 l S1 r => L.nx _ _ H1 G1 l (S1.setFz r) q1⟩
theorem jc_retM (h : JM K X e te pm) : JC K X (.Return (some e) pos) (xRetM pm) := ⟨_, ps_ret h.1, fun P G0 H0 env σ H G S F E L q => h.2 P G0 H0 env σ H G S _ q _ fun env' d v H1 G1 q1 l S1 r => L.rt d v H1 G1 l S1.up S1.wf r q1⟩
end

/-! ### the methods -/
section
variable {K : PySem.W.Frag} {X : Cx}
def oApp : OM := fun xs ds Q => match ds with
  | [d] => xs.length < 16777216 ∧ Q (xs ++ [d]) .non
  | _ => False
theorem mu_app : MuS K rAppend oApp := fun P H G p vs us xs ds w h r ra Q q R k => by
  match ds, q, ra with
  | [d], q, ra =>
    cases ra with
    | cons r1 r2 =>
      cases r2
      exact ⟨p, vs, _, rfl, rfl, h, by rw [r.len]; exact szlt q.1, k _ _ _ _ q.2 (r.append (.cons r1 .nil)) .non⟩
def oExt : OM := fun xs ds Q => match ds with
  | [.lst ys] => xs.length + ys.length ≤ 16777216 ∧ Q (xs ++ ys) .non
  | _ => False
theorem mu_ext : MuW K rExtend oExt := fun P H G p vs us xs ds w h r ra Q q R k => by
  match ds, q, ra with
  | [.lst ys], q, ra =>
    obtain ⟨v, rfl, r1⟩ := rwl1 ra
    obtain ⟨b, zs, rfl, h2, r2⟩ := r1.lst_inv w
    exact ⟨p, b, vs, zs, rfl, rfl, h, h2, by rw [r.len, r2.len]; exact szle q.1, k _ _ _ _ q.2 (r.append r2) .non⟩
def oPop : OM := fun xs ds Q => match ds with
  | [] => ∃ d, xs[xs.length - 1]? = some d ∧ Q xs.dropLast d
  | _ => False
theorem mu_pop : MuS K rPop oPop := fun P H G p vs us xs ds w h r ra Q q R k => by
  match ds, q, ra with
  | [], q, ra =>
    obtain ⟨d, h1, q⟩ := q
    cases ra
    obtain ⟨v, h2, r2⟩ := r.get h1
    exact ⟨p, vs, v, rfl, rfl, h, by rw [r.len]; exact h2, k _ _ _ _ q r.dropLast r2⟩
def oPopAt : OM := fun xs ds Q => match ds with
  | [.int i] => xs.length ≤ 16777216 ∧ ∃ j d, ixN xs.length i = some j ∧ xs[j]? = some d ∧ Q (xs.eraseIdx j) d
  | _ => False
theorem mu_popAt : MuS K rPopAt oPopAt := fun P H G p vs us xs ds w h r ra Q q R k => by
  match ds, q, ra with
  | [.int i], q, ra =>
    obtain ⟨hz, j, d, h1, h2, q⟩ := q
    cases ra with
    | cons ri rn =>
      cases rn
      rw [ri.int_inv]
      obtain ⟨a1, a2, a3, a4⟩ := ixN_seq h1
      obtain ⟨v, h3, r3⟩ := r.get h2
      exact ⟨p, vs, i, j, v, rfl, rfl, h, by omega, by omega, by rw [r.len]; exact a1, h3, k _ _ _ _ q (r.eraseIdx j) r3⟩
def rIns : V → List V → Hp → VK → Prop := fun x vs H Q => ∃ (l : Addr) (xs : List V) (i : Int) (y : V), x = .ref l ∧ vs = [.int i, y] ∧ H l = some (.lst xs) ∧ xs.length < sizeLine ∧ 0 ≤ i ∧ i < 2 ^ 63 ∧ Q .non (upd H l (.lst (xs.take i.toNat ++ [y] ++ xs.drop i.toNat)))
def oIns : OM := fun xs ds Q => match ds with
  | [.int i, d] => xs.length < 16777216 ∧ 0 ≤ i ∧ i < 9223372036854775808 ∧ Q (xs.take i.toNat ++ [d] ++ xs.drop i.toNat) .non
  | _ => False
theorem mu_ins : MuS K rIns oIns := fun P H G p vs us xs ds w h r ra Q q R k => by
  match ds, q, ra with
  | [.int i, d], q, ra =>
    obtain ⟨hz, h0, h1, q⟩ := q
    cases ra with
    | cons ri rn =>
      cases rn with
      | cons rd rn =>
        cases rn
        rw [ri.int_inv]
        exact ⟨p, vs, i, _, rfl, rfl, h, by rw [r.len]; exact szlt hz, h0, by omega, k _ _ _ _ q (((r.take _).append (.cons rd .nil)).append (r.drop _)) .non⟩
/-- remove of an int from a list of ints -/
def oRem : OM := fun xs ds Q => match ds with
  | [.int i] => ∃ ns, xs = List.map D.int ns ∧ i ∈ ns ∧ Q ((ns.erase i).map D.int) .non
  | _ => False
theorem erase_at {i : Int} : ∀ {ns : List Int}, i ∈ ns → ∃ j, ns[j]? = some i ∧ (∀ m, m < j → ns[m]? ≠ some i) ∧ ns.eraseIdx j = ns.erase i
  | [], h => by simp at h
  | n :: ns, h => by
    by_cases e : n = i
    · subst e
      exact ⟨0, rfl, fun m hm => absurd hm (by omega), by simp⟩
    · have h' : i ∈ ns := by
        rcases List.mem_cons.mp h with z | z
        · exact absurd z.symm e
        · exact z
      obtain ⟨j, h1, h2, h3⟩ := erase_at h'
      refine ⟨j + 1, by simpa using h1, fun m hm => ?_, ?_⟩
      · cases m with
        | zero => simpa using e
        | succ m => simpa using h2 m (by omega)
      · rw [List.eraseIdx_cons_succ, h3, List.erase_cons_tail (by simpa using e)]
theorem mu_rem : MuW K rRemI oRem := fun P H G p vs us xs ds w h r ra Q q R k => by
  match ds, q, ra with
  | [.int i], q, ra =>
    obtain ⟨ns, rfl, hi, q⟩ := q
    obtain ⟨v, rfl, r1⟩ := rwl1 ra
    rw [r1.int_inv]
    rw [ints_v r] at h
    obtain ⟨j, h1, h2, h3⟩ := erase_at hi
    refine ⟨p, ns, i, j, rfl, rfl, h, h1, h2, ?_⟩
    rw [h3]
    exact k _ _ _ _ q (ints_rep _) .non
/-! index: read only -/
def xIndex (p q : PX) : PX := fun env Q => p env fun d => match d with
  | .lst xs => q env fun e => xs.all (pl 15) = true ∧ pl 16 e = true ∧ ∃ j, j < xs.length ∧ (∀ z, xs[j]? = some z → eqD z e = true) ∧ (∀ m z, m < j → xs[m]? = some z → eqD z e = false) ∧ Q (.int (j : Nat))
  | _ => False
theorem pyL_get : ∀ (xs : List D) (j : Nat), (pyL xs)[j]? = (xs[j]?).map py
  | [], _ => by simp [pyL]
  | x :: xs, 0 => by simp [pyL]
  | x :: xs, j + 1 => by simpa [pyL] using pyL_get xs j
theorem j_index {o e : Expr} {to te : TE} {po pe : PX} {apos cpos : Pos} (hu : X.A.units + 65 < cLine) (ho : JW K X o to po) (he : JW K X e te pe)
    (hfew : ((backTo cpos (starEach [e] X.env)).all (fun x => !x.1) && (backToKw cpos (keywordEach [] X.env)).all (fun x => x.1.isSome) && decide ([e].length + ([] : List Keyword).length + (if ([] : List Keyword).isEmpty then 0 else 1) < 30)) = true := by rfl)
    (hline : (apos.endLine == cpos.line) = true := by rfl) (h5 : starEach [e] X.env = (false, eval e X.env) :: starEach [] X.env := by rfl) (h6 : (backTo cpos (starEach [] X.env)).any (·.1) = false := by rfl) (hbase : attributeBase o "index" X.env (eval o X.env) = eval o X.env := by rfl) (kk : X.K = K := by rfl) :
    JS K X (.Call (.Attribute o "index" apos) [e] [] cpos) (tBM K "list" (rIndexD K) to (tCons te tNil)) (xIndex po pe) := by
  subst kk
  refine ⟨pe_bm PySem.F.plainAttrs_list PySem.F.slot_list_index PySem.F.type_list_index (mt_indexD hu) ho.1 (pa_cons he.1 pa_nil h5) hbase hfew hline h5 h6, fun P G0 H0 env σ H G S Q q R k => ?_⟩
  refine ho.2 P G0 H0 env σ H G S _ q _ fun d v H1 G1 q1 u w r => ?_
  cases d with
  | lst xs =>
    obtain ⟨a, vs, rfl, h1, r1⟩ := r.lst_inv w
    refine ⟨tyl h1, he.2 P G0 H0 env σ H1 G1 (S.step u w) _ q1 _ fun e' v' H2 G2 q2 u2 w2 r2 => ?_⟩
    obtain ⟨z1, z2, j, hj, hj2, hno, q3⟩ := q2
    have z3 : pl 16 (.lst xs) = true := by simpa [pl] using z1
    refine ⟨a, v', py e', pyL xs, j, py xs[j], rfl, rfl, dp_ofW w2 z3 (r.up u2), dp_ofW w2 z2 r2, pl_sh z3, pl_sh z2, ?_, hj2 _ (List.getElem?_eq_getElem hj), fun m z' hm e1 => ?_, k _ _ H2 G2 q3 (u.trans u2) w2 (.int _)⟩
    · rw [pyL_get, List.getElem?_eq_getElem hj]
      rfl
    · rw [pyL_get] at e1
      cases e2 : xs[m]? with
      | none => rw [e2] at e1; cases e1
      | some z =>
        rw [e2] at e1
        cases e1
        exact hno m z hm e2
  | _ => exact False.elim q1
/-! xs[i] = e -/
def xSetIx (i : Nat) (pk pe : PX) : PSt := fun F env => pe env fun v => ownL env i fun xs => pk env fun kd => match kd with
  | .int n => ∃ j, ixN xs.length n = some j ∧ F.nx (env.set i (some (.mu (.lst (xs.set j v)))))
  | _ => False
theorem jc_setIx (i : Nat) {o b e : Expr} {tb te : TE} {pk p : PX} {pos pos' : Pos} (ho : PE X o (tVar i)) (hb : JW K X b tb pk) (he : JS K X e te p) (hg : PG X (.Subscript o b pos') (gSub (tVar i) tb rSetL)) (hs : swapsWithSole [.Subscript o b pos'] e pos.line X.env = pure false := by rfl)
    (hw : swappedStores [.Subscript o b pos'] e X.env = pure none := by rfl) (h1 : (assignEach [.Subscript o b pos'] X.env).map (·.2) = [assign (.Subscript o b pos') X.env] := by rfl) : JC K X (.Assign [.Subscript o b pos'] e pos) (xSetIx i pk p) :=
  ⟨_, ps_asg he.1 hg hs hw h1, fun P G0 H0 env σ H G S F E L q => he.2 P G0 H0 env σ H G S _ q _ fun d v H1 G1 q1 u w r => by
    have S1 := S.step u w
    obtain ⟨p, xs, vs, _, e2, _, _, _, _, q1⟩ := own_at S1 q1
    refine ⟨_, e2, hb.2 P G0 H0 env σ H1 G1 S1 _ q1 _ fun kd kv H2 G2 q2 u2 w2 r2 => ?_⟩
    have S2 := S1.step u2 w2
    cases kd with
    | int n =>
      obtain ⟨j, hj, q3⟩ := q2
      have own : ownL env i fun ys => ys = xs := by
        unfold ownL
        rename_i e1 _ _ _ _
        rw [e1]
      obtain ⟨p', xs', vs', f1, f2, f3, f4, f5, f6, rfl⟩ := own_at S2 own
      rw [e2] at f2
      cases f2
      rw [r2.int_inv]
      exact ⟨p, vs', n, j, rfl, rfl, f5, by rw [f6.len]; exact hj, L.nx _ _ _ G2 (fun a o z => u2.g a o (u.g a o z)) (S2.mut f1 e2 f3 f4 (.lst (f6.set (r.mono u2.g) j))) q3⟩
    | _ => exact False.elim q2⟩
end
end Pv
namespace Pv
open PySem PySem.Spec L2

/-! ### order of data -/
def ltD (a b : D) : Bool := PySem.W.dataLt (py a) (py b)
def leD (a b : D) : Bool := !ltD b a
def alk (a b : D) : Bool := PySem.W.alike (py a) (py b)
section
variable {K : PySem.W.Frag} {X : Cx}
theorem hu65 {k : Nat} {A : Around} (hr : Room k A) : A.units + 65 < cLine := by have := hr.un; omega
def rCmpD (K : PySem.W.Frag) (f : PyData → PyData → Bool) : R2 := fun x y H Q => ∃ d e, Dp K H x d ∧ Dp K H y e ∧ SeqAt.shaped d = true ∧ SeqAt.shaped e = true ∧ PySem.W.alike d e = true ∧ d ≠ .none ∧ Q (.bl (f d e)) H
theorem op_ltA {k : Nat} (hr : Room k X.A) : OpR X (compareOp .Lt) (rCmpD X.K PySem.W.dataLt) := fun pins s σ H x y v u Q I rx ry ⟨d, e, h1, h2, s1, s2, al, nn, q⟩ => by
  obtain ⟨as, r1⟩ := Dp.reads I d x v h1 rx
  obtain ⟨bs, r2⟩ := Dp.reads I e y u h2 ry
  exact PySem.W.lt_data r1 r2 al nn (SeqAt.room_of_shaped s1 hr.units) ⟨.bl _, H, I, rfl, q⟩
theorem op_gtA {k : Nat} (hr : Room k X.A) : OpR X (compareOp .Gt) (rCmpD X.K fun d e => PySem.W.dataLt e d) := fun pins s σ H x y v u Q I rx ry ⟨d, e, h1, h2, s1, s2, al, nn, q⟩ => by
  obtain ⟨as, r1⟩ := Dp.reads I d x v h1 rx
  obtain ⟨bs, r2⟩ := Dp.reads I e y u h2 ry
  exact PySem.W.gt_data r1 r2 al nn (SeqAt.room_of_shaped s1 hr.units) ⟨.bl _, H, I, rfl, q⟩
theorem op_leA {k : Nat} (hr : Room k X.A) : OpR X (compareOp .LtE) (rCmpD X.K fun d e => !PySem.W.dataLt e d) := fun pins s σ H x y v u Q I rx ry ⟨d, e, h1, h2, s1, s2, al, nn, q⟩ => by
  obtain ⟨as, r1⟩ := Dp.reads I d x v h1 rx
  obtain ⟨bs, r2⟩ := Dp.reads I e y u h2 ry
  exact PySem.W.le_data r1 r2 al nn (SeqAt.room_of_shaped s1 hr.units) ⟨.bl _, H, I, rfl, q⟩
theorem op_geA {k : Nat} (hr : Room k X.A) : OpR X (compareOp .GtE) (rCmpD X.K fun d e => !PySem.W.dataLt d e) := fun pins s σ H x y v u Q I rx ry ⟨d, e, h1, h2, s1, s2, al, nn, q⟩ => by
  obtain ⟨as, r1⟩ := Dp.reads I d x v h1 rx
  obtain ⟨bs, r2⟩ := Dp.reads I e y u h2 ry
  exact PySem.W.ge_data r1 r2 al nn (SeqAt.room_of_shaped s1 hr.units) ⟨.bl _, H, I, rfl, q⟩
/-- ints by their own order, other data as Python orders them -/
def oCmp (f : Int → Int → Bool) (g : D → D → Bool) : O2 := fun a b Q => match a, b with
  | .int i, .int j => Q (.bl (f i j))
  | a, b => pl 16 a = true ∧ pl 16 b = true ∧ alk a b = true ∧ a ≠ .non ∧ Q (.bl (g a b))
def oLt : O2 := oCmp (fun i j => decide (i < j)) ltD
def oGt : O2 := oCmp (fun i j => decide (j < i)) fun a b => ltD b a
def oLe : O2 := oCmp (fun i j => decide (i ≤ j)) fun a b => !ltD b a
def oGe : O2 := oCmp (fun i j => decide (j ≤ i)) fun a b => !ltD a b
theorem py_non {d : D} (h : pl 16 d = true) (n : d ≠ .non) : py d ≠ .none := fun e => by
  cases d <;> first | exact n rfl | (simp [py] at e; done) | (simp [pl] at h; done)
theorem s_cmp {f : Int → Int → Bool} {g : D → D → Bool} {h : PyData → PyData → Bool} (h1 : ∀ i j, h (.int i) (.int j) = f i j) (h2 : ∀ a b, h (py a) (py b) = g a b) : OpS K (rCmpD K h) (oCmp f g) := fun P H G x y a b w rx ry Q q R k => by
  have go : pl 16 a = true ∧ pl 16 b = true ∧ alk a b = true ∧ a ≠ .non ∧ Q (.bl (g a b)) → rCmpD K h x y H R := fun q =>
    ⟨_, _, dp_ofW w q.1 rx, dp_ofW w q.2.1 ry, pl_sh q.1, pl_sh q.2.1, q.2.2.1, py_non q.1 q.2.2.2.1, by rw [h2]; exact k _ _ H G q.2.2.2.2 .refl w (.bl _)⟩
  cases a with
  | int i =>
    cases b with
    | int j => exact ⟨.int i, .int j, by rw [rx.int_inv]; exact .int i, by rw [ry.int_inv]; exact .int j, by simp [SeqAt.shaped, PyData.canLay0, PyData.depth], by simp [SeqAt.shaped, PyData.canLay0, PyData.depth], by simp [PySem.W.alike], by simp, by rw [h1]; exact k _ _ H G q .refl w (.bl _)⟩
    | _ => exact go q
  | _ => exact go q
theorem s_lt : OpS K (rCmpD K PySem.W.dataLt) oLt := s_cmp (fun i j => PySem.W.dataLt_int i j) fun _ _ => rfl
theorem s_gt : OpS K (rCmpD K fun d e => PySem.W.dataLt e d) oGt := s_cmp (fun i j => PySem.W.dataLt_int j i) fun _ _ => rfl
theorem s_le : OpS K (rCmpD K fun d e => !PySem.W.dataLt e d) oLe := s_cmp (fun i j => by rw [PySem.W.dataLt_int]; exact PySem.W.cmp_not_lt i j) fun _ _ => rfl
theorem s_ge : OpS K (rCmpD K fun d e => !PySem.W.dataLt d e) oGe := s_cmp (fun i j => by rw [PySem.W.dataLt_int]; exact PySem.W.cmp_not_lt j i) fun _ _ => rfl

/-! ### sorted(list) -/
def rSortD (K : PySem.W.Frag) : List V → Hp → VK → Prop := fun vs H Q => ∃ (a : Addr) (ps : List (V × PyData)), vs = [.ref a] ∧ SqL K H a (ps.map (·.1)) ∧ (∀ p ∈ ps, Dp K H p.1 p.2) ∧ PySem.W.AllAlike (ps.map (·.2)) ∧ PySem.W.Sortable (ps.map (·.2)) ∧ (∀ p ∈ ps, p.2.depth ≤ 64) ∧
  ∀ l, H l = none → Q (.ref l) (upd H l (.lst ((ps.mergeSort (PySem.W.dataLe false (·.2))).map (·.1))))
theorem eachIs_of {ps : List (V × PyData)} : ∀ {us : List Value}, Vals (ps.map (·.1)) us → PySem.W.EachIs (fun v (b : V × PyData) => RelV b.1 v) us ps := by
  induction ps with
  | nil => intro us r; cases r; exact .nil
  | cons p ps ih =>
    intro us r
    cases r with
    | cons h t => exact .cons h (ih t)
theorem of_eachIs {ps : List (V × PyData)} : ∀ {us : List Value}, PySem.W.EachIs (fun v (b : V × PyData) => RelV b.1 v) us ps → Vals (ps.map (·.1)) us := by
  induction ps with
  | nil => intro us r; cases r; exact .nil
  | cons p ps ih =>
    intro us r
    cases r with
    | cons h t => exact .cons h (ih t)
theorem c_sortD {k : Nat} (hr : Room k X.A) : CallR X (.builtin "sorted") (rSortD X.K) := fun pins s σ H vs us Q I r ⟨a, ps, e, hs, hd, hal, hso, hdp, q⟩ => by
  subst e
  obtain ⟨its, rv, hl, hz⟩ := I.list hs
  rw [Vals.ref1 r]
  have e1 := eachIs_of rv
  have e2 : PySem.W.EachIs (fun v (b : V × PyData) => ∃ as, Reads s.heap v b.2 as) its ps := by
    have go : ∀ {ps : List (V × PyData)} {us : List Value}, (∀ p ∈ ps, Dp X.K H p.1 p.2) → PySem.W.EachIs (fun v (b : V × PyData) => RelV b.1 v) us ps → PySem.W.EachIs (fun v (b : V × PyData) => ∃ as, Reads s.heap v b.2 as) us ps := by
      intro ps
      induction ps with
      | nil => intro us _ z; cases z; exact .nil
      | cons p ps ih =>
        intro us hd z
        cases z with
        | cons h t => exact .cons (Dp.reads I p.2 p.1 _ (hd p List.mem_cons_self) h) (ih (fun p hp => hd p (List.mem_cons_of_mem _ hp)) t)
    exact go hd e1
  have hps : ps.length ≤ sizeLine := by rw [List.length_map] at hz; exact hz
  refine PySem.W.sorted_data (R := fun v (b : V × PyData) => RelV b.1 v) (enc := fun b : V × PyData => b.2) hl.isList e1 e2 hal hso hps (fun b hb => ?_) fun out h1 h2 => ?_
  · have := hr.un
    have := hdp b hb
    omega
  · obtain ⟨ep, he'⟩ := PyProof.Rows.sortedAll_at s.heap its out.toArray
    have h3 := of_eachIs h2
    have hlen : ((ps.mergeSort (PySem.W.dataLe false (·.2))).map (·.1)).length ≤ sizeLine := by rw [List.length_map, List.length_mergeSort]; exact hps
    exact ⟨.ref _, upd H (s.heap.objs.size + 1) (.lst ((ps.mergeSort (PySem.W.dataLe false (·.2))).map (·.1))), I.laid (t' := s.toks) (fun _ _ => PyProof.Rows.sortedAll_old) (Nat.le_succ _) ⟨hlen, out, ep, h3, he'⟩, rfl, q _ (I.hok.fresh (Nat.le_succ _))⟩
/-- no None in it; all tuples, none empty, or none a tuple -/
def srt (xs : List D) : Prop := (∀ d ∈ xs, ∃ x r, d = .tup (x :: r)) ∨ ∀ d ∈ xs, d ≠ .non ∧ ∀ ys, d ≠ .tup ys
def oSorted0 : OC := fun ds Q => match ds with
  | [.lst xs] => xs.all (pl 15) = true ∧ (∀ a ∈ xs, ∀ b ∈ xs, alk a b = true) ∧ srt xs ∧ Q (.lst (xs.mergeSort leD))
  | _ => False
theorem RepL.pair {P : Option Addr} {G : Hp} : ∀ {vs : List V} {ds : List D}, RepL K P G vs ds → ∀ p ∈ vs.zip ds, Rep K P G p.1 p.2
  | _, _, .nil, p, h => by simp at h
  | _, _, .cons h t, p, hp => by
    rw [List.zip_cons_cons] at hp
    rcases List.mem_cons.mp hp with e | hp
    · rw [e]
      exact h
    · exact t.pair p hp
theorem RepL.of_pair {P : Option Addr} {G : Hp} : ∀ (ps : List (V × D)), (∀ p ∈ ps, Rep K P G p.1 p.2) → RepL K P G (ps.map (·.1)) (ps.map (·.2))
  | [], _ => .nil
  | p :: ps, h => .cons (h p List.mem_cons_self) (RepL.of_pair ps fun q hq => h q (List.mem_cons_of_mem _ hq))
@[irreducible] def oSorted : OC := oSorted0
theorem s_sorted0 : CaF K (rSortD K) oSorted0 := fun P H G vs ds w rv Q q R k => by
  match ds, q with
  | [.lst xs], q =>
    obtain ⟨hp, hal, hs, q⟩ := q
    obtain ⟨v, rfl, r⟩ := rwl1 rv
    obtain ⟨a, ys, rfl, h, rr⟩ := r.lst_inv w
    have hl := rr.len
    have m1 : (ys.zip xs).map (·.1) = ys := List.map_fst_zip (by omega)
    have m2 : (ys.zip xs).map (·.2) = xs := List.map_snd_zip (by omega)
    have mem : ∀ p ∈ ys.zip xs, p.2 ∈ xs := fun p hp => by
      rw [← m2]
      exact List.mem_map_of_mem hp
    have hpl : ∀ p ∈ ys.zip xs, pl 15 p.2 = true := fun p hp' => (List.all_eq_true.mp hp) _ (mem p hp')
    refine ⟨a, (ys.zip xs).map fun p => (p.1, py p.2), rfl, ?_, fun p hp' => ?_, ?_, ?_, fun p hp' => ?_, fun l hl' => ?_⟩
    · rw [List.map_map]
      show SqL K H a ((ys.zip xs).map (·.1))
      rw [m1]
      exact SqL.of h
    · obtain ⟨p0, h0, rfl⟩ := List.mem_map.mp hp'
      exact dp_of w 15 p0.2 p0.1 (hpl p0 h0) (rr.pair p0 h0)
    · rw [List.map_map]
      intro d hd d' hd'
      obtain ⟨p, hp1, rfl⟩ := List.mem_map.mp hd
      obtain ⟨p', hp2, rfl⟩ := List.mem_map.mp hd'
      exact hal _ (mem p hp1) _ (mem p' hp2)
    · rw [List.map_map]
      rcases hs with hs | hs
      · refine .inl fun d hd => ?_
        obtain ⟨p, hp1, rfl⟩ := List.mem_map.mp hd
        obtain ⟨x, r, e⟩ := hs _ (mem p hp1)
        exact ⟨py x, pyL r, by show py p.2 = _; rw [e]; rfl⟩
      · refine .inr fun d hd => ?_
        obtain ⟨p, hp1, rfl⟩ := List.mem_map.mp hd
        obtain ⟨e1, e2⟩ := hs _ (mem p hp1)
        have hpp := hpl p hp1
        show py p.2 ≠ _ ∧ ∀ zs, py p.2 ≠ _
        generalize p.2 = z at e1 e2 hpp
        cases z <;> first | exact absurd rfl e1 | exact absurd rfl (e2 _) | (simp [pl] at hpp; done) | exact ⟨by simp [py], by simp [py]⟩
    · obtain ⟨p0, h0, rfl⟩ := List.mem_map.mp hp'
      have := (pl_shaped 15 p0.2 (hpl p0 h0)).2
      show (py p0.2).depth ≤ 64
      omega
    · have e1 : ((ys.zip xs).map fun p => (p.1, py p.2)).mergeSort (PySem.W.dataLe false (·.2)) = ((ys.zip xs).mergeSort fun p q => leD p.2 q.2).map fun p => (p.1, py p.2) := (List.map_mergeSort (f := fun p : V × D => (p.1, py p.2)) (r := fun p q => leD p.2 q.2) (s := PySem.W.dataLe false (·.2)) fun p _ q _ => rfl).symm
      have e2 : xs.mergeSort leD = ((ys.zip xs).mergeSort fun p q => leD p.2 q.2).map (·.2) := by
        rw [List.map_mergeSort (s := leD) fun p _ q _ => rfl, m2]
      rw [e2] at q
      refine k _ l _ q hl' ?_
      rw [e1, List.map_map]
      exact .lst (RepL.of_pair _ fun p hp' => rr.pair p (List.mem_mergeSort.mp hp'))
theorem s_sorted : CaF K (rSortD K) oSorted := by
  unfold oSorted
  exact s_sorted0
theorem oSorted_mk {xs : List D} {Q : D → Prop} (h1 : xs.all (pl 15) = true) (h2 : ∀ a ∈ xs, ∀ b ∈ xs, alk a b = true) (h3 : srt xs) (q : Q (.lst (xs.mergeSort leD))) : oSorted [.lst xs] Q := by
  unfold oSorted
  exact ⟨h1, h2, h3, q⟩
/-! ### * of all, in of all -/
theorem s_mulAll : OpS K rMulA oMul := fun P H G x y a b w rx ry Q q R k => by
  cases a with
  | int i =>
    cases b with
    | int j => exact .inl (s_mulI P H G x y _ _ w rx ry Q q R k)
    | _ => exact False.elim q
  | lst xs =>
    cases b with
    | int j =>
      obtain ⟨q1, q2, q3, q⟩ := q
      obtain ⟨l, vs, rfl, h1, r1⟩ := rx.lst_inv w
      refine .inr ⟨l, j, vs, rfl, ry.int_inv, h1, by omega, by omega, by rw [r1.len]; exact szle q3, fun p hp => ?_⟩
      obtain ⟨u', w'⟩ := take_new (o := .lst (List.replicate j.toNat vs).flatten) w hp
      exact k _ _ _ _ q u' w' (.obj upd_same (.lst ((flat_repl r1 _).mono u'.g)))
    | _ => exact False.elim q
  | _ => exact False.elim q
end
/-! ### list(range(..)), tuple(range(..)), xs[::-1] -/
section
variable {K : PySem.W.Frag} {X : Cx} {a b : Expr} {ta tb : TE} {pa pb : PX} {p pos p' pos' : Pos} {e : Expr}
theorem rgV_rep {P : Option Addr} {G : Hp} (lo n : Int) : RepL K P G (rgV lo n) (xRange lo n) := by
  unfold rgV xRange
  generalize List.range (n - lo).toNat = l
  induction l with
  | nil => exact .nil
  | cons x l ih => exact .cons (.int _) ih
def rgOk (lo n : Int) : Prop := -4611686018427387904 ≤ lo ∧ lo < 4611686018427387904 ∧ -4611686018427387904 ≤ n ∧ n < 4611686018427387904 ∧ n - lo ≤ 16777216
def xRgL1 (f : List D → D) (p : PX) : PX := fun env Q => p env fun d => match d with
  | .int n => rgOk 0 n ∧ Q (f (xRange 0 n))
  | _ => False
def xRgL2 (f : List D → D) (p q : PX) : PX := fun env Q => p env fun d => q env fun e => match d, e with
  | .int lo, .int n => rgOk lo n ∧ Q (f (xRange lo n))
  | _, _ => False
theorem rgOk.ok {lo n : Int} (h : rgOk lo n) : RgOk lo n := by
  unfold rgOk at h
  unfold RgOk
  refine ⟨by omega, by omega, by omega, by omega, by omega⟩
theorem j_lr1 {hc : X.calm = true} (hg : Gl X "list") (hm : X.mg "list" = none) (hg2 : Gl X "range") (hm2 : X.mg "range" = none) (ha : JW K X a ta pa) (na : starEach [.Call (.Name "range" p) [a] [] pos] X.env = (false, eval (.Call (.Name "range" p) [a] [] pos) X.env) :: starEach [] X.env := by rfl)
    (nb : starEach [a] X.env = (false, eval a X.env) :: starEach [] X.env := by rfl) : JF K X (.Call (.Name "list" p') [.Call (.Name "range" p) [a] [] pos] [] pos') (tLstRg (tRg1 ta)) (xRgL1 .lst pa) :=
  ⟨pe_listRg hc hg hm (prg_1 hg2 hm2 ha.1 nb) na, fun P G0 H0 env σ H G S Q q R k => ha.2 P G0 H0 env σ H G S _ q _ fun d v H1 G1 q1 u w r => by
    cases d with
    | int n => exact ⟨n, r.int_inv, q1.1.ok, fun l hl => k _ l _ _ G1 q1.2 (u.trans (Up.new hl)) (w.new hl) (u.back hl) upd_same (w.no hl) (.lst (rgV_rep _ _))⟩
    | _ => exact False.elim q1⟩
theorem j_lr2 {hc : X.calm = true} (hg : Gl X "list") (hm : X.mg "list" = none) (hg2 : Gl X "range") (hm2 : X.mg "range" = none) (ha : JW K X a ta pa) (hb : JW K X b tb pb) (na : starEach [.Call (.Name "range" p) [a, b] [] pos] X.env = (false, eval (.Call (.Name "range" p) [a, b] [] pos) X.env) :: starEach [] X.env := by rfl)
    (nb : starEach [a, b] X.env = (false, eval a X.env) :: starEach [b] X.env := by rfl) (nc : starEach [b] X.env = (false, eval b X.env) :: starEach [] X.env := by rfl) (nd : (backTo pos (starEach [b] X.env)).any (·.1) = false := by rfl) : JF K X (.Call (.Name "list" p') [.Call (.Name "range" p) [a, b] [] pos] [] pos') (tLstRg (tRg2 ta tb)) (xRgL2 .lst pa pb) :=
  ⟨pe_listRg hc hg hm (prg_2 hg2 hm2 ha.1 hb.1 nb nc nd) na, fun P G0 H0 env σ H G S Q q R k => ha.2 P G0 H0 env σ H G S _ q _ fun d v H1 G1 q1 u w r => hb.2 P G0 H0 env σ H1 G1 (S.step u w) _ q1 _ fun e y H2 G2 q2 u2 w2 r2 => by
    cases d with
    | int lo =>
      cases e with
      | int n => exact ⟨lo, n, r.int_inv, r2.int_inv, q2.1.ok, fun l hl => k _ l _ _ G2 q2.2 ((u.trans u2).trans (Up.new hl)) (w2.new hl) ((u.trans u2).back hl) upd_same (w2.no hl) (.lst (rgV_rep _ _))⟩
      | _ => exact False.elim q2
    | _ => cases e <;> exact False.elim q2⟩
def xRev (p : PX) : PX := fun env Q => p env fun d => match d with
  | .lst xs => Q (.lst xs.reverse)
  | _ => False
theorem j_rev {k : Nat} {p1 p2 p3 : Pos} (he : JW K X e ta pa) (kk : X.K = K := by rfl) : JF K X (.Subscript e (.Slice none none (some (.UnaryOp .USub (.Constant (.int 1) k p1) p2)) p3) pos) (tRevL K ta) (xRev pa) := by
  subst kk
  refine ⟨pe_revL he.1, fun P G0 H0 env σ H G S Q q R k => he.2 P G0 H0 env σ H G S _ q _ fun d v H1 G1 q1 u w r => ?_⟩
  cases d with
  | lst xs =>
    obtain ⟨a, ys, rfl, h, rr⟩ := r.lst_inv w
    exact ⟨a, ys, rfl, SqL.of h, fun l hl => k _ l _ _ G1 q1 (u.trans (Up.new hl)) (w.new hl) (u.back hl) upd_same (w.no hl) (.lst rr.reverse)⟩
  | _ => exact False.elim q1
end
end Pv
namespace Pv
open PySem PySem.Spec L2

theorem vb_len : bootBuiltins "len" = some (.builtin "len") := by decide +kernel
theorem vb_abs : bootBuiltins "abs" = some (.builtin "abs") := by decide +kernel
theorem vb_max : bootBuiltins "max" = some (.builtin "max") := by decide +kernel
theorem vb_min : bootBuiltins "min" = some (.builtin "min") := by decide +kernel
theorem vb_sum : bootBuiltins "sum" = some (.builtin "sum") := by decide +kernel
theorem vb_all : bootBuiltins "all" = some (.builtin "all") := by decide +kernel
theorem vb_any : bootBuiltins "any" = some (.builtin "any") := by decide +kernel
theorem vb_sorted : bootBuiltins "sorted" = some (.builtin "sorted") := by decide +kernel
theorem vb_isinstance : bootBuiltins "isinstance" = some (.builtin "isinstance") := by decide +kernel
theorem vb_int : bootBuiltins "int" = some (.type "int") := by decide +kernel
theorem vb_bool : bootBuiltins "bool" = some (.type "bool") := by decide +kernel
theorem vb_str : bootBuiltins "str" = some (.type "str") := by decide +kernel
theorem vb_list : bootBuiltins "list" = some (.type "list") := by decide +kernel
theorem vb_tuple : bootBuiltins "tuple" = some (.type "tuple") := by decide +kernel
theorem vb_dict : bootBuiltins "dict" = some (.type "dict") := by decide +kernel
theorem vb_set : bootBuiltins "set" = some (.type "set") := by decide +kernel
theorem vb_range : bootBuiltins "range" = some (.type "range") := by decide +kernel
theorem vb_zip : bootBuiltins "zip" = some (.type "zip") := by decide +kernel
theorem vb_enumerate : bootBuiltins "enumerate" = some (.type "enumerate") := by decide +kernel
theorem vb_reversed : bootBuiltins "reversed" = some (.type "reversed") := by decide +kernel
abbrev oMax2 : OC := oI2 fun i j => if j > i then j else i
abbrev oMin2 : OC := oI2 fun i j => if j < i then j else i
abbrev oGcd : OC := oI2 fun a b => ((Nat.gcd a.natAbs b.natAbs : Nat) : Int)
/-- a constant of the module -/
structure Gc (K : PySem.W.Frag) (mg : Str → Option Value) (x : Str) (a : Addr) (d : D) : Prop where
  at_ : mg x = some (.ref a)
  rep : ∀ P G, Rep K P G (.ref a) d
section
variable {K : PySem.W.Frag} {X : Cx}
theorem j_glob {x : Str} {a : Addr} {d : D} {pos : Pos} (h : Gc K X.mg x a d) (hg : Gl X x) (hd : (x == ("__debug__" : Str)) = false := by decide) : JS K X (.Name x pos) (tC (.ref a)) (xC d) := j_con (pe_glob hg h.at_ rfl hd) h.rep
end
/-! ### two fors -/
section
variable {K : PySem.W.Frag} {P : Option Addr} {is is1 : List Nat} {t t1 : PTg} {wi wi1 : TI} {src src1 : PAa} {g g1 : TG} {tt tt1 : TT} {c c1 : PTt} {te : TE} {elt : PX}
/-- the inner loop: what is put behind acc -/
def xLcI (t : PTg) (c : PTt) (elt : PX) (env : En) (Q : List D → Prop) : List D → List D → Prop
  | [], acc => Q acc
  | d :: ds, acc => t d env fun env' => c env' fun b => Br b (elt env' fun y => xLcI t c elt env Q ds (acc ++ [y])) (xLcI t c elt env Q ds acc)
def xLcO (t : PTg) (c : PTt) (src1 : PAa) (vs1 : List Nat) (t1 : PTg) (c1 : PTt) (elt : PX) (env : En) (Q : D → Prop) : List D → List D → Prop
  | [], acc => Q (.lst acc)
  | d :: ds, acc => t d env fun env' => c env' fun b => Br b (src1 env' fun ds1 => acc.length + ds1.length ≤ 16777216 ∧ xLcI t1 c1 elt (wipeE env' vs1) (fun acc' => xLcO t c src1 vs1 t1 c1 elt env Q ds acc') ds1 acc) (xLcO t c src1 vs1 t1 c1 elt env Q ds acc)
def xLc2 (src : PAa) (vs : List Nat) (t : PTg) (c : PTt) (src1 : PAa) (vs1 : List Nat) (t1 : PTg) (c1 : PTt) (elt : PX) : PX := fun env Q => src env fun ds => xLcO t c src1 vs1 t1 c1 elt (wipeE env vs) Q ds []
theorem ev_lc2 (vs vs1 : List Nat) (hv : ∀ i ∈ is, i ∈ vs) (hv1 : ∀ i ∈ is1, i ∈ vs1) (hi : EvI K P wi src) (hg : EvG K P is g t) (hc : EvT K P tt c) (hi1 : EvI K P wi1 src1) (hg1 : EvG K P is1 g1 t1) (hc1 : EvT K P tt1 c1) (he : EvS K P te elt) : EvF K P (tLc2 wi g tt wi1 g1 tt1 te vs vs1) (xLc2 src vs t c src1 vs1 t1 c1 elt) := fun G0 H0 env σ H G S Q q R k =>
  hi G0 H0 env σ H G S _ q _ fun ds J H1 G1 q1 u1 w1 wk Dl hD => by
    have hn : P ≠ some Dl := w1.npool hD
    have gD : G1 Dl = none := w1.no hD
    have nD : ∀ {ys : List V} {H4 G4 H5 G5 : Hp}, Up P H4 G4 H5 G5 → Wf K P H5 G5 → H4 Dl = some (.lst ys) → G4 Dl = none → H5 Dl = some (.lst ys) ∧ G5 Dl = none := fun {ys H4 G4 H5 G5} u w h g => ⟨u.h _ _ h hn, by
      cases z : G5 Dl with
      | none => rfl
      | some o =>
        rcases u.n _ _ z with ⟨_, z⟩ | z
        · rw [g] at z
          cases z
        · rw [h] at z
          cases z⟩
    refine ⟨fun i m H2 => m = ds.length - i ∧ i ≤ ds.length ∧ ∃ G2 acc ys, Up P H1 G1 H2 G2 ∧ Wf K P H2 G2 ∧ G2 Dl = none ∧ H2 Dl = some (.lst ys) ∧ RepL K P G2 ys acc ∧ xLcO t c src1 vs1 t1 c1 elt (wipeE env vs) Q (ds.drop i) acc,
      ⟨ds.length, by simp, Nat.zero_le _, G1, [], [], Up.new hD, w1.new hD, gD, upd_same, .nil, q1⟩, ?_⟩
    rintro i m H2 ⟨rfl, hi, G2, acc, ys, u2, w2, g2, h2, r2, q2⟩
    have up2 := u1.trans u2
    have S2 : SR K P G0 H0 env σ H2 G2 := S.step up2 w2
    by_cases hlt : i < ds.length
    · rw [List.drop_eq_getElem_cons hlt] at q2
      have hd : ds[i]? = some ds[i] := List.getElem?_eq_getElem hlt
      obtain ⟨go, yl⟩ := (wk H2 G2 u2.g w2 S2.up.h i).2 _ hd
      refine .inr ⟨go, fun H' => i < ds.length ∧ ∃ G2 acc ys, Up P H1 G1 H' G2 ∧ Wf K P H' G2 ∧ G2 Dl = none ∧ H' Dl = some (.lst ys) ∧ RepL K P G2 ys acc ∧ xLcO t c src1 vs1 t1 c1 elt (wipeE env vs) Q (ds.drop (i + 1)) acc,
        fun H' n => ⟨ds.length - (i + 1), by omega, rfl, n⟩, fun x H3 y => ?_⟩
      obtain ⟨G3, u3, w3, r3⟩ := yl x H3 y
      obtain ⟨h3, g3⟩ := nD u3 w3 h2 g2
      refine hg G0 H0 _ _ H3 G3 ((S2.step u3 w3).wipe2 vs) _ x r3 _ q2 _ fun env4 σ4 q4 S4 ch ow => ⟨(ch.wipe hv).trans wipe_wipe, ?_⟩
      refine hc G0 H0 env4 σ4 H3 G3 S4 _ q4 _ fun b H5 G5 q5 u5 w5 => ?_
      obtain ⟨h5, g5⟩ := nD u5 w5 h3 g3
      have r5 := (r2.mono u3.g).mono u5.g
      have up5 := (u2.trans u3).trans u5
      cases b with
      | false =>
        replace q5 := q5.2 rfl
        rw [if_neg Bool.false_ne_true]
        exact ⟨hlt, G5, acc, ys, up5, w5, g5, h5, r5, q5⟩
      | true =>
        replace q5 := q5.1 rfl
        rw [if_pos rfl]
        have S5 := S4.step u5 w5
        refine hi1 G0 H0 env4 σ4 H5 G5 S5 _ q5 _ fun es J1 H6 G6 q6 u6 w6 wk1 => ?_
        obtain ⟨hz, q6⟩ := q6
        obtain ⟨h6, g6⟩ := nD u6 w6 h5 g5
        refine ⟨fun j m H7 => m = es.length - j ∧ j ≤ es.length ∧ ∃ G7 acc7 ys7, Up P H1 G1 H7 G7 ∧ Le G6 G7 ∧ SR K P G0 H0 env4 σ4 H7 G7 ∧ G7 Dl = none ∧ H7 Dl = some (.lst ys7) ∧ RepL K P G7 ys7 acc7 ∧ acc7.length ≤ acc.length + j ∧ xLcI t1 c1 elt (wipeE env4 vs1) (fun acc' => xLcO t c src1 vs1 t1 c1 elt (wipeE env vs) Q (ds.drop (i + 1)) acc') (es.drop j) acc7,
          ⟨es.length, by simp, Nat.zero_le _, G6, acc, ys, up5.trans u6, .refl, S5.step u6 w6, g6, h6, r5.mono u6.g, by omega, q6⟩, ?_⟩
        rintro j m H7 ⟨rfl, hj, G7, acc7, ys7, u7, l7, S7, g7, h7, r7, z7, q7⟩
        by_cases hlt1 : j < es.length
        · rw [List.drop_eq_getElem_cons hlt1] at q7
          have hd1 : es[j]? = some es[j] := List.getElem?_eq_getElem hlt1
          obtain ⟨go1, yl1⟩ := (wk1 H7 G7 l7 S7.wf S7.up.h j).2 _ hd1
          refine .inr ⟨go1, fun H' => j < es.length ∧ ∃ G7 acc7 ys7, Up P H1 G1 H' G7 ∧ Le G6 G7 ∧ SR K P G0 H0 env4 σ4 H' G7 ∧ G7 Dl = none ∧ H' Dl = some (.lst ys7) ∧ RepL K P G7 ys7 acc7 ∧ acc7.length ≤ acc.length + (j + 1) ∧ xLcI t1 c1 elt (wipeE env4 vs1) (fun acc' => xLcO t c src1 vs1 t1 c1 elt (wipeE env vs) Q (ds.drop (i + 1)) acc') (es.drop (j + 1)) acc7,
            fun H' n => ⟨es.length - (j + 1), by omega, rfl, n⟩, fun x1 H8 y1 => ?_⟩
          obtain ⟨G8, u8, w8, r8⟩ := yl1 x1 H8 y1
          obtain ⟨h8, g8⟩ := nD u8 w8 h7 g7
          refine hg1 G0 H0 _ _ H8 G8 ((S7.step u8 w8).wipe2 vs1) _ x1 r8 _ q7 _ fun env9 σ9 q9 S9 ch1 _ => ⟨(ch1.wipe hv1).trans wipe_wipe, ?_⟩
          refine hc1 G0 H0 env9 σ9 H8 G8 S9 _ q9 _ fun b1 H10 G10 q10 u10 w10 => ?_
          obtain ⟨h10, g10⟩ := nD u10 w10 h8 g8
          have l10 : Le G6 G10 := fun a o z => u10.g a o (u8.g a o (l7 a o z))
          cases b1 with
          | false =>
            replace q10 := q10.2 rfl
            rw [if_neg Bool.false_ne_true]
            exact ⟨hlt1, G10, acc7, ys7, (u7.trans u8).trans u10, l10, (S7.step u8 w8).step u10 w10, g10, h10, (r7.mono u8.g).mono u10.g, by omega, q10⟩
          | true =>
            replace q10 := q10.1 rfl
            rw [if_pos rfl]
            refine he G0 H0 env9 σ9 H10 G10 (S9.step u10 w10) _ q10 _ fun d y' H11 G11 q11 u11 w11 r11 => ?_
            obtain ⟨h11, g11⟩ := nD u11 w11 h10 g10
            have up11 := ((u7.trans u8).trans (u10.trans u11)).mut (o := .lst (ys7 ++ [y'])) hD
            have w11' := w11.mut (o := .lst (ys7 ++ [y'])) g11 hn
            refine ⟨ys7, h11, szlt (by rw [r7.len]; omega), hlt1, G11, acc7 ++ [d], ys7 ++ [y'], up11, fun a o z => u11.g a o (l10 a o z), ?_, g11, upd_same, (((r7.mono u8.g).mono u10.g).mono u11.g).append (.cons r11 .nil), by rw [List.length_append]; simp; omega, q11⟩
            -- the slots of the block at the list's growth: the entry does not know the list
            have S11 := ((S7.step u8 w8).step u10 w10).step u11 w11
            have d0 : H0 Dl = none := S.up.back (u1.back hD)
            refine ⟨w11', S11.up.mut d0, S11.pl, S11.len, S11.slot, fun a e ha => ?_, S11.dis, S11.hld⟩
            obtain ⟨p, o, f1, f2, f3, f4, f5⟩ := S11.own a e ha
            refine ⟨p, o, f1, f2, f3, ?_, f5⟩
            have hp3 : p ≠ Dl := fun z => by
              subst z
              obtain ⟨e1, e2⟩ := ow a e ha
              obtain ⟨e3, _⟩ := wipeE_some e1
              obtain ⟨p2, o2, g1, _, _, g4, _⟩ := S.own a e e3
              have e4 := (S.wipe2 vs).own a e e1
              obtain ⟨p5, o5, m1, _, _, m4, _⟩ := e4
              rw [e2] at f1
              rw [f1] at m1
              cases m1
              rw [u1.back hD] at m4
              cases m4
            rw [upd_ne hp3]
            exact f4
        · have e : j = es.length := by omega
          subst e
          rw [List.drop_length] at q7
          exact .inl ⟨(wk1 H7 G7 l7 S7.wf S7.up.h _).1 (Nat.le_refl _), hlt, G7, acc7, ys7, u7, S7.wf, g7, h7, r7, q7⟩
    · have e : i = ds.length := by omega
      subst e
      rw [List.drop_length] at q2
      exact .inl ⟨(wk H2 G2 u2.g w2 S2.up.h _).1 (Nat.le_refl _), k _ Dl _ H2 G2 q2 up2 w2 (u1.back hD) h2 g2 (.lst r2)⟩
end
section
variable {K : PySem.W.Frag} {X : Cx} {elt tg iter tg1 iter1 : Expr} {ifs ifs1 : List Expr} {scope : Scope} {own : List (Str × Nat)} {vs1 : List Nat} {pos : Pos} {wi wi1 : TI} {g g1 : TG} {tt tt1 : TT} {te : TE} {is is1 : List Nat} {src src1 : PAa} {t t1 : PTg} {c c1 : PTt} {p : PX}
theorem j_lc2 (hc : X.calm = true) (hN : X.N.Nodup) (hi : JI K X tg iter wi src) (ok : BlkOk X.N X.env.scope scope own) (hv : ∀ i ∈ is, i ∈ own.map (·.2)) (hv1 : ∀ i ∈ is1, i ∈ vs1) (hv2 : ∀ i ∈ vs1, i ∈ own.map (·.2)) (hg : Blk X scope fun Y => JG K Y tg is g t) (ht : Blk X scope fun Y => JTs K Y ifs tt c)
    (hi1 : Blk X scope fun Y => JI K Y tg1 iter1 wi1 src1) (hg1 : Blk X scope fun Y => JG K Y tg1 is1 g1 t1) (ht1 : Blk X scope fun Y => JTs K Y ifs1 tt1 c1) (he : Blk X scope fun Y => JS K Y elt te p)
    (hs : ∀ x, foldedSetIterable iter X.env x = pure x := by intro _; rfl) (hs1 : ∀ env x, foldedSetIterable iter1 env x = pure x := by intro _ _; rfl) : JF K X (.ListComp elt [⟨tg, iter, ifs, 0⟩, ⟨tg1, iter1, ifs1, 0⟩] scope pos) (tLc2 wi g tt wi1 g1 tt1 te (own.map (·.2)) vs1) (xLc2 src (own.map (·.2)) t c src1 vs1 t1 c1 p) :=
  ⟨pe_lc2 hc hN hi.1 ok hv2 (fun s H C cl fp => (hg s H C cl fp).1) (fun s H C cl fp => (ht s H C cl fp).1) (fun s H C cl fp => (hi1 s H C cl fp).1) (fun s H C cl fp => (hg1 s H C cl fp).1) (fun s H C cl fp => (ht1 s H C cl fp).1) (fun s H C cl fp => (he s H C cl fp).1) hs hs1,
    fun P => ev_lc2 _ _ hv hv1 (hi.2 P) (hg.one fun _ h => h.2 P) (ht.one fun _ h => h.2 P) (hi1.one fun _ h => h.2 P) (hg1.one fun _ h => h.2 P) (ht1.one fun _ h => h.2 P) (he.one fun _ h => h.2 P)⟩
theorem jc_setLc2 {i : Nat} {y : Str} {py spos : Pos} (hc : X.calm = true) (hN : X.N.Nodup) (hy : X.N[i]? = some y) (hyl : X.env.scope.names.lookup y = some .local) (hsw : swapsWith (.ListComp elt [⟨tg, iter, ifs, 0⟩, ⟨tg1, iter1, ifs1, 0⟩] scope pos) (some (.Name y py)) spos.line X.env = pure true)
    (hi : JI K X tg iter wi src) (ok : BlkOk X.N X.env.scope scope own) (hv : ∀ i ∈ is, i ∈ own.map (·.2)) (hv1 : ∀ i ∈ is1, i ∈ vs1) (hv2 : ∀ i ∈ vs1, i ∈ own.map (·.2)) (hg : Blk X scope fun Y => JG K Y tg is g t) (ht : Blk X scope fun Y => JTs K Y ifs tt c)
    (hi1 : Blk X scope fun Y => JI K Y tg1 iter1 wi1 src1) (hg1 : Blk X scope fun Y => JG K Y tg1 is1 g1 t1) (ht1 : Blk X scope fun Y => JTs K Y ifs1 tt1 c1) (he : Blk X scope fun Y => JS K Y elt te p)
    (hs : ∀ x, foldedSetIterable iter X.env x = pure x := by intro _; rfl) (hs1 : ∀ env x, foldedSetIterable iter1 env x = pure x := by intro _ _; rfl) : JC K X (.Assign [.Name y py] (.ListComp elt [⟨tg, iter, ifs, 0⟩, ⟨tg1, iter1, ifs1, 0⟩] scope pos) spos) (xSet i (xLc2 src (own.map (·.2)) t c src1 vs1 t1 c1 p)) :=
  ⟨_, ps_setLc2 hc hN hy hyl hsw hi.1 ok hv2 (fun s H C cl fp => (hg s H C cl fp).1) (fun s H C cl fp => (ht s H C cl fp).1) (fun s H C cl fp => (hi1 s H C cl fp).1) (fun s H C cl fp => (hg1 s H C cl fp).1) (fun s H C cl fp => (ht1 s H C cl fp).1) (fun s H C cl fp => (he s H C cl fp).1) hs hs1,
    fun P => ev_set i (ev_lc2 _ _ hv hv1 (hi.2 P) (hg.one fun _ h => h.2 P) (ht.one fun _ h => h.2 P) (hi1.one fun _ h => h.2 P) (hg1.one fun _ h => h.2 P) (ht1.one fun _ h => h.2 P) (he.one fun _ h => h.2 P)).s⟩
end
end Pv
namespace Pv
open PySem PySem.Spec L2

/-! ### in, not in -/
section
variable {K : PySem.W.Frag} {X : Cx}
def rInT (K : PySem.W.Frag) (neg : Bool) : R2 := fun x y H Q => ∃ d ds, Dp K H x d ∧ Dp K H y (.tuple ds) ∧ SeqAt.shaped d = true ∧ SeqAt.shaped (.tuple ds) = true ∧ Q (.bl (if neg then !(ds.any fun z => PyData.eqv z d) else ds.any fun z => PyData.eqv z d)) H
def rInK (neg : Bool) : R2 := fun x y H Q => ∃ a o, y = .ref a ∧ DGet H a x o ∧ Q (.bl (if neg then !o.isSome else o.isSome)) H
theorem op_inT {k : Nat} (hr : Room k X.A) : OpR X (compareOp .In) (rInT X.K false) := fun pins s σ H x y v u Q I rx ry ⟨d, ds, h1, h2, s1, s2, q⟩ => by
  obtain ⟨as, r1⟩ := Dp.reads I d x v h1 rx
  obtain ⟨bs, r2⟩ := Dp.reads I (.tuple ds) y u h2 ry
  have := SeqAt.depth_of_shaped s1
  have := hu65 hr
  exact SeqAt.in_tuple_reads r2 r1 (SeqAt.canLay_of_shaped s2) (SeqAt.canLay_of_shaped s1) (by omega) ⟨.bl _, H, I, rfl, q⟩
theorem op_notInT {k : Nat} (hr : Room k X.A) : OpR X (compareOp .NotIn) (rInT X.K true) := fun pins s σ H x y v u Q I rx ry ⟨d, ds, h1, h2, s1, s2, q⟩ => by
  obtain ⟨as, r1⟩ := Dp.reads I d x v h1 rx
  obtain ⟨bs, r2⟩ := Dp.reads I (.tuple ds) y u h2 ry
  have := SeqAt.depth_of_shaped s1
  have := hu65 hr
  exact SeqAt.notIn_tuple_reads r2 r1 (SeqAt.canLay_of_shaped s2) (SeqAt.canLay_of_shaped s1) (by omega) ⟨.bl _, H, I, rfl, q⟩
theorem op_inK {k : Nat} (hr : Room k X.A) : OpR X (compareOp .In) (rInK false) := fun pins s σ H x y v u Q I rx ry ⟨a, o, e, g, q⟩ => by
  subst e
  cases (show u = Value.ref a from ry)
  have := hr.units
  exact d_in (by omega) I g rx fun s' I' => ⟨.bl _, H, I', rfl, q⟩
theorem op_notInK {k : Nat} (hr : Room k X.A) : OpR X (compareOp .NotIn) (rInK true) := fun pins s σ H x y v u Q I rx ry ⟨a, o, e, g, q⟩ => by
  subst e
  cases (show u = Value.ref a from ry)
  have := hr.units
  exact d_notIn (by omega) I g rx fun s' I' => ⟨.bl _, H, I', rfl, q⟩
def rInA (K : PySem.W.Frag) : R2 := orR (rInD K) (orR (rInT K false) (rInK false))
def rNotInA (K : PySem.W.Frag) : R2 := orR (rNotInD K) (orR (rInT K true) (rInK true))
theorem op_inA {k : Nat} (hr : Room k X.A) : OpR X (compareOp .In) (rInA X.K) := or_op (op_inD (hu65 hr)) (or_op (op_inT hr) (op_inK hr))
theorem op_notInA {k : Nat} (hr : Room k X.A) : OpR X (compareOp .NotIn) (rNotInA X.K) := or_op (op_notInD (hu65 hr)) (or_op (op_notInT hr) (op_notInK hr))
def oInG (f : Bool → Bool) : O2 := fun a b Q => match b with
  | .lst xs => pl 16 a = true ∧ xs.all (pl 15) = true ∧ Q (.bl (f (xs.any fun z => eqD z a)))
  | .tup xs => pl 16 a = true ∧ xs.all (pl 15) = true ∧ Q (.bl (f (xs.any fun z => eqD z a)))
  | .dk kvs => ∃ kk, keyD a = some kk ∧ Q (.bl (f (look kvs kk).isSome))
  | _ => False
def oInA : O2 := oInG id
def oNotInA : O2 := oInG not
theorem look_val {P : Option Addr} {G : Hp} {vs : List (Key × V)} {kvs : List (Key × D)} (r : RepK K P G vs kvs) (k : Key) : (valV vs k).isSome = (look kvs k).isSome := by
  cases e : look kvs k with
  | none =>
    rw [(r.val k).2 e]
    rfl
  | some d =>
    obtain ⟨v, h, _⟩ := (r.val k).1 d e
    rw [h]
    rfl
theorem dget_rd {H : Hp} {a : Addr} {vs : List (Key × V)} {k : Key} (h : Rd H a (.dK vs)) : DGet H a (kV k) (valV vs k) := .inl ⟨vs, k, h, rfl, rfl⟩
theorem s_inA : OpS K (rInA K) oInA := fun P H G x y a b w rx ry Q q R k => by
  cases b with
  | lst xs =>
    have hb : pl 16 (.lst xs) = true := by simpa [pl] using q.2.1
    exact .inl ⟨_, _, dp_ofW w q.1 rx, dp_ofW w hb ry, pl_sh q.1, pl_sh hb, by rw [pyL_any]; exact k _ _ H G q.2.2 .refl w (.bl _)⟩
  | tup xs =>
    have hb : pl 16 (.tup xs) = true := by simpa [pl] using q.2.1
    exact .inr (.inl ⟨_, _, dp_ofW w q.1 rx, dp_ofW w hb ry, pl_sh q.1, pl_sh hb, by rw [pyL_any]; exact k _ _ H G q.2.2 .refl w (.bl _)⟩)
  | dk kvs =>
    obtain ⟨kk, e, q⟩ := q
    obtain ⟨p, vs, rfl, h1, r1⟩ := ry.dk_inv w
    exact .inr (.inr ⟨p, _, rfl, by rw [keyD_v e rx]; exact dget_rd h1, by rw [look_val r1]; exact k _ _ H G q .refl w (.bl _)⟩)
  | _ => exact False.elim q
theorem s_notInA : OpS K (rNotInA K) oNotInA := fun P H G x y a b w rx ry Q q R k => by
  cases b with
  | lst xs =>
    have hb : pl 16 (.lst xs) = true := by simpa [pl] using q.2.1
    exact .inl ⟨_, _, dp_ofW w q.1 rx, dp_ofW w hb ry, pl_sh q.1, pl_sh hb, by rw [pyL_any]; exact k _ _ H G q.2.2 .refl w (.bl _)⟩
  | tup xs =>
    have hb : pl 16 (.tup xs) = true := by simpa [pl] using q.2.1
    exact .inr (.inl ⟨_, _, dp_ofW w q.1 rx, dp_ofW w hb ry, pl_sh q.1, pl_sh hb, by rw [pyL_any]; exact k _ _ H G q.2.2 .refl w (.bl _)⟩)
  | dk kvs =>
    obtain ⟨kk, e, q⟩ := q
    obtain ⟨p, vs, rfl, h1, r1⟩ := ry.dk_inv w
    exact .inr (.inr ⟨p, _, rfl, by rw [keyD_v e rx]; exact dget_rd h1, by rw [look_val r1]; exact k _ _ H G q .refl w (.bl _)⟩)
  | _ => exact False.elim q
end

/-! ### the pool of draws -/
def s__law_mixed : PSpec := fun ds Q => ∃ n p : Int, ds = [.int n, .int p] ∧ ∀ r, 0 ≤ r → Q (.int r)
def b__law_mixed : PSt := (xSeq (xSet 2 (xOp oMod (xCB oInt1 (xCons (xOp oAdd (xOp oAdd (xOp oMul (xVar 0) (xC (.int 48271))) (xOp oMul (xVar 1) (xC (.int 69621)))) (xC (.int 11))) xNil)) (xC (.int 618970019642690137449562111))))
 (xSeq (xSet 3 (xOp oMod (xCB oInt1 (xCons (xOp oAdd (xOp oAdd (xOp oMul (xVar 2) (xVar 2)) (xOp oMul (xC (.int 7)) (xVar 2))) (xVar 1)) xNil)) (xC (.int 162259276829213363391578010288127))))
 (xSeq (xSet 4 (xOp oMod (xCB oInt1 (xCons (xOp oAdd (xOp oMul (xVar 3) (xVar 3)) (xVar 2)) xNil)) (xC (.int 618970019642690137449562111))))
 (xRet (xOp oAdd (xOp oMul (xVar 3) (xC (.int 618970019642690137449562111))) (xVar 4))))))
theorem n__law_mixed : ∀ ds Q, s__law_mixed ds Q → ds.length = 2 := fun ds Q h => by
  obtain ⟨n, p, rfl, _⟩ := h
  rfl
theorem mulOk_c {i j : Int} (h : -(2 ^ 64) < j ∧ j < 2 ^ 64) : mulOk i j := .inl (.inr h)
theorem mulOk_c' {i j : Int} (h : -(2 ^ 64) < i ∧ i < 2 ^ 64) : mulOk i j := .inl (.inl h)
theorem mulOk_w {i j : Int} {a b : Nat} (ha : i.natAbs < 2 ^ a) (hb : j.natAbs < 2 ^ b) (h0 : 0 < a := by decide) (h1 : 0 < b := by decide) (h : a + b ≤ 1000000 := by decide) : mulOk i j := .inr (wide_mul ha hb h0 h1 h)
theorem p__law_mixed : ∀ ds Q, s__law_mixed ds Q → b__law_mixed (fin Q) (startE ["number", "place", "first", "second", "third"].length ds) := fun ds Q h => by
  obtain ⟨n, p, rfl, q⟩ := h
  have e1 : (0:Int) ≤ (n * 48271 + p * 69621 + 11) % 618970019642690137449562111 := Int.emod_nonneg _ (by decide)
  have e2 : (n * 48271 + p * 69621 + 11) % 618970019642690137449562111 < 618970019642690137449562111 := Int.emod_lt_of_pos _ (by decide)
  refine ⟨mulOk_c (by decide), mulOk_c (by decide), by decide, ?_⟩
  generalize (n * 48271 + p * 69621 + 11) % 618970019642690137449562111 = x at e1 e2
  have e3 : (0:Int) ≤ (x * x + 7 * x + p) % 162259276829213363391578010288127 := Int.emod_nonneg _ (by decide)
  have e4 : (x * x + 7 * x + p) % 162259276829213363391578010288127 < 162259276829213363391578010288127 := Int.emod_lt_of_pos _ (by decide)
  have hx : x.natAbs < 2 ^ 90 := by omega
  refine ⟨mulOk_w hx hx, mulOk_c' (by decide), by decide, ?_⟩
  generalize (x * x + 7 * x + p) % 162259276829213363391578010288127 = y at e3 e4
  have e5 : (0:Int) ≤ (y * y + x) % 618970019642690137449562111 := Int.emod_nonneg _ (by decide)
  have hy : y.natAbs < 2 ^ 110 := by omega
  refine ⟨mulOk_w hy hy, by decide, ?_⟩
  generalize (y * y + x) % 618970019642690137449562111 = z at e5
  refine ⟨mulOk_w hy (by decide : (618970019642690137449562111 : Int).natAbs < 2 ^ 90), ?_⟩
  exact q _ (by omega)
/-- rest(script, place, fills): some number, nothing changed -/
def spRest (K : PySem.W.Frag) : Sp := fun vs H Q _ => ∃ (a : Addr) (ns : List Int) (pl f : Int), vs = [.ref a, .int pl, .int f] ∧ SqL K H a (ns.map V.int) ∧ ns.length ≤ 63 ∧ 0 ≤ pl ∧ 0 ≤ f ∧ ∀ r H', 0 ≤ r → Le H H' → Q (.int r) H'
section
variable {Pg : Program} {w : World} {K : PySem.W.Frag} {mg : Str → Option Value} {base : Heap}
theorem le_sql {H H' : Hp} {a : Addr} {xs : List V} (l : Le H H') (h : SqL K H a xs) : SqL K H' a xs := sqL_vw (.of l) h
def rLenQ (K : PySem.W.Frag) : List V → Hp → VK → Prop := fun xs H Q => ∃ p ys, xs = [.ref p] ∧ (SqL K H p ys ∨ SqT K H p ys) ∧ Q (.int (ys.length : Nat)) H
abbrev tLenV (K : PySem.W.Frag) : TE := tCB (rLenQ K) (tCons (tVar 0) tNil)
abbrev tTen : TE := tOp (rI CPow fun i j => .int (i ^ j.toNat)) (tC (.int 10)) (tC (.int 18))
def tRestA (K : PySem.W.Frag) : TS := tRet (tCall (mkSp K s__law_mixed) [] E0 (tCons (tOp (rI0 fun i j => .int (i + j)) (tVar 3) (tOp (rI mulOk fun i j => .int (i * j)) (tVar 2) (tC (.int 1000003)))) (tCons (tVar 1) tNil)))
def tRestB (K : PySem.W.Frag) : TS := tSeq (tIfS (tAnd (tTest (tOp rEq (tVar 2) (tC (.int 0)))) (tAnd (tTest (tOp (rI0 fun i j => .bl (decide (i < j))) (tVar 1) (tLenV K))) (tTest (tOp (rI0 fun i j => .bl (decide (j ≤ i))) (tVar 3) tTen))))
      (tRet (tOp (rI0 fun i j => .int (i - j)) (tVar 3) tTen)) tNext) (tRestA K)
def tRestC (K : PySem.W.Frag) : TS := tSeq (tIfS (tTest (tOp (rI0 fun i j => .bl (decide (i < j))) (tVar 3) (tC (.int 0)))) (tAsg (tOp (rI0 fun i j => .int (i - j)) (tC (.int 1)) (tOp (rI mulOk fun i j => .int (i * j)) (tC (.int 2)) (tVar 3))) (gName 3)) tNext) (tRestB K)
def tRestD (K : PySem.W.Frag) : TS := tSeq (tAsg (tC (.int 0)) (gName 3)) (tSeq (tIfS (tTest (tOp (rI0 fun i j => .bl (decide (j < i))) (tLenV K) (tC (.int 0))))
      (tAsg (tCB rInt1 (tCons (tOp (rIxL K) (tVar 0) (tOp (rI (fun _ j => 0 < j) fun i j => .int (i % j)) (tCB rInt1 (tCons (tVar 1) tNil)) (tLenV K))) tNil)) (gName 3)) tNext) (tRestC K))
theorem cp18 : CPow 10 18 := ⟨by decide, by decide, by decide⟩
/-- the reading of rest's body -/
theorem rest_read {K : PySem.W.Frag} {H : Hp} {a : Addr} {ns : List Int} {pl f : Int} {Q : VK} {nx : L2.St → Hp → Prop} (hS : SqL K H a (ns.map V.int)) (hn : ns.length ≤ 63) (hp : 0 ≤ pl) (q : ∀ r H', 0 ≤ r → Le H H' → Q (.int r) H') :
    tRestD K { nx := nx, rt := Q } (L2.start ["script", "place", "fills", "number"] [.ref a, .int pl, .int f]) H := by
  have len : (ns.map V.int).length = ns.length := List.length_map _
  have go1 : ∀ z : Int, tRestA K { nx := nx, rt := Q } [some (.ref a), some (.int pl), some (.int f), some (.int z)] H := fun z => by
    refine ⟨_, rfl, _, rfl, _, _, rfl, rfl, mulOk_c (by decide), _, _, rfl, rfl, _, rfl, none, (fun _ => none), _, (fun d => ∃ r, 0 ≤ r ∧ d = .int r), ⟨(fun _ _ h => nomatch h), (fun _ h => nomatch h)⟩, .cons (.int _) (.cons (.int _) .nil), ⟨_, _, rfl, fun r hr => ⟨r, hr, rfl⟩⟩, fun d v H' G' hd u w r => ?_⟩
    obtain ⟨r0, h0, rfl⟩ := hd
    rw [r.int_inv]
    exact q r0 H' h0 fun b o hb => u.h b o hb (fun z => nomatch z)
  have go3 : ∀ z : Int, 0 ≤ z → tRestB K { nx := nx, rt := Q } [some (.ref a), some (.int pl), some (.int f), some (.int z)] H := fun z hz => by
    refine ⟨_, rfl, rfl, _, rfl, ?_⟩
    refine ite2 (fun _ => ?_) (fun _ => iteF (go1 z))
    refine ⟨_, rfl, _, rfl, a, _, rfl, .inl hS, _, _, rfl, rfl, _, rfl, ?_⟩
    refine ite2 (fun _ => ?_) (fun _ => iteF (go1 z))
    refine ⟨_, rfl, _, _, rfl, rfl, cp18, _, _, rfl, rfl, _, rfl, ?_⟩
    refine ite2 (fun c => ?_) (fun _ => go1 z)
    refine ⟨_, rfl, _, _, rfl, rfl, cp18, _, _, rfl, rfl, ?_⟩
    have c' := of_decide_eq_true c
    refine q _ H ?_ .refl
    have e : (10 : Int) ^ (18 : Int).toNat = 1000000000000000000 := by decide
    rw [e] at c' ⊢
    omega
  have go2 : ∀ z : Int, tRestC K { nx := nx, rt := Q } [some (.ref a), some (.int pl), some (.int f), some (.int z)] H := fun z => by
    refine ⟨_, rfl, _, _, rfl, rfl, _, rfl, ?_⟩
    refine ite2 (fun c => ?_) (fun c => ?_)
    · have c' := of_decide_eq_true c
      exact ⟨_, rfl, _, _, rfl, rfl, mulOk_c' (by decide), _, _, rfl, rfl, go3 _ (by omega)⟩
    · have c' := of_decide_eq_false (Bool.eq_false_iff.mpr c)
      exact go3 z (by omega)
  refine ⟨_, rfl, a, _, rfl, .inl hS, _, _, rfl, rfl, _, rfl, ?_⟩
  refine ite2 (fun c => ?_) (fun c => go2 0)
  have c' := of_decide_eq_true c
  rw [len] at c'
  have h1 : (0 : Int) ≤ pl % (ns.length : Int) := Int.emod_nonneg _ (by omega)
  have h2 : pl % (ns.length : Int) < (ns.length : Int) := Int.emod_lt_of_pos _ (by omega)
  have hi : (pl % (ns.length : Int)).toNat < ns.length := by omega
  refine ⟨_, rfl, _, rfl, .inl ⟨pl, rfl, _, rfl, a, _, rfl, .inl hS, _, _, rfl, rfl, by rw [len]; exact c', a, _, _, .int (ns[(pl % (ns.length : Int)).toNat]), rfl, rfl, hS, ?_, .inl ⟨_, rfl, go2 _⟩⟩⟩
  rw [len]
  refine at_of (j := (pl % (ns.length : Int)).toNat) (by omega) ?_
  rw [List.getElem?_map, List.getElem?_eq_getElem hi]
  rfl
/-- rest as it stands at f -/
structure FRest (Pg : Program) (w : World) (K : PySem.W.Frag) (mg : Str → Option Value) (base : Heap) : Prop where
  ex : ∃ f fd, FnOk Pg w K mg base CX0 2 f fd ["script", "place", "fills"] (spRest K) ∧ PySem.W.keepIn K (.ref f) = true ∧ Binds K fd ["script", "place", "fills"] [] ∧ mg "_law_rest" = some (.ref f)
theorem mk__law_rest {st : Stmt} {f : Addr} {fd : FuncData} (F : Fun K "_law_rest" "_law_rest" st f fd) (b : Binds K fd ["script", "place", "fills"] []) (m : mg "_law_rest" = some (.ref f)) (S : FnScope ["script", "place", "fills", "number"] ["script", "place", "fills"] (defScope st))
    (body : ∀ (cdv : Value) (A : Around) (outer : List Env) (s : Shared) (H : Hp) (E : XK), Room 1 (A.deeper (PyProof.Rows.envOfC "_law_rest" (defScope st) s.heap.objs.size f cdv)) → PSs (cxOf CX0 Pg w K mg base ["script", "place", "fills", "number"] "_law_rest" (defScope st) f cdv A outer s H E).nox (defBody st) (tRestD K)) : FRest Pg w K mg base := by
  refine ⟨f, fd, F.ok S (fun vs H Q E h => ?_) (fun cdv A outer s H vs Q E hr h => ?_), F.kp, b, m⟩
  · obtain ⟨a, ns, pl, f, rfl, _⟩ := h
    rfl
  · obtain ⟨a, ns, pl, f, rfl, hS, hn, hp, hf, q⟩ := h
    exact ⟨_, body cdv A outer s H E hr, rest_read hS hn hp q⟩
/-! draw, next -/
def s__law_draw : PSpec := fun ds Q => ∃ n : Int, ds = [.pool, .int n] ∧ 0 < n ∧ n < 1073741824 ∧ ∀ v, 0 ≤ v → v < n → Q (.int v)
def s__law_next : PSpec := fun ds Q => ds = [.pool] ∧ Q .non
abbrev tPix (K : PySem.W.Frag) (k : Int) : TE := tOp (rIxL K) (tVar 0) (tC (.int k))
abbrev tPset (te : TE) (k : Int) : TS := tAsg te (gSub (tVar 0) (tC (.int k)) rSetL)
abbrev tPint (K : PySem.W.Frag) : TE := tCB rInt1 (tCons (tPix K 2) tNil)
def tDrawB (K : PySem.W.Frag) : TS := tSeq (tAsg (tOp (rI (fun _ j => 0 < j) fun i j => .int (i % j)) (tPint K) (tVar 1)) (gName 2)) (tSeq (tPset (tOp (rI CDiv fun i j => .int (i / j)) (tPint K) (tVar 1)) 2) (tRet (tVar 2)))
def tDraw (K : PySem.W.Frag) : TS := tSeq (tIfS (tTest (tOp (rI0 fun i j => .bl (decide (i ≤ j))) (tPix K 2) (tC (.int 1))))
  (tSeq (tPset (tOp (rI0 fun i j => .int (i + j)) (tPix K 3) (tC (.int 1))) 3) (tPset (tCall (spRest K) [] E0 (tCons (tPix K 0) (tCons (tPix K 1) (tCons (tPix K 3) tNil)))) 2)) tNext) (tDrawB K)
def tNextP (K : PySem.W.Frag) : TS := tSeq (tPset (tOp (rI0 fun i j => .int (i + j)) (tPix K 1) (tC (.int 1))) 1) (tSeq (tPset (tCall (spRest K) [] E0 (tCons (tPix K 0) (tCons (tPix K 1) (tCons (tC (.int 0)) tNil)))) 2) (tPset (tC (.int 0)) 3))
/-- the pool's list, told apart from the view -/
structure PlAt (K : PySem.W.Frag) (P : Option Addr) (G0 H0 : Hp) (p : Addr) (pl r f : Int) (H : Hp) : Prop where
  up : Up P H0 G0 H G0
  gh : Le G0 H
  g0 : G0 p = none
  ex : ∃ (a : Addr) (ns : List Int), H p = some (.lst [.ref a, .int pl, .int r, .int f]) ∧ SqL K G0 a (ns.map V.int) ∧ ns.length ≤ 63
  h0 : 0 ≤ pl ∧ 0 ≤ r ∧ 0 ≤ f
theorem PlAt.wf {K : PySem.W.Frag} {G0 H0 H : Hp} {p : Addr} {pl r f : Int} (h : PlAt K (some p) G0 H0 p pl r f H) : Wf K (some p) H G0 := ⟨h.gh, fun q e => by
  cases e
  obtain ⟨a, ns, h1, h2, h3⟩ := h.ex
  exact ⟨⟨a, ns, pl, r, f, h1, h2, h3, h.h0⟩, h.g0⟩⟩
theorem PlAt.of {K : PySem.W.Frag} {G H : Hp} {p : Addr} (w : Wf K (some p) H G) : ∃ pl r f, PlAt K (some p) G H p pl r f H := by
  obtain ⟨⟨a, ns, pl, r, f, h1, h2, h3, h4⟩, g⟩ := w.pool p rfl
  exact ⟨pl, r, f, .refl, w.gh, g, ⟨a, ns, h1, h2, h3⟩, h4⟩
theorem PlAt.set {K : PySem.W.Frag} {G0 H0 H : Hp} {p : Addr} {pl r f pl' r' f' : Int} {a : Addr} (h : PlAt K (some p) G0 H0 p pl r f H) (ha : ∃ ns : List Int, SqL K G0 a (ns.map V.int) ∧ ns.length ≤ 63) (h0 : 0 ≤ pl' ∧ 0 ≤ r' ∧ 0 ≤ f') : PlAt K (some p) G0 H0 p pl' r' f' (upd H p (.lst [.ref a, .int pl', .int r', .int f'])) where
  up := ⟨h.up.g, fun b o e n => by rw [upd_ne (fun z => n (by rw [z]))]; exact h.up.h b o e n, fun b o e => by
    by_cases z : b = p
    · exact ⟨_, by rw [z]; exact upd_same⟩
    · rw [upd_ne z]
      exact h.up.d b o e, h.up.n⟩
  gh := fun b o e => by
    have z : b ≠ p := fun z => by
      rw [z, h.g0] at e
      cases e
    rw [upd_ne z]
    exact h.gh b o e
  g0 := h.g0
  ex := ⟨a, ha.choose, upd_same, ha.choose_spec⟩
  h0 := h0
theorem PlAt.le {K : PySem.W.Frag} {G0 H0 H H' : Hp} {p : Addr} {pl r f : Int} (h : PlAt K (some p) G0 H0 p pl r f H) (l : Le H H') : PlAt K (some p) G0 H0 p pl r f H' where
  up := ⟨h.up.g, fun b o e n => l _ _ (h.up.h b o e n), fun b o e => let ⟨o', e'⟩ := h.up.d b o e; ⟨o', l _ _ e'⟩, h.up.n⟩
  gh := fun b o e => l _ _ (h.gh b o e)
  g0 := h.g0
  ex := let ⟨a, ns, h1, h2⟩ := h.ex; ⟨a, ns, l _ _ h1, h2⟩
  h0 := h.h0
theorem draw_read {K : PySem.W.Frag} {G H : Hp} {p : Addr} {n : Int} {Q : VK} {nx : L2.St → Hp → Prop} {pl r f : Int} (h : PlAt K (some p) G H p pl r f H) (n0 : 0 < n) (n1 : n < 1073741824)
    (q : ∀ v H' pl' r' f', 0 ≤ v → v < n → PlAt K (some p) G H p pl' r' f' H' → Q (.int v) H') : tDraw K { nx := nx, rt := Q } (L2.start ["pool", "limit", "value"] [.ref p, .int n]) H := by
  have last : ∀ (H1 : Hp) (pl r f : Int), PlAt K (some p) G H p pl r f H1 → tDrawB K { nx := nx, rt := Q } [some (.ref p), some (.int n), none] H1 := fun H1 pl r f h1 => by
    obtain ⟨a, ns, e, hs, hz⟩ := h1.ex
    have v0 : 0 ≤ r % n := Int.emod_nonneg _ (by omega)
    have v1 : r % n < n := Int.emod_lt_of_pos _ n0
    have d0 : 0 ≤ r / n := Int.ediv_nonneg h1.h0.2.1 (by omega)
    refine ⟨_, rfl, p, _, 2, _, rfl, rfl, SqL.of e, rfl, .inl ⟨r, rfl, _, rfl, r, n, rfl, rfl, n0, ?_⟩⟩
    refine ⟨_, rfl, p, _, 2, _, rfl, rfl, SqL.of e, rfl, .inl ⟨r, rfl, _, rfl, r, n, rfl, rfl, ⟨n0, n1⟩, ?_⟩⟩
    exact ⟨_, rfl, p, _, 2, 2, rfl, rfl, e, rfl, _, rfl, q _ _ _ _ _ v0 v1 (h1.set ⟨ns, hs, hz⟩ ⟨h1.h0.1, d0, h1.h0.2.2⟩)⟩
  obtain ⟨a, ns, e, hs, hz⟩ := h.ex
  refine ⟨_, rfl, p, _, 2, _, rfl, rfl, SqL.of e, rfl, _, _, rfl, rfl, _, rfl, ?_⟩
  refine ite2 (fun c => ?_) (fun c => last H pl r f h)
  refine ⟨_, rfl, p, _, 3, _, rfl, rfl, SqL.of e, rfl, f, 1, rfl, rfl, ?_⟩
  have h2 := h.set (pl' := pl) (r' := r) (f' := f + 1) ⟨ns, hs, hz⟩ ⟨h.h0.1, h.h0.2.1, by have := h.h0.2.2; omega⟩
  refine ⟨_, rfl, p, _, 3, 3, rfl, rfl, e, rfl, ?_⟩
  have e2 : (upd H p (.lst [.ref a, .int pl, .int r, .int (f + 1)])) p = some (.lst [.ref a, .int pl, .int r, .int (f + 1)]) := upd_same
  refine ⟨_, rfl, p, _, 0, _, rfl, rfl, SqL.of e2, rfl, _, rfl, p, _, 1, _, rfl, rfl, SqL.of e2, rfl, _, rfl, p, _, 3, _, rfl, rfl, SqL.of e2, rfl, a, ns, pl, f + 1, rfl, le_sql h2.gh hs, hz, h.h0.1, h2.h0.2.2, fun r1 H3 hr l => ?_⟩
  have h3 := h2.le l
  refine ⟨_, rfl, p, _, 2, 2, rfl, rfl, l _ _ e2, rfl, ?_⟩
  exact last _ pl r1 (f + 1) (h3.set ⟨ns, hs, hz⟩ ⟨h.h0.1, hr, h2.h0.2.2⟩)
theorem next_read {K : PySem.W.Frag} {G H : Hp} {p : Addr} {Q : VK} {pl r f : Int} (h : PlAt K (some p) G H p pl r f H)
    (q : ∀ H' pl' r' f', PlAt K (some p) G H p pl' r' f' H' → Q .non H') : tNextP K { nx := fun _ H' => Q .non H', rt := Q } (L2.start ["pool"] [.ref p]) H := by
  obtain ⟨a, ns, e, hs, hz⟩ := h.ex
  refine ⟨_, rfl, p, _, 1, _, rfl, rfl, SqL.of e, rfl, pl, 1, rfl, rfl, ?_⟩
  have h2 := h.set (pl' := pl + 1) (r' := r) (f' := f) ⟨ns, hs, hz⟩ ⟨by have := h.h0.1; omega, h.h0.2⟩
  refine ⟨_, rfl, p, _, 1, 1, rfl, rfl, e, rfl, ?_⟩
  have e2 : (upd H p (.lst [.ref a, .int (pl + 1), .int r, .int f])) p = some (.lst [.ref a, .int (pl + 1), .int r, .int f]) := upd_same
  refine ⟨_, rfl, p, _, 0, _, rfl, rfl, SqL.of e2, rfl, _, rfl, p, _, 1, _, rfl, rfl, SqL.of e2, rfl, a, ns, pl + 1, 0, rfl, le_sql h2.gh hs, hz, h2.h0.1, Int.le_refl 0, fun r1 H3 hr l => ?_⟩
  have h3 := h2.le l
  refine ⟨_, rfl, p, _, 2, 2, rfl, rfl, l _ _ e2, rfl, ?_⟩
  have h4 := h3.set (pl' := pl + 1) (r' := r1) (f' := f) ⟨ns, hs, hz⟩ ⟨h2.h0.1, hr, h2.h0.2.2⟩
  refine ⟨_, rfl, p, _, 3, 3, rfl, rfl, upd_same, rfl, ?_⟩
  exact q _ _ _ _ (h4.set ⟨ns, hs, hz⟩ ⟨h2.h0.1, hr, Int.le_refl 0⟩)
theorem fo_draw {st : Stmt} {f : Addr} {fd : FuncData} (F : Fun K "_law_draw" "_law_draw" st f fd) (b : Binds K fd ["pool", "limit"] []) (m : mg "_law_draw" = some (.ref f)) (S : FnScope ["pool", "limit", "value"] ["pool", "limit"] (defScope st))
    (body : ∀ (cdv : Value) (A : Around) (outer : List Env) (s : Shared) (H : Hp) (E : XK), Room 2 (A.deeper (PyProof.Rows.envOfC "_law_draw" (defScope st) s.heap.objs.size f cdv)) → PSs (cxOf CX0 Pg w K mg base ["pool", "limit", "value"] "_law_draw" (defScope st) f cdv A outer s H E).nox (defBody st) (tDraw K)) : Fo Pg w K mg base 3 "_law_draw" ["pool", "limit"] s__law_draw := by
  refine ⟨f, fd, F.ok S (fun vs H Q E h => ?_) (fun cdv A outer s H vs Q E hr h => ?_), F.kp, b, m⟩
  · obtain ⟨P, G, ds, Q0, _, r, ⟨n, rfl, _⟩, _⟩ := h
    exact r.len
  · obtain ⟨P, G, ds, Q0, wf, r, ⟨n, rfl, n0, n1, q0⟩, q⟩ := h
    cases r with
    | cons r1 r =>
      cases r with
      | cons r2 r =>
        cases r
        obtain ⟨p, rfl, rfl⟩ := r1.pool_inv
        rw [r2.int_inv]
        obtain ⟨pl, x, y, hp⟩ := PlAt.of wf
        exact ⟨_, body cdv A outer s H E hr, draw_read hp n0 n1 fun v H' pl' r' f' h1 h2 h3 => q _ _ H' G (q0 v h1 h2) h3.up h3.wf (.int v)⟩
theorem fo_next {st : Stmt} {f : Addr} {fd : FuncData} (F : Fun K "_law_next" "_law_next" st f fd) (b : Binds K fd ["pool"] []) (m : mg "_law_next" = some (.ref f)) (S : FnScope ["pool"] ["pool"] (defScope st))
    (body : ∀ (cdv : Value) (A : Around) (outer : List Env) (s : Shared) (H : Hp) (E : XK), Room 2 (A.deeper (PyProof.Rows.envOfC "_law_next" (defScope st) s.heap.objs.size f cdv)) → PSs (cxOf CX0 Pg w K mg base ["pool"] "_law_next" (defScope st) f cdv A outer s H E).nox (defBody st) (tNextP K)) : Fo Pg w K mg base 3 "_law_next" ["pool"] s__law_next := by
  refine ⟨f, fd, F.ok S (fun vs H Q E h => ?_) (fun cdv A outer s H vs Q E hr h => ?_), F.kp, b, m⟩
  · obtain ⟨P, G, ds, Q0, _, r, ⟨rfl, _⟩, _⟩ := h
    exact r.len
  · obtain ⟨P, G, ds, Q0, wf, r, ⟨rfl, q0⟩, q⟩ := h
    cases r with
    | cons r1 r =>
      cases r
      obtain ⟨p, rfl, rfl⟩ := r1.pool_inv
      obtain ⟨pl, x, y, hp⟩ := PlAt.of wf
      exact ⟨_, body cdv A outer s H E hr, next_read hp fun H' pl' r' f' h3 => q _ _ H' G q0 h3.up h3.wf .non⟩
end
end Pv
namespace Pv
open PySem PySem.Spec L2
section
variable {Pg : Program} {w : World} {K : PySem.W.Frag} {mg : Str → Option Value} {base : Heap}
/-- the pool, made -/
def spPool (K : PySem.W.Frag) : Sp := fun vs H Q _ => ∃ (a : Addr) (ns : List Int), vs = [.ref a] ∧ SqL K H a (ns.map V.int) ∧ ns.length ≤ 63 ∧ ∀ p r H', H p = none → 0 ≤ r → Le H H' → H' p = some (.lst [.ref a, .int 0, .int r, .int 0]) → Q (.ref p) H'
def tPoolM (K : PySem.W.Frag) : TS := tRet (tLst (tCons (tVar 0) (tCons (tC (.int 0)) (tCons (tCall (spRest K) [] E0 (tCons (tVar 0) (tCons (tC (.int 0)) (tCons (tC (.int 0)) tNil)))) (tCons (tC (.int 0)) tNil)))))
structure FPool (Pg : Program) (w : World) (K : PySem.W.Frag) (mg : Str → Option Value) (base : Heap) : Prop where
  ex : ∃ f fd, FnOk Pg w K mg base CX0 3 f fd ["script"] (spPool K) ∧ PySem.W.keepIn K (.ref f) = true ∧ Binds K fd ["script"] [] ∧ mg "_law_pool" = some (.ref f)
theorem fo_pool {st : Stmt} {f : Addr} {fd : FuncData} (F : Fun K "_law_pool" "_law_pool" st f fd) (b : Binds K fd ["script"] []) (m : mg "_law_pool" = some (.ref f)) (S : FnScope ["script"] ["script"] (defScope st))
    (body : ∀ (cdv : Value) (A : Around) (outer : List Env) (s : Shared) (H : Hp) (E : XK), Room 2 (A.deeper (PyProof.Rows.envOfC "_law_pool" (defScope st) s.heap.objs.size f cdv)) → PSs (cxOf CX0 Pg w K mg base ["script"] "_law_pool" (defScope st) f cdv A outer s H E).nox (defBody st) (tPoolM K)) : FPool Pg w K mg base := by
  refine ⟨f, fd, F.ok S (fun vs H Q E h => ?_) (fun cdv A outer s H vs Q E hr h => ?_), F.kp, b, m⟩
  · obtain ⟨a, ns, rfl, _⟩ := h
    rfl
  · obtain ⟨a, ns, rfl, hs, hz, q⟩ := h
    refine ⟨_, body cdv A outer s H E hr, ?_⟩
    refine ⟨_, rfl, _, rfl, a, ns, 0, 0, rfl, hs, hz, Int.le_refl 0, Int.le_refl 0, fun r H' hr l => ?_⟩
    refine ⟨by show 4 ≤ sizeLine; decide, fun p hp => ?_⟩
    have h0 : H p = none := by
      cases e : H p with
      | none => rfl
      | some o =>
        rw [l _ _ e] at hp
        cases hp
    exact q p r _ h0 hr (fun b o e => by rw [upd_ne (ne_of_none (l _ _ e) hp)]; exact l _ _ e) upd_same
/-- what law(script) promises -/
def spLaw (K : PySem.W.Frag) : Sp := fun vs H Q _ => ∃ (a : Addr) (ns : List Int), vs = [.ref a] ∧ SqL K H a (ns.map V.int) ∧ ns.length ≤ 63 ∧ ∀ H', Q (.bl true) H'
/-- the law: its first line makes the pool, slot 1 -/
theorem fo_law {k : Nat} {st : Stmt} {rest : List Stmt} {s0 : Stmt} {f : Addr} {fd : FuncData} {N : List Str} {pb : PSt} (F : Fun K "law" "law" st f fd) (S : FnScope N ["script"] (defScope st)) (hN : 2 ≤ N.length) (fp : FPool Pg w K mg base) (hb : defBody st = s0 :: rest)
    (first : ∀ (cdv : Value) (A : Around) (outer : List Env) (s : Shared) (H : Hp) (E : XK) (g : Addr) (gd : FuncData), FnOk Pg w K mg base CX0 k g gd ["script"] (spPool K) → PySem.W.keepIn K (.ref g) = true → Binds K gd ["script"] [] → mg "_law_pool" = some (.ref g) → Room k (A.deeper (PyProof.Rows.envOfC "law" (defScope st) s.heap.objs.size f cdv)) →
      PS (cxOf CX0 Pg w K mg base N "law" (defScope st) f cdv A outer s H E).nox s0 (tAsg (tCall (spPool K) [] E0 (tCons (tVar 0) tNil)) (gName 1)))
    (body : ∀ (cdv : Value) (A : Around) (outer : List Env) (s : Shared) (H : Hp) (E : XK), Room k (A.deeper (PyProof.Rows.envOfC "law" (defScope st) s.heap.objs.size f cdv)) → JCs K (cxOf CX0 Pg w K mg base N "law" (defScope st) f cdv A outer s H E).nox rest pb)
    (h3 : 3 ≤ k) (pure : pb (fin fun d => d = .bl true) (none :: some (.fz .pool) :: List.replicate (N.length - 2) none)) : FnOk Pg w K mg base CX0 (k + 1) f fd ["script"] (spLaw K) := by
  refine F.ok S (fun vs H Q E h => ?_) (fun cdv A outer s H vs Q E hr h => ?_)
  · obtain ⟨a, ns, rfl, _⟩ := h
    rfl
  · obtain ⟨a, ns, rfl, hs, hz, q⟩ := h
    obtain ⟨g, gd, g1, g2, g3, g4⟩ := fp.ex
    have f1 := first cdv A outer s H E g gd (g1.mono h3) g2 g3 g4 hr
    obtain ⟨t, h1, h2⟩ := body cdv A outer s H E hr
    refine ⟨_, by rw [hb]; exact pss_cons f1 h1, ?_⟩
    have st0 : (L2.start N [V.ref a])[0]? = some (some (.ref a)) := by simp [L2.start]
    refine ⟨_, st0, a, ns, rfl, hs, hz, fun p r H' hp hr0 l e => ?_⟩
    let G : Hp := fun b => if b = a then H a else none
    have gl : Le G H' := fun b o hb => by
      have hb' : (if b = a then H a else none) = some o := hb
      by_cases z : b = a
      · rw [if_pos z] at hb'
        rw [z]
        exact l _ _ hb'
      · rw [if_neg z] at hb'
        cases hb'
    have gp : G p = none := by
      show (if p = a then H a else none) = none
      by_cases z : p = a
      · rw [if_pos z, ← z]
        exact hp
      · rw [if_neg z]
    have gs : SqL K G a (ns.map V.int) := by
      have ga : G a = H a := if_pos rfl
      rcases hs with (h | ⟨o, h⟩) | h
      · exact .inl (.inl (ga.trans h))
      · exact .inl (.inr ⟨o, ga.trans h⟩)
      · exact .inr h
    have wf : Wf K (some p) H' G := ⟨gl, fun q' e' => by
      cases e'
      exact ⟨⟨a, ns, 0, r, 0, e, gs, hz, by omega, hr0, by omega⟩, gp⟩⟩
    have S' : SR K (some p) G H' (none :: some (.fz .pool) :: List.replicate (N.length - 2) none) ((L2.start N [V.ref a]).set 1 (some (.ref p))) H' G := by
      refine ⟨wf, .refl, fun q' e' => ?_, ?_, fun i d hd => ?_, fun i d hd => ?_, fun i j d e p h1 => ?_, fun i q d h1 => ?_⟩
      · cases e'
        exact ⟨_, e⟩
      · simp [L2.start]
        omega
      · match i, hd with
        | 1, hd =>
          cases hd
          exact ⟨_, List.getElem?_set_self (by simp [L2.start]; omega), .pool rfl⟩
        | i + 2, hd =>
          have hd' : (List.replicate (N.length - 2) (none : Option Sl))[i]? = some (some (.fz d)) := hd
          rw [List.getElem?_replicate] at hd'
          split at hd' <;> cases hd'
      · match i, hd with
        | i + 2, hd =>
          have hd' : (List.replicate (N.length - 2) (none : Option Sl))[i]? = some (some (.mu d)) := hd
          rw [List.getElem?_replicate] at hd'
          split at hd' <;> cases hd'
      · match i, h1 with
        | i + 2, hd =>
          have hd' : (List.replicate (N.length - 2) (none : Option Sl))[i]? = some (some (.mu d)) := hd
          rw [List.getElem?_replicate] at hd'
          split at hd' <;> cases hd'
      · match i, h1 with
        | i + 2, hd =>
          have hd' : (List.replicate (N.length - 2) (none : Option Sl))[i]? = some (some (.hd q d)) := hd
          rw [List.getElem?_replicate] at hd'
          split at hd' <;> cases hd'
    refine h2 (some p) G H' _ _ H' G S' (fin fun d => d = .bl true) _ ⟨fun _ _ _ _ _ _ (z : D.non = D.bl true) => (by cases z), fun _ _ _ _ _ _ (z : False) => z.elim, fun _ _ _ _ _ _ (z : False) => z.elim, fun d v H2 G2 _ _ _ rr (z : d = .bl true) => ?_⟩ pure
    subst z
    rw [rr.bl_inv]
    exact q _
end
theorem walk_end {l : PySem.W.OpenLaw} {q : Program} {loose : List Str} {XP : (Str → Option Value) → Heap → Prop} {YP : World → Heap → Prop} {d : DefRec} {K : Params → PySem.W.Frag} {lev : Nat} (hr : Room lev callerA) (hn : l.most = some 63) (hdf : d.params.defaults = [])
    (hY : ∀ (w : World) (h : Heap), YP w h → (K w.params).In h)
    (F : ∀ (w : World) (mg : Str → Option Value) (fa : Addr) (h : Heap), (K w.params).In h → h.Ns mainGlobals mg → mg d.name = some (.ref fa) →
      ∃ fd : FuncData, (∀ (s : Shared) (u : Value), BindsTo s fd ⟨[u], []⟩ [("script", u)]) ∧ ∀ base : Heap, (K w.params).In base → base.Ns mainGlobals mg → FnOk l.prog w (K w.params) mg base CX0 lev fa fd ["script"] (spLaw (K w.params))) :
    PySem.W.WalkO q loose XP YP l.row.toRowW d [] (fun f vs => PySem.call f vs) :=
  L2.walk_of (n := 63) (k := lev) (x := "script") (CX := fun _ => CX0) (sp := fun w => spLaw (K w.params)) hn (by decide) hdf hr hY F (fun _ _ a ns hl _ hS => ⟨a, ns, rfl, hS, hl, fun _ => rfl⟩) fun _ _ _ _ _ z => z
end Pv
namespace Pv
open PySem PySem.Spec L2
/-- nothing is asked with no call left -/
theorem rec0 {Pg : Program} {w : World} {K : PySem.W.Frag} {mg : Str → Option Value} {base : Heap} {k : Nat} {x : Str} {st : Stmt} {f : Addr} {fd : FuncData} {prs : List Str} {ps : PSpec} (F : Fun K x x st f fd) (b : Binds K fd prs []) (m : mg x = some (.ref f)) (h : ∀ ds Q, ¬ ps ds Q) : Fo Pg w K mg base k x prs ps := by
  have no : ∀ vs H Q E, ¬ mkSp K ps vs H Q E := fun vs H Q E ⟨_, _, _, _, _, _, z, _⟩ => h _ _ z
  exact ⟨f, fd, ⟨fun vs H Q E z => absurd z (no vs H Q E), fun A outer s H args us vs Q E _ _ _ _ z => absurd z (no vs H Q E)⟩, F.kp, b, m⟩
end Pv
/-! PvM: plain rules for loops, comprehensions; sizes; sorted ints. No program in sight. -/
namespace Pv
open PySem PySem.Spec L2

theorem Br.both {c : Bool} {A B : Prop} (h : if c = true then A else B) : Br c A B := by
  cases c with
  | true => exact ⟨fun _ => h, fun e => (nomatch e)⟩
  | false => exact ⟨fun e => (nomatch e), fun _ => h⟩
theorem Br.yes {c : Bool} {A B : Prop} (e : c = true) (h : A) : Br c A B := ⟨fun _ => h, fun z => (by rw [e] at z; cases z)⟩
theorem Br.no {c : Bool} {A B : Prop} (e : c = false) (h : B) : Br c A B := ⟨fun z => (by rw [e] at z; cases z), fun _ => h⟩

/-! ### loops -/
theorem xLoop_t {α : Type} {t : PTg} {ks : List Nat} {body : PSt} {F : Fx} (enc : α → D) (I : List α → En → Prop)
    (hs : ∀ x xs env, I (x :: xs) env → ∀ F' : Fx, F'.rt = F.rt → F'.bk = F.nx → (∀ e, I xs (wipeE e ks) → F'.nx e) → (∀ e, I xs (wipeE e ks) → F'.ct e) → t (enc x) env (body F'))
    (hn : ∀ env, I [] env → F.nx env) : ∀ (xs : List α) (env : En), I xs env → xLoop t ks body F (xs.map enc) env
  | [], env, h => hn env h
  | x :: xs, env, h => hs x xs env h { nx := fun e => xLoop t ks body F (xs.map enc) (wipeE e ks), ct := fun e => xLoop t ks body F (xs.map enc) (wipeE e ks), bk := F.nx, rt := F.rt } rfl rfl
      (fun e z => xLoop_t enc I hs hn xs _ z) (fun e z => xLoop_t enc I hs hn xs _ z)
theorem xLoop_n {t : PTg} {ks : List Nat} {body : PSt} {F : Fx} {lo n : Int} {env : En} (m : Nat) (hm : (n - lo).toNat = m) (I : Nat → En → Prop)
    (hs : ∀ j env, j < m → I j env → ∀ F' : Fx, F'.rt = F.rt → F'.bk = F.nx → (∀ e, I (j + 1) (wipeE e ks) → F'.nx e) → (∀ e, I (j + 1) (wipeE e ks) → F'.ct e) → t (.int (lo + (j : Nat))) env (body F'))
    (hn : ∀ env, I m env → F.nx env) (h : I 0 env) : xLoop t ks body F (xRange lo n) env := by
  subst hm
  generalize hM : (n - lo).toNat = m at hs hn
  unfold xRange
  rw [hM]
  refine xLoop_t (fun i : Nat => D.int (lo + (i : Nat))) (fun xs env => ∃ j, xs = (List.range m).drop j ∧ j ≤ m ∧ I j env) ?_ ?_ _ _ ⟨0, rfl, Nat.zero_le _, h⟩
  · rintro x xs env ⟨j, e, hj, hI⟩ F' hr hk h1 h2
    have hl := congrArg List.length e
    rw [List.length_cons, List.length_drop, List.length_range] at hl
    have hjm : j < m := by omega
    rw [List.drop_eq_getElem_cons (by rw [List.length_range]; exact hjm), List.getElem_range] at e
    injection e with e1 e2
    subst e1
    exact hs x env hjm hI F' hr hk (fun e z => h1 e ⟨x + 1, e2, hjm, z⟩) (fun e z => h2 e ⟨x + 1, e2, hjm, z⟩)
  · rintro env ⟨j, e, hj, hI⟩
    have hl := congrArg List.length e
    rw [List.length_nil, List.length_drop, List.length_range] at hl
    have : j = m := by omega
    subst this
    exact hn env hI
/-- with a break: what holds behind the loop -/
theorem xLoop_nb {t : PTg} {ks : List Nat} {body : PSt} {F : Fx} {lo n : Int} {env : En} (m : Nat) (hm : (n - lo).toNat = m) (I : Nat → En → Prop) (B : En → Prop)
    (hs : ∀ j env, j < m → I j env → ∀ F' : Fx, F'.rt = F.rt → (∀ e, B e → F'.bk e) → (∀ e, I (j + 1) (wipeE e ks) → F'.nx e) → (∀ e, I (j + 1) (wipeE e ks) → F'.ct e) → t (.int (lo + (j : Nat))) env (body F'))
    (hn : ∀ env, I m env → B env) (hB : ∀ env, B env → F.nx env) (h : I 0 env) : xLoop t ks body F (xRange lo n) env :=
  xLoop_n m hm I (fun j env hj hI F' hr hk h1 h2 => hs j env hj hI F' hr (fun e z => by rw [hk]; exact hB e z) h1 h2) (fun env z => hB env (hn env z)) h
theorem xLoop_tb {α : Type} {t : PTg} {ks : List Nat} {body : PSt} {F : Fx} (enc : α → D) (I : List α → En → Prop) (B : En → Prop)
    (hs : ∀ x xs env, I (x :: xs) env → ∀ F' : Fx, F'.rt = F.rt → (∀ e, B e → F'.bk e) → (∀ e, I xs (wipeE e ks) → F'.nx e) → (∀ e, I xs (wipeE e ks) → F'.ct e) → t (enc x) env (body F'))
    (hn : ∀ env, I [] env → B env) (hB : ∀ env, B env → F.nx env) (xs : List α) (env : En) (h : I xs env) : xLoop t ks body F (xs.map enc) env :=
  xLoop_t enc I (fun x xs env hI F' hr hk h1 h2 => hs x xs env hI F' hr (fun e z => by rw [hk]; exact hB e z) h1 h2) (fun env z => hB env (hn env z)) xs env h
theorem xWhile_t {t : PTt} {ks : List Nat} {body : PSt} {F : Fx} (I : Nat → En → Prop)
    (hs : ∀ n env, I n env → t env fun b => Br b (∃ m, n = m + 1 ∧ ∀ F' : Fx, F'.rt = F.rt → F'.bk = F.nx → (∀ e, I m (wipeE e ks) → F'.nx e) → (∀ e, I m (wipeE e ks) → F'.ct e) → body F' env) (F.nx env))
    (ht : ∀ env (A B : Bool → Prop), (∀ b, A b → B b) → t env A → t env B) : ∀ (n : Nat) (env : En), I n env → xWhileN t ks body F (n + 1) env
  | 0, env, h => by
    refine ht env _ _ (fun b z => ⟨fun e => ?_, fun e => z.2 e⟩) (hs 0 env h)
    obtain ⟨m, hm, _⟩ := z.1 e
    omega
  | n + 1, env, h => by
    refine ht env _ _ (fun b z => ⟨fun e => ?_, fun e => z.2 e⟩) (hs (n + 1) env h)
    obtain ⟨m, hm, hb⟩ := z.1 e
    have : m = n := by omega
    subst this
    exact hb _ rfl rfl (fun e z => xWhile_t I hs ht m _ z) (fun e z => xWhile_t I hs ht m _ z)

/-! ### comprehensions -/
theorem xLc_t {α : Type} {t : PTg} {c : PTt} {elt : PX} {env : En} {Q : D → Prop} (enc : α → D) (p : α → Bool) (g : α → D) : ∀ (xs : List α) (acc : List D),
    (∀ x ∈ xs, ∀ (R1 : D → Prop) (R0 : Prop), (p x = true → R1 (g x)) → (p x = false → R0) → t (enc x) env fun env' => c env' fun b => Br b (elt env' R1) R0) →
    Q (.lst (acc ++ (xs.filter p).map g)) → xLcL t c elt env Q (xs.map enc) acc
  | [], acc, _, q => by
    rw [List.filter_nil, List.map_nil, List.append_nil] at q
    exact q
  | x :: xs, acc, h, q => by
    refine h x List.mem_cons_self _ _ (fun e => ?_) (fun e => ?_)
    · refine xLc_t enc p g xs _ (fun y hy => h y (List.mem_cons_of_mem _ hy)) ?_
      rw [List.filter_cons_of_pos e, List.map_cons] at q
      rw [List.append_assoc]
      exact q
    · refine xLc_t enc p g xs _ (fun y hy => h y (List.mem_cons_of_mem _ hy)) ?_
      rw [List.filter_cons_of_neg (by rw [e]; exact Bool.false_ne_true)] at q
      exact q
theorem xLc_m {α : Type} {i : Nat} {elt : PX} {env : En} {Q : D → Prop} (enc : α → D) (g : α → D) (xs : List α)
    (h : ∀ x ∈ xs, ∀ R : D → Prop, R (g x) → elt (env.set i (some (.fz (enc x)))) R) (q : Q (.lst (xs.map g))) : xLcL (xTg i) xYes elt env Q (xs.map enc) [] :=
  xLc_t enc (fun _ => true) g xs [] (fun x hx R1 R0 r1 _ => ⟨fun _ => h x hx R1 (r1 rfl), fun e => (nomatch e)⟩) (by rw [List.nil_append, List.filter_eq_self.mpr fun _ _ => rfl]; exact q)

/-! ### sizes -/
def Sm (n : Nat) (i : Int) : Prop := i.natAbs < 2 ^ n
theorem Sm.mono {m n : Nat} {i : Int} (h : Sm m i) (l : m ≤ n) : Sm n i := Nat.lt_of_lt_of_le h (Nat.pow_le_pow_right (by omega) l)
theorem Sm.mul {m n : Nat} {i j : Int} (h : Sm m i) (k : Sm n j) : Sm (m + n) (i * j) := by
  unfold Sm at *
  rw [Int.natAbs_mul, Nat.pow_add]
  exact Nat.mul_lt_mul'' h k
theorem Sm.add {n : Nat} {i j : Int} (h : Sm n i) (k : Sm n j) : Sm (n + 1) (i + j) := by
  unfold Sm at *
  have := Int.natAbs_add_le i j
  rw [Nat.pow_succ]
  omega
theorem Sm.div {n : Nat} {i : Int} {k : Nat} (h : Sm n i) : Sm n (i / (k : Int)) := by
  refine Nat.lt_of_le_of_lt ?_ h
  exact Int.natAbs_ediv_le_natAbs _ _
theorem Sm.log {n : Nat} {i : Int} (h : Sm n i) (p : 0 < n) : i.natAbs.log2 < n := by
  by_cases z : i.natAbs = 0
  · rw [z]
    simpa using p
  · exact (Nat.log2_lt z).mpr h
theorem Sm.le {n : Nat} {i : Int} {m : Nat} (h : i.natAbs ≤ m) (k : m < 2 ^ n) : Sm n i := Nat.lt_of_le_of_lt h k
theorem mulOk_s {m n : Nat} {i j : Int} (h : Sm m i) (k : Sm n j) (hm : 0 < m) (hn : 0 < n) (l : m + n ≤ 1000000) : mulOk i j := .inr (by
  have := h.log hm
  have := k.log hn
  unfold CMulW
  omega)
theorem mulOk_i {i j : Int} (h : -18446744073709551616 < i) (k : i < 18446744073709551616) : mulOk i j := .inl (.inl ⟨h, k⟩)
theorem mulOk_j {i j : Int} (h : -18446744073709551616 < j) (k : j < 18446744073709551616) : mulOk i j := .inl (.inr ⟨h, k⟩)
theorem divOk_s {n : Nat} {j : Int} (p : 0 < j) (h : Sm n j) (l : n ≤ 9000) : divOk j := ⟨p, by
  by_cases z : n = 0
  · subst z
    unfold Sm at h
    omega
  · have := h.log (by omega)
    omega⟩
theorem divOk_l {j : Int} (p : 0 < j) (h : j < 18446744073709551616) : divOk j := divOk_s (n := 64) p (Sm.le (m := 18446744073709551615) (by omega) (by decide)) (by decide)

/-! ### sorted ints -/
theorem ltD_int (i j : Int) : ltD (.int i) (.int j) = decide (i < j) := PySem.W.dataLt_int i j
theorem leD_int (i j : Int) : leD (.int i) (.int j) = decide (i ≤ j) := by
  unfold leD
  rw [ltD_int]
  by_cases h : j < i
  · simp [h, Int.not_le.mpr h]
  · simp [h, Int.not_lt.mp h]
theorem alk_int (i j : Int) : alk (.int i) (.int j) = true := by
  unfold alk
  simp [py, PySem.W.alike]
def srtI (xs : List Int) : List Int := xs.mergeSort fun a b => decide (a ≤ b)
theorem srtI_perm (xs : List Int) : (srtI xs).Perm xs := List.mergeSort_perm _ _
theorem srtI_le (xs : List Int) : (srtI xs).Pairwise (· ≤ ·) := by
  have := List.pairwise_mergeSort (le := fun a b : Int => decide (a ≤ b)) (fun a b c h k => by simp at *; omega) (fun a b => by simp; omega) xs
  exact this.imp fun h => by simpa using h
theorem srtI_eq {xs ys : List Int} (p : ys.Perm xs) (s : ys.Pairwise (· ≤ ·)) : srtI xs = ys :=
  List.Perm.eq_of_pairwise (fun a b _ _ h k => Int.le_antisymm h k) (srtI_le xs) s ((srtI_perm xs).trans p.symm)
theorem sortD_int (xs : List Int) : (xs.map D.int).mergeSort leD = (srtI xs).map D.int := by
  unfold srtI
  rw [List.map_mergeSort (r := fun a b => decide (a ≤ b)) (s := leD) (f := D.int) (l := xs) (fun a _ b _ => (leD_int a b).symm)]
theorem sorted_int {xs : List Int} {Q : D → Prop} (q : Q (.lst ((srtI xs).map D.int))) : oSorted [.lst (xs.map D.int)] Q := by
  refine oSorted_mk ?_ ?_ ?_ ?_
  · rw [List.all_eq_true]
    intro d h
    obtain ⟨i, _, rfl⟩ := List.mem_map.mp h
    rfl
  · intro a ha b hb
    obtain ⟨i, _, rfl⟩ := List.mem_map.mp ha
    obtain ⟨j, _, rfl⟩ := List.mem_map.mp hb
    exact alk_int i j
  · refine .inr fun d h => ?_
    obtain ⟨i, _, rfl⟩ := List.mem_map.mp h
    exact ⟨nofun, nofun⟩
  · rw [sortD_int]
    exact q

/-! ### places -/
theorem atI_at {α : Type} {xs : List α} {i : Nat} {d : α} (h : xs[i]? = some d) : L2.atI xs (i : Int) = some d := by
  have hl : i < xs.length := by
    have := List.getElem?_eq_some_iff.mp h
    exact this.1
  unfold L2.atI L2.ixN
  rw [if_pos (by omega), if_pos (by omega)]
  simpa using h
theorem erIdx_perm {α : Type} : ∀ (xs : List α) (i : Nat) (h : i < xs.length), (xs[i] :: xs.eraseIdx i).Perm xs
  | x :: xs, 0, h => List.Perm.refl _
  | x :: xs, i + 1, h => by
    have h' : i < xs.length := Nat.lt_of_succ_lt_succ h
    exact (List.Perm.swap x xs[i] _).trans (List.Perm.cons x (erIdx_perm xs i h'))
/-! ### slices, ranges -/
theorem cut_to {xs : List D} {k : Nat} (h : k ≤ xs.length) : cutD xs none (some (k : Int)) = xs.take k := by
  unfold cutD
  rw [HT.sIx_none, HT.sIx_nat, List.drop_zero, Nat.min_eq_left h, Nat.sub_zero]
theorem cut_from {xs : List D} {k : Nat} (h : k ≤ xs.length) : cutD xs (some (k : Int)) none = xs.drop k := by
  unfold cutD
  rw [HT.sIx_none, HT.sIx_nat, Nat.min_eq_left h]
  exact List.take_of_length_le (by rw [List.length_drop]; omega)
def rgI (n : Nat) : List Int := (List.range n).map fun i : Nat => (i : Int)
theorem xRange_0 (n : Nat) : xRange 0 (n : Int) = (rgI n).map D.int := by
  unfold xRange rgI
  rw [List.map_map, Int.sub_zero, Int.toNat_natCast]
  exact List.map_congr_left fun i _ => by simp
theorem rgI_len (n : Nat) : (rgI n).length = n := by
  unfold rgI
  rw [List.length_map, List.length_range]
theorem rgI_le (n : Nat) : (rgI n).Pairwise (· ≤ ·) := by
  unfold rgI
  rw [List.pairwise_map]
  exact List.Pairwise.imp (fun h => by omega) List.pairwise_lt_range
theorem rgI_nodup (n : Nat) : (rgI n).Nodup := by
  unfold rgI List.Nodup
  rw [List.pairwise_map]
  exact List.Pairwise.imp (fun h => by omega) List.pairwise_lt_range
theorem perm_map {α β : Type} (f : α → β) {ys zs : List β} (p : List.Perm ys zs) : ∀ xs : List α, zs = xs.map f → ∃ ws, List.Perm ws xs ∧ ys = ws.map f := by
  induction p with
  | nil =>
    intro xs e
    exact ⟨[], by rw [List.map_eq_nil_iff.mp e.symm], rfl⟩
  | cons x p ih =>
    intro xs e
    cases xs with
    | nil => cases e
    | cons a xs =>
      injection e with e1 e2
      obtain ⟨ws, h1, h2⟩ := ih xs e2
      exact ⟨a :: ws, h1.cons a, by rw [List.map_cons, e1, h2]⟩
  | swap x y l =>
    intro xs e
    cases xs with
    | nil => cases e
    | cons a xs =>
      cases xs with
      | nil => cases e
      | cons b xs =>
        injection e with e1 e2
        injection e2 with e2 e3
        subst e1
        subst e2
        subst e3
        exact ⟨b :: a :: xs, List.Perm.swap a b xs, rfl⟩
  | trans p q ih1 ih2 =>
    intro xs e
    obtain ⟨ws, h1, h2⟩ := ih2 xs e
    obtain ⟨us, h3, h4⟩ := ih1 ws h2
    exact ⟨us, h3.trans h1, h4⟩
theorem perm_sum {xs ys : List Int} (p : List.Perm xs ys) : xs.sum = ys.sum := by
  induction p with
  | nil => rfl
  | cons x p ih => rw [List.sum_cons, List.sum_cons, ih]
  | swap x y l =>
    rw [List.sum_cons, List.sum_cons, List.sum_cons, List.sum_cons]
    omega
  | trans p q h k => exact h.trans k
/-- the first place of k -/
def idx (k : Int) : List Int → Nat
  | [] => 0
  | x :: xs => if x = k then 0 else idx k xs + 1
theorem idx_at {k : Int} : ∀ {xs : List Int}, k ∈ xs → xs[idx k xs]? = some k
  | x :: xs, h => by
    unfold idx
    by_cases e : x = k
    · rw [if_pos e, e]
      rfl
    · rw [if_neg e, List.getElem?_cons_succ]
      exact idx_at ((List.mem_cons.mp h).resolve_left fun z => e z.symm)
theorem idx_lt {k : Int} {xs : List Int} (h : k ∈ xs) : idx k xs < xs.length := (List.getElem?_eq_some_iff.mp (idx_at h)).1
theorem idx_before {k : Int} : ∀ {xs : List Int} {m : Nat}, m < idx k xs → xs[m]? ≠ some k
  | [], m, h => by simp
  | x :: xs, m, h => by
    unfold idx at h
    by_cases e : x = k
    · rw [if_pos e] at h
      omega
    · rw [if_neg e] at h
      cases m with
      | zero => simpa using e
      | succ m =>
        rw [List.getElem?_cons_succ]
        exact idx_before (by omega)
theorem idx_of {k : Int} {xs : List Int} {j : Nat} (h : xs[j]? = some k) (b : ∀ m, m < j → xs[m]? ≠ some k) : idx k xs = j := by
  have hk : k ∈ xs := List.mem_of_getElem? h
  rcases Nat.lt_trichotomy (idx k xs) j with z | z | z
  · exact absurd (idx_at hk) (b _ z)
  · exact z
  · exact absurd h (idx_before z)
/-! ### lists of ints as data -/
def liE (xs : List Int) : D := .lst (xs.map D.int)
theorem pyL_map {α : Type} (f : α → D) : ∀ xs : List α, pyL (xs.map f) = xs.map fun x => py (f x)
  | [] => rfl
  | x :: xs => by rw [List.map_cons, List.map_cons, pyL, pyL_map f xs]
theorem alk_li (xs ys : List Int) : alk (liE xs) (liE ys) = true := by
  unfold alk liE
  rw [py, py, pyL_map, pyL_map]
  exact PySem.W.DatumOrd.alike xs ys
theorem pl_ints (n : Nat) (xs : List Int) : (xs.map D.int).all (pl n) = true := by
  rw [List.all_eq_true]
  intro d h
  obtain ⟨i, _, rfl⟩ := List.mem_map.mp h
  unfold pl
  rfl
theorem pl_li (n : Nat) (xs : List Int) : pl (n + 1) (liE xs) = true := pl_ints n xs
theorem index_int {xs : List Int} {k : Int} (h : k ∈ xs) : (xs.map D.int).all (pl 15) = true ∧ pl 16 (.int k) = true ∧ idx k xs < (xs.map D.int).length ∧ (∀ z, (xs.map D.int)[idx k xs]? = some z → eqD z (.int k) = true) ∧ (∀ m z, m < idx k xs → (xs.map D.int)[m]? = some z → eqD z (.int k) = false) := by
  refine ⟨pl_ints _ _, rfl, by rw [List.length_map]; exact idx_lt h, fun z e => ?_, fun m z hm e => ?_⟩
  · rw [List.getElem?_map, idx_at h] at e
    cases e
    exact eqD_int.trans (decide_eq_true rfl)
  · have hb := idx_before hm
    rw [List.getElem?_map] at e
    cases hx : xs[m]? with
    | none => rw [hx] at e; cases e
    | some x =>
      rw [hx] at e hb
      cases e
      exact eqD_int.trans (decide_eq_false fun z => hb (by rw [z]))
theorem xRng_ok {n : Nat} (h : n ≤ 1000000000) : -4611686018427387904 ≤ (n : Int) ∧ (n : Int) < 4611686018427387904 := ⟨by omega, by omega⟩
/-- lists of ints, in whatever order: some order of them comes back -/
theorem sorted_li {xs : List (List Int)} {Q : D → Prop} (q : ∀ ys, List.Perm ys xs → Q (.lst (ys.map liE))) : oSorted [.lst (xs.map liE)] Q := by
  refine oSorted_mk ?_ ?_ ?_ ?_
  · rw [List.all_eq_true]
    intro d h
    obtain ⟨i, _, rfl⟩ := List.mem_map.mp h
    exact pl_li 14 i
  · intro a ha b hb
    obtain ⟨i, _, rfl⟩ := List.mem_map.mp ha
    obtain ⟨j, _, rfl⟩ := List.mem_map.mp hb
    exact alk_li i j
  · refine .inr fun d h => ?_
    obtain ⟨i, _, rfl⟩ := List.mem_map.mp h
    exact ⟨nofun, nofun⟩
  · obtain ⟨ws, h1, h2⟩ := perm_map liE (List.mergeSort_perm (xs.map liE) leD) xs rfl
    rw [h2]
    exact q ws h1
/-! ### draws -/
theorem draw_c {n : Int} {Q : D → Prop} (h : 0 < n) (h2 : n < 1073741824) (q : ∀ v : Nat, (v : Int) < n → Q (.int v)) : ∃ Q0, s__law_draw [.pool, .int n] Q0 ∧ ∀ d, Q0 d → Q d :=
  ⟨Q, ⟨n, rfl, h, h2, fun v h0 h1 => by have := q v.toNat (by omega); rwa [Int.toNat_of_nonneg h0] at this⟩, fun _ h => h⟩
theorem next_c {Q : D → Prop} (q : Q .non) : ∃ Q0, s__law_next [.pool] Q0 ∧ ∀ d, Q0 d → Q d := ⟨Q, ⟨rfl, q⟩, fun _ h => h⟩
/-- a call whose spec fits -/
theorem call_c {sp : PSpec} {ds : List D} {Q : D → Prop} (h : sp ds Q) : ∃ Q0, sp ds Q0 ∧ ∀ d, Q0 d → Q d := ⟨Q, h, fun _ h => h⟩
end Pv
/-! PvR: fractions in lowest terms, as pairs of ints. -/
namespace Pv
open PySem PySem.Spec L2

abbrev Fr := Int × Int
def frE (a : Fr) : D := .tup [.int a.1, .int a.2]
def gcdI (p q : Int) : Int := ((Nat.gcd p.natAbs q.natAbs : Nat) : Int)
def frMk (p q : Int) : Fr := (p / gcdI p q, q / gcdI p q)
def frAdd (a b : Fr) : Fr := frMk (a.1 * b.2 + b.1 * a.2) (a.2 * b.2)
/-- a fraction of at most n bits above and below -/
def FrOk (n : Nat) (a : Fr) : Prop := 0 < a.2 ∧ Sm n a.1 ∧ Sm n a.2
theorem gcdI_pos {p q : Int} (h : 0 < q) : 0 < gcdI p q := by
  unfold gcdI
  have := Nat.gcd_pos_of_pos_right p.natAbs (n := q.natAbs) (by omega)
  omega
theorem gcdI_le {p q : Int} (h : 0 < q) : gcdI p q ≤ q := by
  unfold gcdI
  have := Nat.gcd_le_right p.natAbs (n := q.natAbs) (by omega)
  omega
theorem gcdI_sm {n : Nat} {p q : Int} (h : 0 < q) (k : Sm n q) : Sm n (gcdI p q) := by
  have h1 := gcdI_pos (p := p) h
  have h2 := gcdI_le (p := p) h
  exact Nat.lt_of_le_of_lt (by omega) k
theorem gcdI_abs (p q : Int) : gcdI (if p < 0 then -p else p) q = gcdI p q := by
  unfold gcdI
  split
  · rw [Int.natAbs_neg]
  · rfl
theorem frMk_ok {n : Nat} {p q : Int} (hp : Sm n p) (hq : Sm n q) (h : 0 < q) : FrOk n (frMk p q) := by
  have h1 := gcdI_pos (p := p) h
  refine ⟨?_, ?_, ?_⟩
  · have h2 : gcdI p q ∣ q := by
      unfold gcdI
      exact Int.ofNat_dvd_left.mpr (Nat.gcd_dvd_right _ _)
    exact Int.ediv_pos_of_pos_of_dvd h (Int.le_of_lt h1) h2
  · exact Sm.div hp
  · exact Sm.div hq
theorem frAdd_ok {m n : Nat} {a b : Fr} (ha : FrOk m a) (hb : FrOk n b) : FrOk (m + n + 1) (frAdd a b) := by
  refine frMk_ok ?_ ?_ (Int.mul_pos ha.1 hb.1)
  · refine Sm.add (ha.2.1.mul hb.2.2) ?_
    rw [Nat.add_comm m n]
    exact hb.2.1.mul ha.2.2
  · exact (ha.2.2.mul hb.2.2).mono (by omega)
theorem FrOk.mono {m n : Nat} {a : Fr} (h : FrOk m a) (l : m ≤ n) : FrOk n a := ⟨h.1, h.2.1.mono l, h.2.2.mono l⟩
def frSum (xs : List Fr) : Fr := xs.foldl frAdd (0, 1)
theorem fr0_ok : FrOk 1 ((0, 1) : Fr) := ⟨by decide, (by unfold Sm; decide), (by unfold Sm; decide)⟩
/-- Euclid's steps -/
theorem mod_half {a b : Nat} (h : 0 < a % b) (hb : 0 < b) : 2 * (b % (a % b)) < b := by
  have h1 := Nat.mod_lt b h
  have h2 := Nat.mod_lt a hb
  have h3 := Nat.div_add_mod b (a % b)
  have h4 : 1 ≤ b / (a % b) := (Nat.one_le_div_iff h).mpr (Nat.le_of_lt h2)
  have h5 : (a % b) * 1 ≤ (a % b) * (b / (a % b)) := Nat.mul_le_mul_left _ h4
  omega
theorem emod_natAbs {a b : Int} (ha : 0 ≤ a) (hb : 0 ≤ b) : (a % b).natAbs = a.natAbs % b.natAbs := by
  rw [← Int.toNat_of_nonneg ha, ← Int.toNat_of_nonneg hb]
  generalize a.toNat = m
  generalize b.toNat = n
  rw [← Int.natCast_emod, Int.natAbs_natCast, Int.natAbs_natCast, Int.natAbs_natCast]
theorem gcdI_step {a b : Int} (ha : 0 ≤ a) (hb : 0 ≤ b) : gcdI b (a % b) = gcdI a b := by
  unfold gcdI
  rw [emod_natAbs ha hb, Nat.gcd_comm b.natAbs, ← Nat.gcd_rec, Nat.gcd_comm]
/-- Euclid ends within n steps -/
def Eu : Nat → Nat → Nat → Prop
  | 0, _, b => b = 0
  | n + 1, a, b => b = 0 ∨ Eu n b (a % b)
theorem Eu_of : ∀ (k a b : Nat), b < 2 ^ k → Eu (2 * k) a b
  | 0, a, b, h => by
    show b = 0
    omega
  | k + 1, a, b, h => by
    show Eu (2 * k + 1 + 1) a b
    by_cases z : b = 0
    · exact .inl z
    · refine .inr ?_
      by_cases y : a % b = 0
      · exact .inl y
      · refine .inr (Eu_of k _ _ ?_)
        have := mod_half (a := a) (b := b) (by omega) (by omega)
        rw [Nat.pow_succ] at h
        omega
theorem gcdI_zero {a : Int} (ha : 0 ≤ a) : gcdI a 0 = a := by
  unfold gcdI
  simp
  omega
end Pv
/-! PvL: xs + ys as a new list. -/
namespace Pv
open PySem PySem.Spec L2
section
variable {K : PySem.W.Frag} {X : Cx}
/-- an operator whose answer is a new object -/
def OpFr (K : PySem.W.Frag) (r : R2) (o : O2) : Prop := ∀ (P : Option Addr) (H G : Hp) (x y : V) (a b : D), Wf K P H G → RepW K P G H x a → RepW K P G H y b → ∀ Q, o a b Q → ∀ R : VK,
  (∀ d p u, Q d → H p = none → Cont K P G u d → R (.ref p) (upd H p u)) → r x y H R
def oCat : O2 := fun a b Q => match a, b with
  | .lst xs, .lst ys => xs.length + ys.length ≤ 16777216 ∧ Q (.lst (xs ++ ys))
  | _, _ => False
theorem s_catF : OpFr K (rAddA K) oCat := fun P H G x y a b w rx ry Q q R k => by
  cases a with
  | lst xs =>
    cases b with
    | lst ys =>
      obtain ⟨l, vs, e1, h1, r1⟩ := rx.lst_inv w
      obtain ⟨m, us, e2, h2, r2⟩ := ry.lst_inv w
      exact .inr (.inl ⟨l, m, vs, us, e1, e2, h1, h2, by rw [r1.len, r2.len]; exact szle q.1, fun p hp => k _ p _ q.2 hp (.lst (r1.append r2))⟩)
    | _ => exact False.elim q
  | _ => cases b <;> exact False.elim q
theorem j_catF {a b : Expr} {ta tb : TE} {pa pb : PX} {pos : Pos} (ha : JW K X a ta pa) (hb : JW K X b tb pb) (kk : X.K = K := by rfl) : JF K X (.BinOp a .Add b pos) (tOp (rAddA K) ta tb) (xOp oCat pa pb) := by
  subst kk
  refine ⟨pe_op op_addA ha.1 hb.1, fun P G0 H0 env σ H G S Q hq R k => ha.2 P G0 H0 env σ H G S _ hq _ fun d v H1 G1 q1 u1 w1 r1 => hb.2 P G0 H0 env σ H1 G1 (S.step u1 w1) _ q1 _ fun e y H2 G2 q2 u2 w2 r2 => s_catF P H2 G2 v y d e w2 (r1.up u2) r2 Q q2 R fun z p u q3 hp c => ?_⟩
  have up := u1.trans u2
  exact k z p u _ G2 q3 (up.trans (Up.new hp)) (w2.new hp) (up.back hp) upd_same (w2.no hp) c
end
theorem tru_mono {i : Nat} : ∀ (env : En) (A B : Bool → Prop), (∀ b, A b → B b) → xTru (xVar i) env A → xTru (xVar i) env B := fun env A B h => by
  unfold xTru xVar
  split
  · exact fun ⟨b, e, q⟩ => ⟨b, e, h b q⟩
  · exact id
theorem xLc_d {i : Nat} {elt : PX} {env : En} {Q : D → Prop} (g : D → D) (ds : List D) (h : ∀ x ∈ ds, ∀ R : D → Prop, R (g x) → elt (env.set i (some (.fz x))) R) (q : Q (.lst (ds.map g))) : xLcL (xTg i) xYes elt env Q ds [] := by
  have := xLc_m (fun d => d) g ds h q
  rwa [List.map_id'] at this
/-- the greatest of a list that is known up to its order -/
theorem maxL_eq {ns : List Int} {m : Int} (h : m ∈ ns) (k : ∀ y ∈ ns, y ≤ m) : maxL ns = m := by
  have hn : ns ≠ [] := List.ne_nil_of_mem h
  obtain ⟨h1, h2⟩ := maxL_spec hn
  have := k _ h1
  have := h2 _ h
  omega
end Pv
/-! PvZ: zip of two lists or tuples, with strict= or without. -/
namespace Pv
open PySem PySem.Spec L2
section
variable {prog : Program} {w : World} {A : Around} {E : Value → Shared → Prop} {s : Shared}
/-- one side: an iterator over a list or a tuple -/
def Side (h : Heap) (it l : Addr) (k : Nat) (vs : Array Value) : Prop := (h.IsListIter it l k ∧ h.IsList l vs) ∨ (h.IsTupleIter it l k ∧ h.IsTuple l vs)
theorem Side.keep {h h' : Heap} {it l : Addr} {k : Nat} {vs : Array Value} (d : Side h it l k vs) (a : ∀ o, h.get? it = some o → h'.get? it = some o) (b : ∀ o, h.get? l = some o → h'.get? l = some o) : Side h' it l k vs :=
  d.imp (fun ⟨p, o, e, r⟩ => ⟨p.at a, o, b o e, r⟩) fun ⟨p, o, e, r⟩ => ⟨p.at a, o, b o e, r⟩
theorem Side.ext {h h' : Heap} {b it l : Addr} {k : Nat} {vs : Array Value} (d : Side h it l k vs) (x : Heap.ExtBut b h h') (n1 : it ≠ b) (n2 : l ≠ b) : Side h' it l k vs := d.keep (fun o e => x _ _ n1 e) fun o e => x _ _ n2 e
theorem Side.lt {h : Heap} {it l : Addr} {k : Nat} {vs : Array Value} (d : Side h it l k vs) : it < h.objs.size := by
  rcases d with ⟨⟨_, e, _⟩, _⟩ | ⟨⟨_, e, _⟩, _⟩ <;> exact Heap.lt_size e
theorem Side.flds {h : Heap} {it l : Addr} {k : Nat} {vs : Array Value} (d : Side h it l k vs) : ∃ o, h.get? it = some o ∧ ∃ f, o.data = .fields f := by
  rcases d with ⟨⟨o, e, _, r⟩, _⟩ | ⟨⟨o, e, _, r⟩, _⟩ <;> exact ⟨o, e, _, r⟩
theorem side_item {it l : Addr} {k : Nat} {vs : Array Value} {v : Value} {Q : Value → Shared → Prop} (d : Side s.heap it l k vs) (ne : l ≠ it) (hv : vs[k]? = some v)
    (q : ∀ g, Side g it l (k + 1) vs → Heap.SameBut it s.heap g → Q v { s with heap := g }) : wpAny (model prog w) A (Builtin.SmallTypes.nextOf (.ref it)) Q E s := by
  rcases d with ⟨d1, d2⟩ | ⟨d1, d2⟩
  · exact wpAny_nextOf_list_item d1 d2 hv fun g a b => q g (.inl ⟨a, d2.extBut b.extBut ne⟩) b
  · exact RZ.nextOf_tuple_item d1 d2 hv fun g a b => q g (.inr ⟨a, d2.extBut b.extBut ne⟩) b
theorem side_end {it l : Addr} {k : Nat} {vs : Array Value} {Q : Value → Shared → Prop} (hh : A.handled = none) (d : Side s.heap it l k vs) (hv : vs[k]? = none)
    (q : ∀ g e, Heap.ExtBut it s.heap g → (∃ o, g.get? e = some o ∧ o.cls = .type "StopIteration") → E (.ref e) { s with heap := g }) : wpAny (model prog w) A (Builtin.SmallTypes.nextOf (.ref it)) Q E s := by
  rcases d with ⟨d1, d2⟩ | ⟨d1, d2⟩
  · exact wpAny_nextOf_list_end hh d1 d2 hv q
  · exact RZ.nextOf_tuple_end hh d1 d2 hv q
/-- a turn of one side, as zip takes it -/
def drawZ (b : Bool) (it : Value) : Sem (Option Value) := if (Value.bool b == Value.bool true) = true then Builtin.SmallTypes.nextOrEnd it else do return some (← Builtin.SmallTypes.nextOf it)
theorem drawZ_item {b : Bool} {it l : Addr} {k : Nat} {vs : Array Value} {v : Value} {Q : Option Value → Shared → Prop} (d : Side s.heap it l k vs) (ne : l ≠ it) (hv : vs[k]? = some v)
    (q : ∀ g, Side g it l (k + 1) vs → Heap.SameBut it s.heap g → Q (some v) { s with heap := g }) : wpAny (model prog w) A (drawZ b (.ref it)) Q E s := by
  cases b with
  | false => exact wpAny_bind (side_item d ne hv fun g a c => wpAny_pure (q g a c))
  | true =>
    show wpAny _ _ (Builtin.SmallTypes.nextOrEnd (.ref it)) _ _ _
    unfold Builtin.SmallTypes.nextOrEnd
    exact wpAny_bind (wpAny_attempt (side_item d ne hv fun g a c => wpAny_pure (q g a c)))
theorem nextOrEnd_none {it l : Addr} {k : Nat} {vs : Array Value} {Q : Option Value → Shared → Prop} (hh : A.handled = none) (d : Side s.heap it l k vs) (hv : vs[k]? = none)
    (q : ∀ g, Heap.ExtBut it s.heap g → Q none { s with heap := g }) : wpAny (model prog w) A (Builtin.SmallTypes.nextOrEnd (.ref it)) Q E s := by
  unfold Builtin.SmallTypes.nextOrEnd
  refine wpAny_bind (wpAny_attempt (side_end hh d hv fun g e c1 c2 => ?_))
  obtain ⟨o, c2, c3⟩ := c2
  refine wpAny_bind (wpAny_isInstance (T := "StopIteration") (b := true) ⟨o, c2, c3⟩ isSubtype_stop ?_)
  exact wpAny_pure (q g c1)
abbrev ZipB (h : Heap) (z p r : Addr) (b : Bool) (f0 : Value) : Prop := h.get? z = some { cls := .type "zip", dict := none, data := .fields #[f0, .bool false, .bool b, .ref p, .ref r], slots := #[] }
theorem zipB_item {z p r i1 i2 l1 l2 : Addr} {b : Bool} {k1 k2 : Nat} {xs ys : Array Value} {x y c d : Value} {Q : Value → Shared → Prop} (D : ZipApart z p r i1 i2 l1 l2)
    (zz : ZipB s.heap z p r b .none) (zp : PySem.IsPair s.heap p (.ref i1) (.ref i2)) (zr : PySem.IsPair s.heap r c d) (d1 : Side s.heap i1 l1 k1 xs) (d2 : Side s.heap i2 l2 k2 ys) (hx : xs[k1]? = some x) (hy : ys[k2]? = some y)
    (q : ∀ g, ZipB g z p r b (rawInt s.heap.objs.size) → PySem.IsPair g r x y → Side g i1 l1 (k1 + 1) xs → Side g i2 l2 (k2 + 1) ys → PySem.IsPair g s.heap.objs.size x y → g.objs.size = s.heap.objs.size + 1 →
      (∀ a o, a ≠ z → a ≠ r → a ≠ i1 → a ≠ i2 → s.heap.get? a = some o → g.get? a = some o) → Q (.ref s.heap.objs.size) { s with heap := g }) :
    wpAny (model prog w) A (Builtin.«zip.__next__» ⟨[.ref z], []⟩) (fun fin s' => ∃ v, fin = .done (.ret v) ∧ Q v s') E s := by
  show wpAny _ _ (field (Value.ref z) 2 >>= _) _ _ _
  refine wpAny_bind (wpAny_field zz rfl (x := .bool b) rfl ?_)
  show wpAny _ _ (field (Value.ref z) 3 >>= _) _ _ _
  refine wpAny_bind (wpAny_field zz rfl (x := .ref p) rfl ?_)
  refine wpAny_bind (wpAny_seqItems zp rfl ?_)
  show wpAny _ _ (Builtin.SmallTypes.ownedTupleIsFree (Value.ref z) >>= _) _ _ _
  refine wpAny_bind ?_
  unfold Builtin.SmallTypes.ownedTupleIsFree
  refine wpAny_bind (wpAny_field zz rfl (x := .none) rfl (wpAny_pure ?_))
  simp only [if_true]
  refine wpAny_bind (wpAny_rule ?_)
  refine wpAny_bind (wpAny_field zz rfl (x := .ref r) rfl ?_)
  refine wpAny_bind (wpAny_setField_rec zz (by simp) fun g1 z1 s1 => ?_)
  replace z1 : ZipB g1 z p r b .ellipsis := z1
  refine wpAny_bind ?_
  simp only [List.zipIdx_cons, List.zipIdx_nil, List.forIn_cons, List.forIn_nil]
  refine wpAny_bind (wpAny_bind (wpAny_onRaise ?_))
  show wpAny _ _ (drawZ b (.ref i1)) _ _ _
  refine drawZ_item (d1.ext s1.extBut D.i1z D.l1z) D.l1i1 hx fun g2 e1 s2 => ?_
  have r2 : PySem.IsPair g2 r c d := s2.extBut _ _ D.TOi1 (s1.extBut _ _ D.TOz zr)
  refine wpAny_bind (wpAny_seqItems r2 rfl ?_)
  refine wpAny_bind (wpAny_updateSeq_pair r2 fun g3 r3 s3 => ?_)
  replace r3 : PySem.IsPair g3 r x d := r3
  refine wpAny_bind (wpAny_letGo (wpAny_pure ?_))
  refine wpAny_bind (wpAny_bind (wpAny_onRaise ?_))
  show wpAny _ _ (drawZ b (.ref i2)) _ _ _
  refine drawZ_item (((d2.ext s1.extBut D.i2z D.l2z).ext s2.extBut D.i12.symm D.l2i1).ext s3.extBut D.TOi2.symm D.l2TO) D.l2i2 hy fun g4 e2 s4 => ?_
  have r4 : PySem.IsPair g4 r x d := s4.extBut _ _ D.TOi2 r3
  refine wpAny_bind (wpAny_seqItems r4 rfl ?_)
  refine wpAny_bind (wpAny_updateSeq_pair r4 fun g5 r5 s5 => ?_)
  replace r5 : PySem.IsPair g5 r x y := r5
  refine wpAny_bind (wpAny_letGo (wpAny_pure (wpAny_pure ?_)))
  refine wpAny_bind (wpAny_seqItems r5 rfl ?_)
  refine wpAny_bind (wpAny_newTuple ?_)
  have sz : g5.objs.size = s.heap.objs.size := by rw [s5.1, s4.1, s3.1, s2.1, s1.1]
  have z5 : ZipB g5 z p r b .ellipsis := s5.extBut _ _ D.TOz.symm (s4.extBut _ _ D.i2z.symm (s3.extBut _ _ D.TOz.symm (s2.extBut _ _ D.i1z.symm z1)))
  have k5 : ∀ a o, a ≠ z → a ≠ r → a ≠ i1 → a ≠ i2 → s.heap.get? a = some o → g5.get? a = some o := fun a o n1 n2 n3 n4 e =>
    s5.extBut _ _ n2 (s4.extBut _ _ n4 (s3.extBut _ _ n2 (s2.extBut _ _ n3 (s1.extBut _ _ n1 e))))
  have e5 : Side g5 i1 l1 (k1 + 1) xs := ((e1.ext s3.extBut D.TOi1.symm D.l1TO).ext s4.extBut D.i12 D.l1i2).ext s5.extBut D.TOi1.symm D.l1TO
  have e6 : Side g5 i2 l2 (k2 + 1) ys := e2.ext s5.extBut D.TOi2.symm D.l2TO
  have zl : z < g5.objs.size := Heap.lt_size z5
  show wpAny _ _ (Builtin.SmallTypes.ownedTupleHandOut (Value.ref z) (.ref g5.objs.size) >>= _) _ _ _
  refine wpAny_bind ?_
  unfold Builtin.SmallTypes.ownedTupleHandOut
  have z6 : ZipB (g5.push { cls := .type "tuple", data := .seq #[x, y] }) z p r b .ellipsis := Heap.get?_push_of_some _ z5
  refine wpAny_bind (wpAny_setField_rec z6 (by simp) fun g7 z7 s7 => ?_)
  replace z7 : ZipB g7 z p r b (rawInt g5.objs.size) := z7
  refine wpAny_setField_rec z7 (by simp) fun g8 z8 s8 => ?_
  replace z8 : ZipB g8 z p r b (rawInt g5.objs.size) := z8
  have up : ∀ a o, a ≠ z → g5.get? a = some o → g8.get? a = some o := fun a o n e => s8.extBut _ _ n (s7.extBut _ _ n (Heap.get?_push_of_some _ e))
  have t8 : PySem.IsPair g8 g5.objs.size x y := s8.extBut _ _ (Nat.ne_of_gt zl) (s7.extBut _ _ (Nat.ne_of_gt zl) (Heap.get?_push_size _ rfl))
  have sz8 : g8.objs.size = g5.objs.size + 1 := by rw [s8.1, s7.1, Heap.size_push]
  rw [sz] at z8 t8 sz8
  refine wpAny_pure ⟨_, rfl, ?_⟩
  show Q (.ref g5.objs.size) _
  rw [sz]
  exact q g8 z8 (up _ _ D.TOz r5) (e5.keep (fun o e => up _ o D.i1z e) fun o e => up _ o D.l1z e) (e6.keep (fun o e => up _ o D.i2z e) fun o e => up _ o D.l2z e) t8 sz8 fun a o n1 n2 n3 n4 e => up a o n1 (k5 a o n1 n2 n3 n4 e)
/-- the end of a strict zip: both sides end at once; of another: either ends -/
def zEnd (b : Bool) (xs ys : Array Value) (k1 k2 : Nat) : Prop := if b = true then xs[k1]? = none ∧ ys[k2]? = none else xs[k1]? = none ∨ ys[k2]? = none
theorem zipB_end {z p r i1 i2 l1 l2 : Addr} {b : Bool} {k1 k2 : Nat} {xs ys : Array Value} {c d : Value} {Q : Fin → Shared → Prop} (hh : A.handled = none) (D : ZipApart z p r i1 i2 l1 l2)
    (zz : ZipB s.heap z p r b .none) (zp : PySem.IsPair s.heap p (.ref i1) (.ref i2)) (zr : PySem.IsPair s.heap r c d) (d1 : Side s.heap i1 l1 k1 xs) (d2 : Side s.heap i2 l2 k2 ys) (he : zEnd b xs ys k1 k2)
    (q : ∀ g e, (∀ a o, a ≠ z → a ≠ r → a ≠ i1 → a ≠ i2 → s.heap.get? a = some o → g.get? a = some o) → (∃ o, g.get? e = some o ∧ o.cls = .type "StopIteration") → E (.ref e) { s with heap := g }) :
    wpAny (model prog w) A (Builtin.«zip.__next__» ⟨[.ref z], []⟩) Q E s := by
  show wpAny _ _ (field (Value.ref z) 2 >>= _) _ _ _
  refine wpAny_bind (wpAny_field zz rfl (x := .bool b) rfl ?_)
  show wpAny _ _ (field (Value.ref z) 3 >>= _) _ _ _
  refine wpAny_bind (wpAny_field zz rfl (x := .ref p) rfl ?_)
  refine wpAny_bind (wpAny_seqItems zp rfl ?_)
  show wpAny _ _ (Builtin.SmallTypes.ownedTupleIsFree (Value.ref z) >>= _) _ _ _
  refine wpAny_bind ?_
  unfold Builtin.SmallTypes.ownedTupleIsFree
  refine wpAny_bind (wpAny_field zz rfl (x := .none) rfl (wpAny_pure ?_))
  simp only [if_true]
  refine wpAny_bind (wpAny_rule ?_)
  refine wpAny_bind (wpAny_field zz rfl (x := .ref r) rfl ?_)
  refine wpAny_bind (wpAny_setField_rec zz (by simp) fun g1 z1 s1 => ?_)
  replace z1 : ZipB g1 z p r b .ellipsis := z1
  refine wpAny_bind ?_
  simp only [List.zipIdx_cons, List.zipIdx_nil, List.forIn_cons, List.forIn_nil]
  refine wpAny_bind (wpAny_bind (wpAny_onRaise ?_))
  have d1' := d1.ext s1.extBut D.i1z D.l1z
  cases b with
  | true =>
    obtain ⟨hx, hy⟩ := he
    show wpAny _ _ (Builtin.SmallTypes.nextOrEnd (.ref i1)) _ _ _
    refine nextOrEnd_none hh d1' hx fun g2 s2 => ?_
    have z2 : ZipB g2 z p r true .ellipsis := s2 _ _ D.i1z.symm z1
    refine wpAny_bind (wpAny_setField_rec z2 (by simp) fun g3 z3 s3 => ?_)
    refine wpAny_bind ?_
    have d2' : Side g3 i2 l2 k2 ys := ((d2.ext s1.extBut D.i2z D.l2z).ext s2 D.i12.symm D.l2i1).ext s3.extBut D.i2z D.l2z
    show wpAny _ _ (forIn [(Value.ref i2, 1)] _ _ >>= _) _ _ _
    simp only [List.forIn_cons, List.forIn_nil]
    refine wpAny_bind (wpAny_bind (wpAny_bind (nextOrEnd_none hh d2' hy fun g4 s4 => ?_)))
    simp only [Option.isSome_none, Bool.false_eq_true, if_false]
    refine wpAny_pure (wpAny_pure (wpAny_bind (wpAny_rule ?_)))
    show wpAny _ _ (newExc (Value.type "StopIteration") [] >>= _) _ _ _
    refine wpAny_bind ?_
    simp only [newExc, newTuple]
    refine wpAny_bind (wpAny_newObj_type ?_ (by size_fits)); refine wpAny_bind (m := firstArgMember _ _) (wpAny_of_eq (a := .none) (by first | rfl | (simp only [firstArgMember]; rfl)) ?_); refine wpAny_newObj_type ?_ (by size_fits)
    simp only [raiseNew]
    refine wpAny_bind (wpAny_handled ?_)
    rw [hh]
    refine wpAny_bind (wpAny_pure (wpAny_throw ?_))
    refine q _ _ (fun a o n1 _ n3 n4 e' => ?_) ⟨_, Heap.get?_push_size _ rfl, rfl⟩
    exact Heap.get?_push_of_some _ (Heap.get?_push_of_some _ (s4 _ _ n4 (s3.extBut _ _ n1 (s2 _ _ n3 (s1.extBut _ _ n1 e')))))
  | false =>
    show wpAny _ _ (Builtin.SmallTypes.nextOf (.ref i1) >>= _) _ _ _
    cases hx : xs[k1]? with
    | none =>
      refine wpAny_bind (side_end hh d1' hx fun g2 e s2 he2 => ?_)
      obtain ⟨oe, hoe, hce⟩ := he2
      have z2 : ZipB g2 z p r false .ellipsis := s2 _ _ D.i1z.symm z1
      have hez : e ≠ z := fun n => by
        subst n
        rw [z2] at hoe
        cases hoe
        simp at hce
      refine wpAny_setField_rec z2 (by simp) fun g3 _ s3 => q g3 e (fun a o n1 _ n3 _ e' => s3.extBut _ _ n1 (s2 _ _ n3 (s1.extBut _ _ n1 e'))) ⟨oe, s3.extBut _ _ hez hoe, hce⟩
    | some x =>
      have hy : ys[k2]? = none := by
        rcases he with h | h
        · rw [hx] at h
          cases h
        · exact h
      refine wpAny_bind (side_item d1' D.l1i1 hx fun g2 e1 s2 => wpAny_pure ?_)
      have r2 : PySem.IsPair g2 r c d := s2.extBut _ _ D.TOi1 (s1.extBut _ _ D.TOz zr)
      refine wpAny_bind (wpAny_seqItems r2 rfl ?_)
      refine wpAny_bind (wpAny_updateSeq_pair r2 fun g3 r3 s3 => ?_)
      refine wpAny_bind (wpAny_letGo (wpAny_pure ?_))
      refine wpAny_bind (wpAny_bind (wpAny_onRaise ?_))
      show wpAny _ _ (Builtin.SmallTypes.nextOf (.ref i2) >>= _) _ _ _
      refine wpAny_bind (side_end hh (((d2.ext s1.extBut D.i2z D.l2z).ext s2.extBut D.i12.symm D.l2i1).ext s3.extBut D.TOi2.symm D.l2TO) hy fun g4 e s4 he4 => ?_)
      obtain ⟨oe, hoe, hce⟩ := he4
      have z4 : ZipB g4 z p r false .ellipsis := s4 _ _ D.i2z.symm (s3.extBut _ _ D.TOz.symm (s2.extBut _ _ D.i1z.symm z1))
      have hez : e ≠ z := fun n => by
        subst n
        rw [z4] at hoe
        cases hoe
        simp at hce
      refine wpAny_setField_rec z4 (by simp) fun g5 _ s5 => q g5 e (fun a o n1 n2 n3 n4 e' => s5.extBut _ _ n1 (s4 _ _ n4 (s3.extBut _ _ n2 (s2.extBut _ _ n3 (s1.extBut _ _ n1 e'))))) ⟨oe, s5.extBut _ _ hez hoe, hce⟩
theorem next_zipB_item {z p r i1 i2 l1 l2 : Addr} {b : Bool} {k1 k2 : Nat} {xs ys : Array Value} {x y c d : Value} {Q : Option Value → Shared → Prop} (D : ZipApart z p r i1 i2 l1 l2)
    (zz : ZipB s.heap z p r b .none) (zp : PySem.IsPair s.heap p (.ref i1) (.ref i2)) (zr : PySem.IsPair s.heap r c d) (d1 : Side s.heap i1 l1 k1 xs) (d2 : Side s.heap i2 l2 k2 ys) (hx : xs[k1]? = some x) (hy : ys[k2]? = some y)
    (q : ∀ g, ZipB g z p r b (rawInt s.heap.objs.size) → PySem.IsPair g r x y → Side g i1 l1 (k1 + 1) xs → Side g i2 l2 (k2 + 1) ys → PySem.IsPair g s.heap.objs.size x y → g.objs.size = s.heap.objs.size + 1 →
      (∀ a o, a ≠ z → a ≠ r → a ≠ i1 → a ≠ i2 → s.heap.get? a = some o → g.get? a = some o) → Q (some (.ref s.heap.objs.size)) { s with heap := g }) : wpAny (model prog w) A (pyNext (.ref z)) Q E s := by
  have T : s.TypeIs (.ref z) "zip" := ⟨_, zz, rfl⟩
  unfold pyNext
  exact wpAny_bind (wpAny_attempt (wpAny_callSpecial?_slot (name := Str.ofString "__next__") T F.slot_zip_next (wpAny_call_entry F.slot_zip_next T F.entry_zip_next
    (zipB_item D zz zp zr d1 d2 hx hy fun g a1 a2 a3 a4 a5 a6 a7 => wpAny_pure (q g a1 a2 a3 a4 a5 a6 a7)) (F.args_zip_next_1 _))))
theorem next_zipB_end {z p r i1 i2 l1 l2 : Addr} {b : Bool} {k1 k2 : Nat} {xs ys : Array Value} {c d : Value} {Q : Option Value → Shared → Prop} (hh : A.handled = none) (D : ZipApart z p r i1 i2 l1 l2)
    (zz : ZipB s.heap z p r b .none) (zp : PySem.IsPair s.heap p (.ref i1) (.ref i2)) (zr : PySem.IsPair s.heap r c d) (d1 : Side s.heap i1 l1 k1 xs) (d2 : Side s.heap i2 l2 k2 ys) (he : zEnd b xs ys k1 k2)
    (q : ∀ g, (∀ a o, a ≠ z → a ≠ r → a ≠ i1 → a ≠ i2 → s.heap.get? a = some o → g.get? a = some o) → Q none { s with heap := g }) : wpAny (model prog w) A (pyNext (.ref z)) Q E s := by
  have T : s.TypeIs (.ref z) "zip" := ⟨_, zz, rfl⟩
  unfold pyNext
  refine wpAny_bind (wpAny_attempt (wpAny_callSpecial?_slot (name := Str.ofString "__next__") T F.slot_zip_next (wpAny_call_entry F.slot_zip_next T F.entry_zip_next
    (zipB_end hh D zz zp zr d1 d2 he fun g e c1 c2 => ?_) (F.args_zip_next_1 _))))
  obtain ⟨o, c2, c3⟩ := c2
  refine wpAny_bind (wpAny_isInstance (T := "StopIteration") (b := true) ⟨o, c2, c3⟩ isSubtype_stop ?_)
  exact wpAny_pure (q _ c1)
theorem letOwned_zipB {elts : List Expr} {x1} {pos : Pos} {z p r T : Addr} {b : Bool} {Q : Unit → Shared → Prop} (zz : ZipB s.heap z p r b (rawInt T))
    (q : ∀ g, ZipB g z p r b .none → Heap.SameBut z s.heap g → Q () { s with heap := g }) : wpAny (model prog w) A (letOwnedTupleGo (.Tuple elts x1 pos) (.ref z) (.ref T)) Q E s := by
  unfold letOwnedTupleGo
  refine wpAny_bind (wpAny_load zz ?_)
  show wpAny _ _ (if (["enumerate", "zip", "dict_itemiterator", "dict_reverseitemiterator", "odict_iterator", "itertools.zip_longest", "itertools.pairwise"].contains "zip" && (#[rawInt T, .bool false, .bool b, .ref p, .ref r] : Array Value)[0]? == some (rawInt T)) = true then _ else _) Q E s
  rw [if_pos (by simp)]
  refine wpAny_bind (wpAny_rule ?_)
  show wpAny _ _ (setField (Value.ref z) 0 .none) Q E s
  exact wpAny_setField_rec zz (by simp) fun g z1 s1 => q g z1 s1
theorem iter_zipB {z p r : Addr} {b : Bool} {f0 : Value} {Q : Value → Shared → Prop} (zz : ZipB s.heap z p r b f0) (q : Q (.ref z) s) : wpAny (model prog w) A (pyIter (.ref z)) Q E s := by
  have T : s.TypeIs (.ref z) "zip" := ⟨_, zz, rfl⟩
  refine wpAny_pyIter_slot T F.slot_zip_iter (wpAny_call_entry F.slot_zip_iter T F.entry_zip_iter ?_ (F.args_zip_iter_1 _))
  show wpAny _ _ (ret (Value.ref z)) _ _ s
  exact wpAny_pure ⟨_, rfl, "zip", _, T, F.slot_zip_next.lookup, q⟩
end
/-! ### the call zip(x, y, strict=b) -/
abbrev oIt (t : Bool) (l : Addr) : Obj := { cls := .type (if t then "tuple_iterator" else "list_iterator"), data := .fields #[.ref l, .int 0 0] }
def SeqZ (h : Heap) (t : Bool) (l : Addr) (vs : Array Value) : Prop := if t = true then h.IsTuple l vs else h.IsList l vs
theorem begZ (t : Bool) (l : Addr) (vs : Array Value) : Begins (.ref l) (oIt t l) fun h => SeqZ h t l vs := by
  cases t with
  | true => exact begins_tuple l vs
  | false => exact begins_list l vs
abbrev zH1 (h : Heap) (t1 : Bool) (l1 : Addr) : Heap := h.push (oIt t1 l1)
abbrev zH2 (h : Heap) (t1 t2 : Bool) (l1 l2 : Addr) : Heap := (zH1 h t1 l1).push (oIt t2 l2)
abbrev zH3 (h : Heap) (t1 t2 : Bool) (l1 l2 : Addr) : Heap := (zH2 h t1 t2 l1 l2).push { cls := .type "tuple", data := .seq #[.ref h.objs.size, .ref (zH1 h t1 l1).objs.size] }
abbrev zH4 (h : Heap) (t1 t2 : Bool) (l1 l2 : Addr) : Heap := (zH3 h t1 t2 l1 l2).push { cls := .type "tuple", data := .seq #[.none, .none] }
abbrev zH5 (h : Heap) (t1 t2 b : Bool) (l1 l2 : Addr) : Heap := (zH4 h t1 t2 l1 l2).push { cls := .type "zip", data := .fields #[.none, .bool false, .bool b, .ref (zH2 h t1 t2 l1 l2).objs.size, .ref (zH3 h t1 t2 l1 l2).objs.size] }
/-- no keyword, or strict= -/
def kwZ : Option Bool → List (Str × Value)
  | none => []
  | some b => [(Str.ofString "strict", .bool b)]
def kwB : Option Bool → Bool
  | none => false
  | some b => b
theorem meets_zipZ (t1 t2 : Bool) (kb : Option Bool) (l1 l2 : Addr) (xs ys : Array Value) :
    Meets (Builtin.«zip.__new__» ⟨[.type "zip", .ref l1, .ref l2], kwZ kb⟩) (fun _ R s => SeqZ s.heap t1 l1 xs ∧ SeqZ s.heap t2 l2 ys ∧ R (.ok (.ret (.ref (zH4 s.heap t1 t2 l1 l2).objs.size))) { s with heap := zH5 s.heap t1 t2 (kwB kb) l1 l2 }) :=
  .of_wp fun prog w A R s h => by
    obtain ⟨hp, g, d, tk, os⟩ := s
    obtain ⟨h1, h2, h⟩ := h
    have hsub := sub_zip
    have q1 : ∀ {A' : Around} {E : Value → Shared → Prop} {Q : Value → Shared → Prop}, Q (.ref hp.objs.size) ⟨hp.push (oIt t1 l1), g, d, tk, os⟩ → wpAny (model prog w) A' (pyIter (.ref l1)) Q E ⟨hp, g, d, tk, os⟩ :=
      fun q => (begZ t1 l1 xs).iter prog w _ _ ⟨hp, g, d, tk, os⟩ _ h1 q
    have k2 : SeqZ (hp.push (oIt t1 l1)) t2 l2 ys := (begZ t2 l2 ys).keeps _ _ h2 fun b o e => Heap.get?_push_of_some _ e
    have q2 : ∀ {A' : Around} {E : Value → Shared → Prop} {Q : Value → Shared → Prop}, Q (.ref (hp.push (oIt t1 l1)).objs.size) ⟨(hp.push (oIt t1 l1)).push (oIt t2 l2), g, d, tk, os⟩ → wpAny (model prog w) A' (pyIter (.ref l2)) Q E ⟨hp.push (oIt t1 l1), g, d, tk, os⟩ :=
      fun q => (begZ t2 l2 ys).iter prog w _ _ ⟨hp.push (oIt t1 l1), g, d, tk, os⟩ _ k2 q
    have e2 : (Str.ofString "strict" != ("strict" : Str)) = false := by decide +kernel
    cases kb with
    | none =>
      wp_walk using q1, q2
      exact ⟨_, rfl, h⟩
    | some b =>
      unfold kwZ
      wp_walk using q1, q2
      exact ⟨_, rfl, h⟩
theorem typeCall_zipK (a b c : Value) : checkTypeCall "zip" ⟨[a, b], [(Str.ofString "strict", c)]⟩ = pure () := by kernel_rfl
theorem newCall_zipK (a b c : Value) : checkBuiltinCall "zip.__new__" ⟨[.type "zip", a, b], [(Str.ofString "strict", c)]⟩ = pure () := by kernel_rfl
theorem args_object_init_zipK (o a b c : Value) : argsOk "object.__init__" ⟨[o, a, b], [(Str.ofString "strict", c)]⟩ := by unfold argsOk; kernel_rfl
section
variable {prog : Program} {w : World} {A : Around} {E : Value → Shared → Prop} {s : Shared}
theorem SeqZ.side {h h' : Heap} {t : Bool} {it l : Addr} {vs : Array Value} (d : SeqZ h t l vs) (k : ∀ b o, h.get? b = some o → h'.get? b = some o) (e : h'.get? it = some (oIt t l)) : Side h' it l 0 vs := by
  cases t with
  | true =>
    obtain ⟨o, a, r⟩ := d
    exact .inr ⟨⟨_, e, rfl, rfl⟩, o, k _ _ a, r⟩
  | false =>
    obtain ⟨o, a, r⟩ := d
    exact .inl ⟨⟨_, e, rfl, rfl⟩, o, k _ _ a, r⟩
theorem call_zipZ {t1 t2 : Bool} {kb : Option Bool} {l1 l2 : Addr} {xs ys : Array Value} {Q : Value → Shared → Prop} (h1 : SeqZ s.heap t1 l1 xs) (h2 : SeqZ s.heap t2 l2 ys)
    (q : ∀ g, ZipB g (s.heap.objs.size + 4) (s.heap.objs.size + 2) (s.heap.objs.size + 3) (kwB kb) .none → PySem.IsPair g (s.heap.objs.size + 2) (.ref s.heap.objs.size) (.ref (s.heap.objs.size + 1)) →
      PySem.IsPair g (s.heap.objs.size + 3) .none .none → Side g s.heap.objs.size l1 0 xs → Side g (s.heap.objs.size + 1) l2 0 ys → (∀ c o, s.heap.get? c = some o → g.get? c = some o) → Q (.ref (s.heap.objs.size + 4)) { s with heap := g }) :
    wpAny (model prog w) A (call (.type "zip") [.ref l1, .ref l2] (kwZ kb)) Q E s := by
  have go : ∀ (S : Prop), ((SeqZ s.heap t1 l1 xs ∧ SeqZ s.heap t2 l2 ys ∧ (wants (fun obj s₁ => s₁.TypeIs obj "zip" ∧ Q obj s₁) E) (.ok (.ret (.ref (zH4 s.heap t1 t2 l1 l2).objs.size))) { s with heap := zH5 s.heap t1 t2 (kwB kb) l1 l2 }) → S) → S := fun S hS => by
    refine hS ⟨h1, h2, ?_⟩
    have z1 : (zH1 s.heap t1 l1).objs.size = s.heap.objs.size + 1 := Heap.size_push ..
    have z2 : (zH2 s.heap t1 t2 l1 l2).objs.size = s.heap.objs.size + 2 := by rw [Heap.size_push, z1]
    have z3 : (zH3 s.heap t1 t2 l1 l2).objs.size = s.heap.objs.size + 3 := by rw [Heap.size_push, z2]
    have z4 : (zH4 s.heap t1 t2 l1 l2).objs.size = s.heap.objs.size + 4 := by rw [Heap.size_push, z3]
    have up1 : ∀ {c o}, (zH1 s.heap t1 l1).get? c = some o → (zH5 s.heap t1 t2 (kwB kb) l1 l2).get? c = some o := fun e => Heap.get?_push_of_some _ (Heap.get?_push_of_some _ (Heap.get?_push_of_some _ (Heap.get?_push_of_some _ e)))
    have g5 : (zH5 s.heap t1 t2 (kwB kb) l1 l2).get? (zH4 s.heap t1 t2 l1 l2).objs.size = some _ := Heap.get?_push_size _ rfl
    have g4 : (zH5 s.heap t1 t2 (kwB kb) l1 l2).get? (zH3 s.heap t1 t2 l1 l2).objs.size = some _ := Heap.get?_push_of_some _ (Heap.get?_push_size _ rfl)
    have g3 : (zH5 s.heap t1 t2 (kwB kb) l1 l2).get? (zH2 s.heap t1 t2 l1 l2).objs.size = some _ := Heap.get?_push_of_some _ (Heap.get?_push_of_some _ (Heap.get?_push_size _ rfl))
    have g2 : (zH5 s.heap t1 t2 (kwB kb) l1 l2).get? (zH1 s.heap t1 l1).objs.size = some (oIt t2 l2) := Heap.get?_push_of_some _ (Heap.get?_push_of_some _ (Heap.get?_push_of_some _ (Heap.get?_push_size _ (begZ t2 l2 ys).free)))
    have g1 : (zH5 s.heap t1 t2 (kwB kb) l1 l2).get? s.heap.objs.size = some (oIt t1 l1) := up1 (Heap.get?_push_size _ (begZ t1 l1 xs).free)
    show _ ∧ _
    rw [z2, z3, z4] at g5
    rw [z1, z2] at g3
    rw [z3] at g4
    rw [z1] at g2
    rw [z4]
    exact ⟨⟨_, g5, rfl⟩, q _ g5 g3 g4 (h1.side (fun c o e => up1 (Heap.get?_push_of_some _ e)) g1) (h2.side (fun c o e => up1 (Heap.get?_push_of_some _ e)) g2) fun c o e => up1 (Heap.get?_push_of_some _ e)⟩
  cases kb with
  | none => exact go _ fun z => callType_new F.called_zip (by decide) (F.typeCall_zip_2 _ _) (F.newCall_zip_2 _ _) (fun obj => F.args_object_init_3 obj _ _) F.entry_zip_new (meets_zipZ t1 t2 none l1 l2 xs ys) z
  | some b => exact go _ fun z => callType_newKw F.called_zip (by decide) (typeCall_zipK _ _ _) (newCall_zipK _ _ _) (fun obj => args_object_init_zipK obj _ _ _) F.entry_zip_new (meets_zipZ t1 t2 (some b) l1 l2 xs ys) z
end
section
variable {M : Model} {A : Around} {E : Value → Shared → Prop} {s : Shared} {env : Env}
/-- a class called with keywords -/
theorem callWith_typeKw {pos : Pos} {T : String} {e : Expr} {rest : List Expr} {kws : List Keyword} {Q : Value → Shared → Prop}
    (h : wpAny M A (spliced (backTo pos (starEach (e :: rest) env))) (fun vs s₁ => wpAny M A (evalAll ((backToKw pos (keywordEach kws env)).map (·.2))) (fun kvs s₂ => wpAny M A (call (.type T) vs (((backToKw pos (keywordEach kws env)).filterMap (·.1)).zip kvs)) Q E s₂) E s₁) E s)
    (he : backTo pos (starEach (e :: rest) env) = (false, eval e env) :: backTo pos (starEach rest env)) (hp : (backTo pos (starEach (e :: rest) env)).any (·.1) = false)
    (ha : (backToKw pos (keywordEach kws env)).all (·.1.isSome) = true) (hk : (backToKw pos (keywordEach kws env)).any (·.1.isNone) = false) : wpAny M A (callWith pos (.type T) [] (backTo pos (starEach (e :: rest) env)) (backToKw pos (keywordEach kws env))) Q E s := by
  have h2 : wpAny M A (evalArgs (.type T) true (backTo pos (starEach (e :: rest) env)) (backToKw pos (keywordEach kws env))) (fun a s₁ => wpAny M A (call (.type T) ([] ++ a.pos) a.kw) Q E s₁) E s := by
    rw [he] at h ⊢
    exact PyProof.Rows.evalArgs_kwB ha h
  unfold callWith
  refine wpAny_bind (wpAny_holding (wpAny_mono h2 (fun a s₁ h₁ => wpAny_bind (wpAny_standAt ?_)) fun _ _ x => x))
  simp only [hp, hk, Bool.or_false]
  refine wpAny_bind (wpAny_pure ?_)
  exact wpAny_bind (wpAny_mono h₁ (fun r s₂ z => wpAny_bind (wpAny_holding (wpAny_point (wpAny_pure z)))) fun _ _ x => x)
end
/-! ### the walk over a zip -/
def SqS (t : Bool) (K : PySem.W.Frag) (H : Hp) (a : Addr) (xs : List V) : Prop := if t = true then SqT K H a xs else SqL K H a xs
theorem SqS.vals {X : Cx} {pins : List (Addr × Obj)} {σ : L2.St} {H : Hp} {s : Shared} {t : Bool} {a : Addr} {xs : List V} (I : Inv X pins σ H s) (h : SqS t X.K H a xs) : ∃ its : List Value, Vals xs its ∧ SeqZ s.heap t a its.toArray ∧ a < s.heap.objs.size := by
  cases t with
  | true =>
    obtain ⟨its, r, p, _⟩ := I.tuple h
    exact ⟨its, r, p, p.lt⟩
  | false =>
    obtain ⟨its, r, p, _⟩ := I.list h
    exact ⟨its, r, p.isList, p.lt⟩
theorem SqS.inj {X : Cx} {pins : List (Addr × Obj)} {σ : L2.St} {H : Hp} {s : Shared} {t : Bool} {a : Addr} {xs ys : List V} (I : Inv X pins σ H s) (h : SqS t X.K H a xs) (k : SqS t X.K H a ys) : xs = ys := by
  cases t with
  | true => exact I.tuple_inj h k
  | false => exact I.list_inj h k
def ItZ (K : PySem.W.Frag) (b t1 t2 : Bool) (a c : Addr) : It :=
  ⟨fun i H => ∃ (xs ys : List V) (x y : V), SqS t1 K H a xs ∧ SqS t2 K H c ys ∧ xs[i]? = some x ∧ ys[i]? = some y,
    fun i H v H' => ∃ T x y, v = .ref T ∧ H T = none ∧ H' = upd H T (.tup [x, y]) ∧ (∀ xs, SqS t1 K H a xs → xs[i]? = some x) ∧ ∀ ys, SqS t2 K H c ys → ys[i]? = some y,
    fun i H => ∃ xs ys : List V, SqS t1 K H a xs ∧ SqS t2 K H c ys ∧ if b = true then xs.length ≤ i ∧ ys.length ≤ i else xs.length ≤ i ∨ ys.length ≤ i⟩
def Itr1 (t : Bool) (h : Heap) (it a : Addr) (i : Nat) : Prop := if t = true then h.IsTupleIter it a i else h.IsListIter it a i
theorem Itr1.side {t : Bool} {h : Heap} {it a : Addr} {i : Nat} {vs : Array Value} (x : Itr1 t h it a i) (y : SeqZ h t a vs) : Side h it a i vs := by
  cases t with
  | true => exact .inr ⟨x, y⟩
  | false => exact .inl ⟨x, y⟩
theorem Itr1.get {t : Bool} {h : Heap} {it a : Addr} {i : Nat} (x : Itr1 t h it a i) : ∃ o, h.get? it = some o ∧ ∃ f, o.data = .fields f := by
  cases t with
  | true =>
    obtain ⟨o, e, _, r⟩ := x
    exact ⟨o, e, _, r⟩
  | false =>
    obtain ⟨o, e, _, r⟩ := x
    exact ⟨o, e, _, r⟩
theorem Itr1.kept {t : Bool} {h h' : Heap} {it a : Addr} {i : Nat} (x : Itr1 t h it a i) (k : ∀ o, h.get? it = some o → h'.get? it = some o) : Itr1 t h' it a i := by
  cases t with
  | true => exact PySem.Heap.IsTupleIter.at x k
  | false => exact PySem.Heap.IsListIter.at x k
theorem Side.itr {t : Bool} {h : Heap} {it a : Addr} {i : Nat} {vs : Array Value} (x : Side h it a i vs) (y : SeqZ h t a vs) : Itr1 t h it a i := by
  cases t with
  | true =>
    rcases x with ⟨_, o, e, c, _⟩ | ⟨p, _⟩
    · obtain ⟨o', e', c', _⟩ := y
      rw [e] at e'
      cases e'
      rw [c] at c'
      injection c' with n
      exact absurd n (by decide)
    · exact p
  | false =>
    rcases x with ⟨p, _⟩ | ⟨_, o, e, c, _⟩
    · exact p
    · obtain ⟨o', e', c', _⟩ := y
      rw [e] at e'
      cases e'
      rw [c] at c'
      injection c' with n
      exact absurd n (by decide)
theorem SeqZ.kept {t : Bool} {h h' : Heap} {a : Addr} {vs : Array Value} (y : SeqZ h t a vs) (k : ∀ o, h.get? a = some o → h'.get? a = some o) : SeqZ h' t a vs := by
  cases t with
  | true =>
    obtain ⟨o, e, r⟩ := y
    exact ⟨o, k _ e, r⟩
  | false =>
    obtain ⟨o, e, r⟩ := y
    exact ⟨o, k _ e, r⟩
theorem turn_zipZ {P : Program} {w : World} {K : PySem.W.Frag} {elts : List Expr} {kk : Nat} {tpos : Pos} {b t1 t2 : Bool} {a c z p r i1 i2 : Addr} (D : ZipApart z p r i1 i2 a c) :
    Turn P w K (.Tuple elts kk tpos) (ItZ K b t1 t2 a c) [z, p, r, i1, i2] z (fun i h => ZipB h z p r b .none ∧ PySem.IsPair h p (.ref i1) (.ref i2) ∧ (∃ x y, PySem.IsPair h r x y) ∧ Itr1 t1 h i1 a i ∧ Itr1 t2 h i2 c i) where
  mem := by simp
  obj := fun i h st x hx => by
    obtain ⟨zz, zp, ⟨u, v, zr⟩, e1, e2⟩ := st
    have hx' : x = z ∨ x = p ∨ x = r ∨ x = i1 ∨ x = i2 := by simpa using hx
    rcases hx' with q | q | q | q | q
    · rw [q]; exact ⟨_, zz, fun v q => nomatch q⟩
    · rw [q]; exact ⟨_, zp, fun v q => nomatch q⟩
    · rw [q]; exact ⟨_, zr, fun v q => nomatch q⟩
    · obtain ⟨o, g1, f, g2⟩ := e1.get
      rw [q]; exact ⟨o, g1, fun v q => by rw [g2] at q; cases q⟩
    · obtain ⟨o, g1, f, g2⟩ := e2.get
      rw [q]; exact ⟨o, g1, fun v q => by rw [g2] at q; cases q⟩
  keep := fun i h h' st k => by
    obtain ⟨zz, zp, ⟨u, v, zr⟩, e1, e2⟩ := st
    exact ⟨k z (by simp) _ zz, k p (by simp) _ zp, ⟨u, v, k r (by simp) _ zr⟩, e1.kept fun o q => k i1 (by simp) o q, e2.kept fun o q => k i2 (by simp) o q⟩
  item := by
    intro X hP hw hK hc i pins s σ H E I hf st hg
    subst hP hw hK
    obtain ⟨zz, zp, ⟨u0, v0, zr⟩, e1, e2⟩ := st
    obtain ⟨xs, ys, x, y, q1, q2, hx, hy⟩ := hg
    obtain ⟨is1, rv1, p1, _⟩ := q1.vals I
    obtain ⟨is2, rv2, p2, _⟩ := q2.vals I
    obtain ⟨u, hu, ru⟩ := rv1.get hx
    obtain ⟨u2, hu2, ru2⟩ := rv2.get hy
    have zl : z < s.heap.objs.size := Heap.lt_size zz
    refine next_zipB_item D zz zp zr (e1.side p1) (e2.side p2) (x := u) (y := u2) (by simpa using hu) (by simpa using hu2) fun g z1 r1 d1 d2 hT hsz hk => ?_
    refine ⟨_, rfl, letOwned_zipB (s := { s with heap := g }) z1 fun g2 z2 sb => ?_⟩
    have hT2 : g2.get? s.heap.objs.size = some { cls := .type "tuple", data := .seq #[u, u2] } := (sb.2 _ (Nat.ne_of_gt zl)).trans hT
    have new : ObjOk X.prog X.w (upd H s.heap.objs.size (.tup [x, y])) g2 s.heap.objs.size (.tup [x, y]) := ⟨by show 2 ≤ sizeLine; decide, [u, u2], .cons ru (.cons ru2 .nil), ⟨_, hT2, rfl, _, rfl⟩⟩
    have I1 : Inv X pins σ (upd H s.heap.objs.size (.tup [x, y])) { s with heap := g2 } :=
      I.turnedNew (t' := s.toks) (ch := [z, p, r, i1, i2]) (fun n o hb q => (sb.2 n (fun q' => hb (by simp [q']))).trans (hk n o (fun q' => hb (by simp [q'])) (fun q' => hb (by simp [q'])) (fun q' => hb (by simp [q'])) (fun q' => hb (by simp [q'])) q)) hf (Nat.le_refl _) new
    have ka : SeqZ g t1 a is1.toArray := p1.kept fun o e => hk a o D.l1z D.l1TO D.l1i1 D.l1i2 e
    have kc : SeqZ g t2 c is2.toArray := p2.kept fun o e => hk c o D.l2z D.l2TO D.l2i1 D.l2i2 e
    refine ⟨.ref s.heap.objs.size, _, I1, rfl, ⟨_, x, y, rfl, I.hok.fresh (Nat.le_refl _), rfl, fun l hl => by rw [hl.inj I q1]; exact hx, fun l hl => by rw [hl.inj I q2]; exact hy⟩, ⟨z2, ?_, ⟨u, u2, ?_⟩, ?_, ?_⟩, fun n hn => ?_⟩
    · exact (sb.2 _ D.TIz).trans (hk _ _ D.TIz D.TITO D.TIi1 D.TIi2 zp)
    · exact (sb.2 _ D.TOz).trans r1
    · exact (d1.itr ka).kept fun o q => (sb.2 _ D.i1z).trans q
    · exact (d2.itr kc).kept fun o q => (sb.2 _ D.i2z).trans q
    · have lt : n < s.heap.objs.size := by
        have hn' : n = z ∨ n = p ∨ n = r ∨ n = i1 ∨ n = i2 := by simpa using hn
        rcases hn' with q | q | q | q | q
        · rw [q]; exact zl
        · rw [q]; exact Heap.lt_size zp
        · rw [q]; exact Heap.lt_size zr
        · rw [q]; exact (e1.side p1).lt
        · rw [q]; exact (e2.side p2).lt
      rw [upd_ne (Nat.ne_of_lt lt)]
      exact (hf n hn).1
  done := by
    intro X hP hw hK hc i pins s σ H E I hf st hg
    subst hP hw hK
    obtain ⟨zz, zp, ⟨u0, v0, zr⟩, e1, e2⟩ := st
    obtain ⟨xs, ys, q1, q2, he⟩ := hg
    obtain ⟨is1, rv1, p1, _⟩ := q1.vals I
    obtain ⟨is2, rv2, p2, _⟩ := q2.vals I
    have l1 := rv1.length
    have l2 := rv2.length
    have hz : zEnd b is1.toArray is2.toArray i i := by
      unfold zEnd
      cases b with
      | true =>
        obtain ⟨h1, h2⟩ := he
        exact ⟨by simp; omega, by simp; omega⟩
      | false =>
        rcases he with h | h
        · exact .inl (by simp; omega)
        · exact .inr (by simp; omega)
    exact next_zipB_end (I.ok.hd hc) D zz zp zr (e1.side p1) (e2.side p2) hz fun g hk => ⟨rfl, I.turnedL (t' := s.toks) (ch := [z, p, r, i1, i2]) (fun n o hb q =>
      hk n o (fun q' => hb (by simp [q'])) (fun q' => hb (by simp [q'])) (fun q' => hb (by simp [q'])) (fun q' => hb (by simp [q'])) q) hf⟩
  self := fun A i s Q E st h => iter_zipB st.1 h
def iZipZ (K : PySem.W.Frag) (b : Bool) (ta : TA) : TI := fun σ H R => ta σ H fun vs H1 => ∃ (t1 t2 : Bool) (a c : Addr) (xs ys : List V), vs = [.ref a, .ref c] ∧ SqS t1 K H1 a xs ∧ SqS t2 K H1 c ys ∧ R (ItZ K b t1 t2 a c) H1
theorem zip_core {X : Cx} {pins : List (Addr × Obj)} {σ : L2.St} {H : Hp} {s : Shared} {R : It → Hp → Prop} {elts : List Expr} {kk : Nat} {tpos : Pos} {kb : Option Bool} {t1 t2 : Bool} {a c : Addr} {xs ys : List V} (I : Inv X pins σ H s) (q1 : SqS t1 X.K H a xs) (q2 : SqS t2 X.K H c ys) (q : R (ItZ X.K (kwB kb) t1 t2 a c) H) :
    wpAny (model X.prog X.w) X.A (call (.type "zip") [.ref a, .ref c] (kwZ kb)) (fun v s1 => wpAny (model X.prog X.w) X.A (pyIter v) (PIE X pins σ (.Tuple elts kk tpos) R) X.xe s1) X.xe s := by
  obtain ⟨is1, rv1, p1, la⟩ := q1.vals I
  obtain ⟨is2, rv2, p2, lc⟩ := q2.vals I
  refine call_zipZ p1 p2 fun g zz zp zr d1 d2 hk => iter_zipB zz ?_
  have I2 : Inv X pins σ H { s with heap := g } := I.kept (t' := s.toks) hk
  refine ⟨s.heap.objs.size + 4, [s.heap.objs.size + 4, s.heap.objs.size + 2, s.heap.objs.size + 3, s.heap.objs.size, s.heap.objs.size + 1], _, _, H, rfl, I2, turn_zipZ (PySem.W.ktu_apart s.heap.objs.size a c la lc), ⟨zz, zp, ⟨_, _, zr⟩, d1.itr (p1.kept fun o e => hk _ _ e), d2.itr (p2.kept fun o e => hk _ _ e)⟩, fun n hn => ?_, q⟩
  have hn' : n = s.heap.objs.size + 4 ∨ n = s.heap.objs.size + 2 ∨ n = s.heap.objs.size + 3 ∨ n = s.heap.objs.size ∨ n = s.heap.objs.size + 1 := by simpa using hn
  have le : s.heap.objs.size ≤ n := by
    rcases hn' with q | q | q | q | q <;> rw [q] <;> first | exact Nat.le_refl _ | exact Nat.le_add_right _ _
  exact I.fpOk le (I.hok.fresh le)
theorem pi_zipN {X : Cx} {e e2 : Expr} {ta : TA} {p pos tpos : Pos} {elts : List Expr} {kk : Nat} (hg : Gl X "zip") (hm : X.mg "zip" = none) (ha : PA X [e, e2] ta)
    (hs : starEach [e, e2] X.env = (false, eval e X.env) :: starEach [e2] X.env) (hpl : (backTo pos (starEach [e2] X.env)).any (·.1) = false) : PI X (.Tuple elts kk tpos) (.Call (.Name "zip" p) [e, e2] [] pos) (iZipZ X.K false ta) := by
  refine ⟨fun pins s σ H R I h => ?_⟩
  refine PyProof.Rows.Call_ (ld_blt I hg hm PyProof.Rows.boot_zip (PyProof.Rows.callWith_type1 (thn (ha.run pos pins s σ H _ I h) fun us s1 ⟨vs, H1, I1, r1, z⟩ => ?_) hs hpl))
  obtain ⟨t1, t2, a, c, xs, ys, ex, q1, q2, q⟩ := z
  subst ex
  cases r1 with
  | cons r rr =>
    cases rr with
    | cons r' rr =>
      cases rr
      cases r
      cases r'
      exact zip_core (kb := none) I1 q1 q2 q
theorem pi_zipK {X : Cx} {e e2 : Expr} {b : Bool} {j : Nat} {ta : TA} {p p1 p2 pos tpos : Pos} {elts : List Expr} {kk : Nat} (hg : Gl X "zip") (hm : X.mg "zip" = none) (ha : PA X [e, e2] ta)
    (he : backTo pos (starEach [e, e2] X.env) = (false, eval e X.env) :: backTo pos (starEach [e2] X.env)) (hpl : (backTo pos (starEach [e, e2] X.env)).any (·.1) = false)
    (hall : (backToKw pos (keywordEach [⟨some "strict", .Constant (.bool b) j p1, p2⟩] X.env)).all (·.1.isSome) = true) (hno : (backToKw pos (keywordEach [⟨some "strict", .Constant (.bool b) j p1, p2⟩] X.env)).any (·.1.isNone) = false)
    (hks : (backToKw pos (keywordEach [⟨some "strict", .Constant (.bool b) j p1, p2⟩] X.env)).filterMap (·.1) = [Str.ofString "strict"]) : PI X (.Tuple elts kk tpos) (.Call (.Name "zip" p) [e, e2] [⟨some "strict", .Constant (.bool b) j p1, p2⟩] pos) (iZipZ X.K b ta) := by
  refine ⟨fun pins s σ H R I h => ?_⟩
  refine wpAny_Call_Name_kw (ld_blt I hg hm PyProof.Rows.boot_zip ?_)
  refine callWith_typeKw (thn (ha.run pos pins s σ H _ I h) fun us s1 ⟨vs, H1, I1, r1, z⟩ => thn ((pk_cons (nm := some "strict") (kpos := p2) (pe_bl (X := X) (b := b) (j := j) (pos := p1)) pk_nil).run pos pins s1 σ H1 (fun zs H2 => zs = [.bl b] ∧ H2 = H1) I1 ⟨rfl, rfl⟩) fun ws s2 ⟨zs, H2, I2, r2, ez, eh⟩ => ?_) he hpl hall hno
  subst ez
  subst eh
  rw [hks]
  obtain ⟨t1, t2, a, c, xs, ys, ex, q1, q2, q⟩ := z
  subst ex
  cases r2 with
  | cons r r' =>
    cases r'
    cases r
    cases r1 with
    | cons r rr =>
      cases rr with
      | cons r' rr =>
        cases rr
        cases r
        cases r'
        exact zip_core (kb := some b) I2 q1 q2 q
/-! ### zip over data -/
def seqD : D → Option (List D)
  | .lst xs => some xs
  | .tup xs => some xs
  | _ => none
def zipL (xs ys : List D) : List D := List.zipWith (fun x y => .tup [x, y]) xs ys
def xZipZ (b : Bool) (pa : PAa) : PAa := fun env Q => pa env fun ds => match ds with
  | [d, e] => ∃ xs ys, seqD d = some xs ∧ seqD e = some ys ∧ (b = true → xs.length = ys.length) ∧ Q (zipL xs ys)
  | _ => False
theorem seq_rep {K : PySem.W.Frag} {P : Option Addr} {G H : Hp} {v : V} {d : D} {xs : List D} (w : Wf K P H G) (r : Rep K P G v d) (h : seqD d = some xs) : ∃ (t : Bool) (a : Addr) (vs : List V), v = .ref a ∧ RepL K P G vs xs ∧ ∀ H2 G2, Le G G2 → Wf K P H2 G2 → SqS t K H2 a vs := by
  cases d with
  | lst ds =>
    cases h
    obtain ⟨a, vs, rfl, hq, rr⟩ := r.lst_inv
    exact ⟨false, a, vs, rfl, rr, fun H2 G2 l w2 => SqL.of (w2.gh _ _ (l _ _ hq))⟩
  | tup ds =>
    cases h
    obtain ⟨a, vs, rfl, hq, rr⟩ := r.tup_inv
    exact ⟨true, a, vs, rfl, rr, fun H2 G2 l w2 => sqT_le w2.gh (sqT_le l hq)⟩
  | _ => cases h
theorem wlk_zip {K : PySem.W.Frag} {P : Option Addr} {G H0 : Hp} {b t1 t2 : Bool} {a c : Addr} {vs us : List V} {xs ys : List D} (r1 : RepL K P G vs xs) (r2 : RepL K P G us ys) (hb : b = true → xs.length = ys.length)
    (s1 : ∀ H2 G2, Le G G2 → Wf K P H2 G2 → SqS t1 K H2 a vs) (s2 : ∀ H2 G2, Le G G2 → Wf K P H2 G2 → SqS t2 K H2 c us) : Wlk K P (ItZ K b t1 t2 a c) (zipL xs ys) G H0 := fun H2 G2 l w _ i => by
  have q1 := s1 H2 G2 l w
  have q2 := s2 H2 G2 l w
  have l1 := r1.len
  have l2 := r2.len
  refine ⟨fun hl => ⟨vs, us, q1, q2, ?_⟩, fun d hd => ?_⟩
  · unfold zipL at hl
    rw [List.length_zipWith] at hl
    cases b with
    | true =>
      have := hb rfl
      show _ ∧ _
      omega
    | false =>
      show _ ∨ _
      omega
  · unfold zipL at hd
    rw [List.getElem?_zipWith] at hd
    cases hx : xs[i]? with
    | none => rw [hx] at hd; cases hd
    | some x =>
      cases hy : ys[i]? with
      | none => rw [hx, hy] at hd; cases hd
      | some y =>
        rw [hx, hy] at hd
        cases hd
        obtain ⟨v, hv, rv⟩ := r1.get hx
        obtain ⟨u, hu, ru⟩ := r2.get hy
        refine ⟨⟨vs, us, v, u, q1, q2, hv, hu⟩, fun z H3 yz => ?_⟩
        obtain ⟨T, v', u', rfl, hT, rfl, k1, k2⟩ := yz
        have e1 := (k1 _ q1).symm.trans hv
        have e2 := (k2 _ q2).symm.trans hu
        cases e1
        cases e2
        obtain ⟨u', w'⟩ := take_new (o := .tup [v, u]) w hT
        refine ⟨_, u', w', .tup (.inl (.inl upd_same)) (.cons ((rv.mono l).mono u'.g) (.cons ((ru.mono l).mono u'.g) .nil))⟩
section
variable {K : PySem.W.Frag} {X : Cx} {e e2 : Expr} {ta : TA} {pa : PAa} {p p1 p2 pos tpos : Pos} {elts : List Expr} {kk j : Nat}
theorem ev_zip {P : Option Addr} (b : Bool) (ha : EvA K P ta pa) : EvI K P (iZipZ K b ta) (xZipZ b pa) := fun G0 H0 env σ H G S Q q R k => ha G0 H0 env σ H G S _ q _ fun ds vs H1 G1 q1 u w r => by
  match ds, q1, r with
  | [d, e], q1, .cons r1 (.cons r2 .nil) =>
    obtain ⟨xs, ys, h1, h2, hb, q1⟩ := q1
    obtain ⟨t1, a, v1, rfl, p1, s1⟩ := seq_rep w r1 h1
    obtain ⟨t2, c, v2, rfl, p2, s2⟩ := seq_rep w r2 h2
    exact ⟨t1, t2, a, c, v1, v2, rfl, s1 H1 G1 .refl w, s2 H1 G1 .refl w, k _ _ H1 G1 q1 u w (wlk_zip p1 p2 hb s1 s2)⟩
theorem ji_zip (hg : Gl X "zip") (hm : X.mg "zip" = none) (ha : JA K X [e, e2] ta pa) (hs : starEach [e, e2] X.env = (false, eval e X.env) :: starEach [e2] X.env := by rfl) (hpl : (backTo pos (starEach [e2] X.env)).any (·.1) = false := by rfl) (hk : X.K = K := by rfl) :
    JI K X (.Tuple elts kk tpos) (.Call (.Name "zip" p) [e, e2] [] pos) (iZipZ K false ta) (xZipZ false pa) := by
  subst hk
  exact ⟨pi_zipN hg hm ha.1 hs hpl, fun P => ev_zip false (ha.2 P)⟩
theorem ji_zipK {b : Bool} (hg : Gl X "zip") (hm : X.mg "zip" = none) (ha : JA K X [e, e2] ta pa)
    (he : backTo pos (starEach [e, e2] X.env) = (false, eval e X.env) :: backTo pos (starEach [e2] X.env) := by rfl) (hpl : (backTo pos (starEach [e, e2] X.env)).any (·.1) = false := by rfl)
    (hall : (backToKw pos (keywordEach [⟨some "strict", .Constant (.bool b) j p1, p2⟩] X.env)).all (·.1.isSome) = true := by rfl) (hno : (backToKw pos (keywordEach [⟨some "strict", .Constant (.bool b) j p1, p2⟩] X.env)).any (·.1.isNone) = false := by rfl)
    (hks : (backToKw pos (keywordEach [⟨some "strict", .Constant (.bool b) j p1, p2⟩] X.env)).filterMap (·.1) = [Str.ofString "strict"] := by rfl) (hk : X.K = K := by rfl) :
    JI K X (.Tuple elts kk tpos) (.Call (.Name "zip" p) [e, e2] [⟨some "strict", .Constant (.bool b) j p1, p2⟩] pos) (iZipZ K b ta) (xZipZ b pa) := by
  subst hk
  exact ⟨pi_zipK hg hm ha.1 he hpl hall hno hks, fun P => ev_zip b (ha.2 P)⟩
/-- enumerate(list) -/
def enumL (xs : List D) : List D := xs.zipIdx.map fun p => .tup [.int (p.2 : Nat), p.1]
def xEnum (p : PX) : PAa := fun env Q => p env fun d => match d with
  | .lst xs => Q (enumL xs)
  | _ => False
theorem wlk_enum {P : Option Addr} {G H0 : Hp} {a : Addr} {vs : List V} {xs : List D} (h : G a = some (.lst vs)) (r : RepL K P G vs xs) : Wlk K P (Ite K a) (enumL xs) G H0 := fun H2 G2 l w _ i => by
  have q : SqL K H2 a vs := SqL.of (w.gh _ _ (l _ _ h))
  have l1 := r.len
  refine ⟨fun hl => ⟨vs, q, ?_⟩, fun d hd => ?_⟩
  · unfold enumL at hl
    rw [List.length_map, List.length_zipIdx] at hl
    omega
  · unfold enumL at hd
    rw [List.getElem?_map, List.getElem?_zipIdx] at hd
    cases hx : xs[i]? with
    | none => rw [hx] at hd; cases hd
    | some x =>
      rw [hx] at hd
      cases hd
      obtain ⟨v, hv, rv⟩ := r.get hx
      refine ⟨⟨vs, v, q, hv⟩, fun z H3 yz => ?_⟩
      obtain ⟨T, v', rfl, hT, rfl, k1⟩ := yz
      have e1 := (k1 _ q).symm.trans hv
      cases e1
      obtain ⟨u', w'⟩ := take_new (o := .tup [.int (i : Nat), v]) w hT
      refine ⟨_, u', w', .tup (.inl (.inl upd_same)) (.cons ?_ (.cons ((rv.mono l).mono u'.g) .nil))⟩
      show Rep _ _ _ _ (D.int ((0 + i : Nat) : Int))
      rw [Nat.zero_add]
      exact .int _
theorem ji_enum {te : TE} {pe : PX} (hg : Gl X "enumerate") (hm : X.mg "enumerate" = none) (he : JS K X e te pe) (hs : starEach [e] X.env = [(false, eval e X.env)] := by rfl) (hk : X.K = K := by rfl) :
    JI K X (.Tuple elts kk tpos) (.Call (.Name "enumerate" p) [e] [] pos) (iEnum K (tCons te tNil)) (xEnum pe) := by
  subst hk
  refine ⟨pi_enum hg hm (pa_cons he.1 pa_nil hs) hs, fun P G0 H0 env σ H G S Q q R k => he.2 P G0 H0 env σ H G S _ q _ fun d v H1 G1 q1 u w r => ?_⟩
  cases d with
  | lst ds =>
    obtain ⟨a, vs, rfl, hq, rr⟩ := r.lst_inv
    exact ⟨a, vs, rfl, SqL.of (w.gh _ _ hq), k _ _ H1 G1 q1 u w (wlk_enum hq rr)⟩
  | _ => exact False.elim q1
end
end Pv
/-! PvT: lists and tuples of ints in order. -/
namespace Pv
open PySem PySem.Spec L2
/-- a comes no later than b -/
def leT : List Int → List Int → Bool
  | [], _ => true
  | _ :: _, [] => false
  | x :: xs, y :: ys => if x = y then leT xs ys else decide (x < y)
theorem leT_lt : ∀ a b : List Int, leT a b = !PySem.W.listLt b a
  | [], [] => rfl
  | [], _ :: _ => rfl
  | _ :: _, [] => rfl
  | x :: xs, y :: ys => by
    unfold leT PySem.W.listLt
    by_cases e : x = y
    · rw [if_pos e, if_pos e.symm]
      exact leT_lt xs ys
    · rw [if_neg e, if_neg fun z => e z.symm]
      show decide (x < y) = !decide (y < x)
      by_cases h : x < y
      · rw [decide_eq_true h, decide_eq_false (by omega)]
        rfl
      · rw [decide_eq_false h, decide_eq_true (by omega)]
        rfl
theorem leT_total : ∀ a b : List Int, (leT a b || leT b a) = true
  | [], _ => by simp [leT]
  | _ :: _, [] => by simp [leT]
  | x :: xs, y :: ys => by
    unfold leT
    by_cases e : x = y
    · rw [if_pos e, if_pos e.symm]
      exact leT_total xs ys
    · rw [if_neg e, if_neg fun z => e z.symm]
      by_cases h : x < y
      · simp [h]
      · have : y < x := by omega
        simp [this]
theorem leT_trans : ∀ a b c : List Int, leT a b = true → leT b c = true → leT a c = true
  | [], _, _, _, _ => by simp [leT]
  | _ :: _, [], _, h, _ => by simp [leT] at h
  | _ :: _, _ :: _, [], _, h => by simp [leT] at h
  | x :: xs, y :: ys, z :: zs, h, k => by
    unfold leT at *
    by_cases e : x = y
    · rw [if_pos e] at h
      by_cases f : y = z
      · rw [if_pos f] at k
        rw [if_pos (e.trans f)]
        exact leT_trans xs ys zs h k
      · rw [if_neg f] at k
        rw [if_neg (by rw [e]; exact f), e]
        exact k
    · rw [if_neg e] at h
      have h := of_decide_eq_true h
      by_cases f : y = z
      · rw [if_neg (by rw [← f]; exact e), ← f]
        exact decide_eq_true h
      · rw [if_neg f] at k
        have k := of_decide_eq_true k
        rw [if_neg (by omega)]
        exact decide_eq_true (by omega)
theorem leT_anti : ∀ a b : List Int, leT a b = true → leT b a = true → a = b
  | [], [], _, _ => rfl
  | [], _ :: _, _, h => by simp [leT] at h
  | _ :: _, [], h, _ => by simp [leT] at h
  | x :: xs, y :: ys, h, k => by
    unfold leT at h k
    by_cases e : x = y
    · rw [if_pos e] at h
      rw [if_pos e.symm] at k
      rw [e, leT_anti xs ys h k]
    · rw [if_neg e] at h
      rw [if_neg fun z => e z.symm] at k
      have := of_decide_eq_true h
      have := of_decide_eq_true k
      omega
def srtT (xs : List (List Int)) : List (List Int) := xs.mergeSort leT
theorem srtT_perm (xs : List (List Int)) : List.Perm (srtT xs) xs := List.mergeSort_perm _ _
theorem srtT_le (xs : List (List Int)) : (srtT xs).Pairwise fun a b => leT a b = true := List.pairwise_mergeSort leT_trans leT_total xs
theorem srtT_eq {xs ys : List (List Int)} (p : List.Perm ys xs) (s : ys.Pairwise fun a b => leT a b = true) : srtT xs = ys :=
  List.Perm.eq_of_pairwise (fun a b _ _ h k => leT_anti a b h k) (srtT_le xs) s ((srtT_perm xs).trans p.symm)
theorem srtT_congr {xs ys : List (List Int)} (p : List.Perm ys xs) : srtT xs = srtT ys := srtT_eq ((srtT_perm ys).trans p) (srtT_le ys)
theorem srtT_filter (f : List Int → Bool) (xs : List (List Int)) : (srtT xs).filter f = srtT (xs.filter f) := (srtT_eq ((srtT_perm xs).filter f) ((srtT_le xs).filter f)).symm
/-- a tuple of ints -/
def tiE (xs : List Int) : D := .tup (xs.map D.int)
theorem lt_ti (a b : List Int) : ltD (tiE a) (tiE b) = PySem.W.listLt a b := by
  unfold ltD tiE
  rw [py, py, pyL_map, pyL_map]
  exact PySem.W.DatumOrd.lt_eq (⟨a⟩ : PySem.W.Tup Int) ⟨b⟩
theorem lt_li (a b : List Int) : ltD (liE a) (liE b) = PySem.W.listLt a b := by
  unfold ltD liE
  rw [py, py, pyL_map, pyL_map]
  exact PySem.W.DatumOrd.lt_eq a b
theorem le_ti (a b : List Int) : leD (tiE a) (tiE b) = leT a b := by
  unfold leD
  rw [lt_ti, leT_lt]
theorem le_li (a b : List Int) : leD (liE a) (liE b) = leT a b := by
  unfold leD
  rw [lt_li, leT_lt]
theorem alk_ti (xs ys : List Int) : alk (tiE xs) (tiE ys) = true := by
  unfold alk tiE
  rw [py, py, pyL_map, pyL_map]
  exact PySem.W.DatumOrd.alike (⟨xs⟩ : PySem.W.Tup Int) ⟨ys⟩
theorem pl_ti (n : Nat) (xs : List Int) : pl (n + 1) (tiE xs) = true := pl_ints n xs
theorem sorted_ti {xs : List (List Int)} {Q : D → Prop} (h : ∀ x ∈ xs, x ≠ []) (q : Q (.lst ((srtT xs).map tiE))) : oSorted [.lst (xs.map tiE)] Q := by
  refine oSorted_mk ?_ ?_ ?_ ?_
  · rw [List.all_eq_true]
    intro d h
    obtain ⟨i, _, rfl⟩ := List.mem_map.mp h
    exact pl_ti 14 i
  · intro a ha b hb
    obtain ⟨i, _, rfl⟩ := List.mem_map.mp ha
    obtain ⟨j, _, rfl⟩ := List.mem_map.mp hb
    exact alk_ti i j
  · refine .inl fun d hd => ?_
    obtain ⟨i, hi, rfl⟩ := List.mem_map.mp hd
    cases i with
    | nil => exact absurd rfl (h _ hi)
    | cons x r => exact ⟨_, _, rfl⟩
  · unfold srtT at q
    rw [List.map_mergeSort (s := leD) (f := tiE) fun a _ b _ => (le_ti a b).symm] at q
    exact q
theorem sorted_liT {xs : List (List Int)} {Q : D → Prop} (q : Q (.lst ((srtT xs).map liE))) : oSorted [.lst (xs.map liE)] Q := by
  refine oSorted_mk ?_ ?_ ?_ ?_
  · rw [List.all_eq_true]
    intro d h
    obtain ⟨i, _, rfl⟩ := List.mem_map.mp h
    exact pl_li 14 i
  · intro a ha b hb
    obtain ⟨i, _, rfl⟩ := List.mem_map.mp ha
    obtain ⟨j, _, rfl⟩ := List.mem_map.mp hb
    exact alk_li i j
  · refine .inr fun d h => ?_
    obtain ⟨i, _, rfl⟩ := List.mem_map.mp h
    exact ⟨nofun, nofun⟩
  · unfold srtT at q
    rw [List.map_mergeSort (s := leD) (f := liE) fun a _ b _ => (le_li a b).symm] at q
    exact q
theorem xRange_z (n : Nat) : xRange 0 (n : Int) = (List.range n).map fun i : Nat => D.int (0 + (i : Int)) := by
  unfold xRange
  rw [Int.sub_zero, Int.toNat_natCast]
theorem xRange_m {lo n : Int} {m : Nat} (h : (n - lo).toNat = m) : xRange lo n = (List.range m).map fun i : Nat => D.int (lo + (i : Int)) := by
  unfold xRange
  rw [h]
/-- two fors -/
theorem xLcI_t {α : Type} {t : PTg} {c : PTt} {elt : PX} {env : En} {Q : List D → Prop} (enc : α → D) (p : α → Bool) (g : α → D) : ∀ (xs : List α) (acc : List D),
    (∀ x ∈ xs, ∀ (R1 : D → Prop) (R0 : Prop), (p x = true → R1 (g x)) → (p x = false → R0) → t (enc x) env fun env' => c env' fun b => Br b (elt env' R1) R0) →
    Q (acc ++ (xs.filter p).map g) → xLcI t c elt env Q (xs.map enc) acc
  | [], acc, _, q => by
    rw [List.filter_nil, List.map_nil, List.append_nil] at q
    exact q
  | x :: xs, acc, h, q => by
    refine h x List.mem_cons_self _ _ (fun e => ?_) (fun e => ?_)
    · refine xLcI_t enc p g xs _ (fun y hy => h y (List.mem_cons_of_mem _ hy)) ?_
      rw [List.filter_cons_of_pos e, List.map_cons] at q
      rw [List.append_assoc]
      exact q
    · refine xLcI_t enc p g xs _ (fun y hy => h y (List.mem_cons_of_mem _ hy)) ?_
      rw [List.filter_cons_of_neg (by rw [e]; exact Bool.false_ne_true)] at q
      exact q
/-- the outer for, with no test of its own: what the inner one adds is f -/
theorem xLc2_t {α : Type} {i : Nat} {src1 : PAa} {vs1 : List Nat} {t1 : PTg} {c1 : PTt} {elt : PX} {env : En} {Q : D → Prop} (enc : α → D) (f : α → List D) (M : Nat) : ∀ (xs : List α) (acc : List D), acc.length + (xs.flatMap f).length ≤ M →
    (∀ x ∈ xs, ∀ (acc : List D) (R : List D → Prop), acc.length ≤ M → R (acc ++ f x) → src1 (env.set i (some (.fz (enc x)))) fun ds1 => acc.length + ds1.length ≤ 16777216 ∧ xLcI t1 c1 elt (wipeE (env.set i (some (.fz (enc x)))) vs1) R ds1 acc) →
    Q (.lst (acc ++ xs.flatMap f)) → xLcO (xTg i) xYes src1 vs1 t1 c1 elt env Q (xs.map enc) acc
  | [], acc, _, _, q => by
    rw [List.flatMap_nil, List.append_nil] at q
    exact q
  | x :: xs, acc, hM, h, q => by
    rw [List.flatMap_cons, List.length_append] at hM
    refine ⟨fun _ => h x List.mem_cons_self acc _ (by omega) ?_, fun e => (nomatch e)⟩
    refine xLc2_t enc f M xs _ (by rw [List.length_append]; omega) (fun y hy => h y (List.mem_cons_of_mem _ hy)) ?_
    rw [List.flatMap_cons, ← List.append_assoc] at q
    exact q
/-- a comprehension whose items are only known to hold P -/
theorem xLc_nd {α : Type} {i : Nat} {elt : PX} {env : En} {Q : D → Prop} (enc : α → D) (P : D → Prop) : ∀ (xs : List α) (acc : List D),
    (∀ x ∈ xs, ∀ R : D → Prop, (∀ d, P d → R d) → elt (env.set i (some (.fz (enc x)))) R) → (∀ ys : List D, ys.length = xs.length → (∀ y ∈ ys, P y) → Q (.lst (acc ++ ys))) → xLcL (xTg i) xYes elt env Q (xs.map enc) acc
  | [], acc, _, q => by
    have := q [] rfl (fun _ h => (nomatch h))
    rwa [List.append_nil] at this
  | x :: xs, acc, h, q => by
    refine ⟨fun _ => h x List.mem_cons_self _ fun d hd => ?_, fun e => (nomatch e)⟩
    refine xLc_nd enc P xs _ (fun y hy => h y (List.mem_cons_of_mem _ hy)) fun ys hl hp => ?_
    rw [List.append_assoc]
    exact q (d :: ys) (by rw [List.length_cons, List.length_cons, hl]) fun y hy => (List.mem_cons.mp hy).elim (fun e => by rw [e]; exact hd) (hp y)
theorem ints_all {P : Int → Prop} : ∀ ys : List D, (∀ y ∈ ys, ∃ v : Int, y = .int v ∧ P v) → ∃ ks : List Int, ys = ks.map D.int ∧ ∀ k ∈ ks, P k
  | [], _ => ⟨[], rfl, fun _ h => (nomatch h)⟩
  | y :: ys, h => by
    obtain ⟨v, e, hv⟩ := h y List.mem_cons_self
    obtain ⟨ks, e2, hk⟩ := ints_all ys fun z hz => h z (List.mem_cons_of_mem _ hz)
    exact ⟨v :: ks, by rw [e, e2]; rfl, fun k hk' => (List.mem_cons.mp hk').elim (fun e => by rw [e]; exact hv) (hk k)⟩
theorem zipL_int (xs ys : List Int) : zipL (xs.map D.int) (ys.map D.int) = (xs.zip ys).map fun p => D.tup [.int p.1, .int p.2] := by
  unfold zipL
  rw [List.zipWith_map, List.zip, List.map_zipWith]
theorem cut_tail (xs : List D) : cutD xs (some ((1 : Nat) : Int)) none = xs.drop 1 := by
  unfold cutD
  rw [HT.sIx_none, HT.sIx_nat]
  cases xs with
  | nil => rfl
  | cons x xs =>
    have e : min 1 (x :: xs).length = 1 := by rw [List.length_cons]; omega
    rw [e]
    exact List.take_of_length_le (by rw [List.length_drop]; omega)
theorem range_filter : ∀ (b lo hi : Nat), hi ≤ b → ((List.range b).filter fun o => decide (lo ≤ o) && decide (o < hi)) = List.range' lo (hi - lo)
  | 0, lo, hi, h => by
    have : hi - lo = 0 := by omega
    rw [this]
    rfl
  | b + 1, lo, hi, h => by
    rw [List.range_succ, List.filter_append]
    by_cases e : hi ≤ b
    · rw [range_filter b lo hi e]
      have : ¬ b < hi := by omega
      simp [this]
    · have e : hi = b + 1 := by omega
      subst e
      have : ((List.range b).filter fun o => decide (lo ≤ o) && decide (o < b + 1)) = (List.range b).filter fun o => decide (lo ≤ o) && decide (o < b) := List.filter_congr fun o ho => by
        have := List.mem_range.mp ho
        have h1 : o < b + 1 := by omega
        simp [this, h1]
      rw [this, range_filter b lo b (Nat.le_refl _)]
      by_cases l : lo ≤ b
      · have e2 : b + 1 - lo = (b - lo) + 1 := by omega
        have e3 : lo + (b - lo) = b := by omega
        rw [e2, List.range'_1_concat, e3]
        simp [l]
      · have e2 : b + 1 - lo = 0 := by omega
        have e3 : b - lo = 0 := by omega
        rw [e2, e3]
        simp [l]
theorem range_getD {t : List Int} {lo k : Nat} (h : lo + k ≤ t.length) : (List.range' lo k).map (fun o => t.getD o 0) = (t.drop lo).take k := by
  apply List.ext_getElem?
  intro i
  rw [List.getElem?_map, List.getElem?_take, List.getElem?_drop]
  by_cases l : i < k
  · rw [if_pos l, List.getElem?_range' l]
    have : lo + i < t.length := by omega
    simp [List.getD, List.getElem?_eq_getElem this]
  · rw [if_neg l]
    have : (List.range' lo k)[i]? = none := List.getElem?_eq_none (by simp; omega)
    rw [this]
    rfl
theorem flatMap_le {α β : Type} (f : α → List β) (n : Nat) : ∀ xs : List α, (∀ x ∈ xs, (f x).length ≤ n) → (xs.flatMap f).length ≤ xs.length * n
  | [], _ => by simp
  | x :: xs, h => by
    rw [List.flatMap_cons, List.length_append, List.length_cons, Nat.succ_mul]
    have := flatMap_le f n xs fun y hy => h y (List.mem_cons_of_mem _ hy)
    have := h x List.mem_cons_self
    omega
end Pv
namespace Law
open PySem PySem.Spec L2 Pv
/-- two heights at most m apart -/
def near (m a c : Int) : Bool := decide ((if a - c < 0 then -(a - c) else a - c) ≤ m)
theorem near_comm (m a c : Int) : near m a c = near m c a := by
  unfold near
  congr 1
  split <;> split <;> apply propext <;> constructor <;> intro <;> omega
def fairB (m : Int) (xs : List Int) : Bool := (xs.zip (xs.drop 1)).all fun p => near m p.1 p.2
def lastI (xs : List Int) : Int := xs.getLastD 0
/-- all keys of k heights below b; the fair ones -/
def stepA (b : Nat) (found : List (List Int)) : List (List Int) := found.flatMap fun o => (rgI b).map fun h => o ++ [h]
def allK (b : Nat) : Nat → List (List Int)
  | 0 => [[]]
  | k + 1 => stepA b (allK b k)
def stepF (b : Nat) (m : Int) (found : List (List Int)) : List (List Int) := found.flatMap fun o => ((rgI b).filter fun h => near m (lastI o) h).map fun h => o ++ [h]
def fairK (b : Nat) (m : Int) : Nat → List (List Int)
  | 0 => (rgI b).map fun h => [h]
  | k + 1 => stepF b m (fairK b m k)
theorem allK_len {b : Nat} : ∀ {k : Nat} {o : List Int}, o ∈ allK b k → o.length = k
  | 0, o, h => by
    rw [allK, List.mem_singleton] at h
    rw [h]
    rfl
  | k + 1, o, h => by
    obtain ⟨p, hp, hq⟩ := List.mem_flatMap.mp h
    obtain ⟨x, _, rfl⟩ := List.mem_map.mp hq
    rw [List.length_append, allK_len hp]
    rfl
theorem fairB_snoc (m : Int) : ∀ (o : List Int) (h : Int), o ≠ [] → fairB m (o ++ [h]) = (fairB m o && near m (lastI o) h)
  | [x], h, _ => by simp [fairB, lastI]
  | x :: y :: o, h, _ => by
    have ih := fairB_snoc m (y :: o) h (by simp)
    unfold fairB at *
    simp only [List.cons_append, List.drop_succ_cons, List.drop_zero, List.zip_cons_cons, List.all_cons] at *
    rw [ih]
    simp [lastI, Bool.and_assoc]
theorem fairK_eq (b : Nat) (m : Int) : ∀ k : Nat, fairK b m k = (allK b (k + 1)).filter (fairB m)
  | 0 => by
    unfold fairK allK stepA
    rw [allK, List.flatMap_singleton, List.filter_map]
    congr 1
    exact (List.filter_eq_self.mpr fun x _ => rfl).symm
  | k + 1 => by
    rw [fairK, fairK_eq b m k]
    show _ = (stepA b (allK b (k + 1))).filter (fairB m)
    unfold stepF stepA
    have ne : ∀ o ∈ allK b (k + 1), o ≠ [] := fun o h e => by
      have := allK_len h
      rw [e] at this
      cases this
    generalize allK b (k + 1) = xs at ne
    induction xs with
    | nil => rfl
    | cons o xs ih =>
      have ih := ih fun p h => ne p (List.mem_cons_of_mem _ h)
      have no := ne o List.mem_cons_self
      rw [List.flatMap_cons, List.filter_append, ← ih, List.filter_map]
      have hf : (fairB m ∘ fun h => o ++ [h]) = fun h => fairB m o && near m (lastI o) h := funext fun h => fairB_snoc m o h no
      rw [hf]
      by_cases e : fairB m o = true
      · rw [List.filter_cons_of_pos e, List.flatMap_cons]
        simp [e]
      · rw [List.filter_cons_of_neg e]
        have e : fairB m o = false := by simpa using e
        simp [e]
/-- how many fair keys end in each height -/
def stepC (b : Nat) (m : Int) (t : List Int) : List Int := (List.range b).map fun h : Nat => (((List.range b).filter fun o : Nat => near m o h).map fun o => t.getD o 0).sum
def tabC (b : Nat) (m : Int) : Nat → List Int
  | 0 => List.replicate b 1
  | k + 1 => stepC b m (tabC b m k)
theorem fact_count : ∀ k : Fin 4, ∀ b : Fin 6, ∀ m : Fin 4, (tabC b m k).sum = ((fairK b m k).length : Int) := by decide +kernel
def s_is_fair : PSpec := fun ds Q => ∃ (xs : List Int) (m : Int), ds = [tiE xs, .int m] ∧ xs.length ≤ 100 ∧ Q (.bl (fairB m xs))
theorem n_is_fair : ∀ ds Q, s_is_fair ds Q → ds.length = 2 := fun ds Q ⟨n, b, e, _⟩ => by rw [e]; rfl
def b_is_fair : PSt := (xRet (xCB oAll (xCons (xLc (xZipZ false (xCons (xVarS 0) (xCons (xSl (xVar 0) (xPart (xC (.int 1))) xNo) xNil))) [2, 3] (xTgT 2 (xTgCons (xTg 2) (xTgCons (xTg 3) xTgNil))) xYes (xOp oLe (xCB oAbs (xCons (xOp oSub (xVar 2) (xVar 3)) xNil)) (xVar 1))) xNil)))
theorem p_is_fair : ∀ ds Q, s_is_fair ds Q → b_is_fair (fin Q) (startE ["key", "m", "one", "other"].length ds) := fun ds Q ⟨xs, m, e, hl, k⟩ => by
  subst e
  refine ⟨xs.map D.int, cutD (xs.map D.int) (some ((1 : Nat) : Int)) none, rfl, rfl, fun e => (nomatch e), ?_⟩
  rw [cut_tail, ← List.map_drop, zipL_int]
  refine ⟨by rw [List.length_map, List.length_zip]; omega, ?_⟩
  refine xLc_t (fun p : Int × Int => D.tup [.int p.1, .int p.2]) (fun _ => true) (fun p => .bl (near m p.1 p.2)) _ [] ?_ ?_
  · rintro ⟨x, y⟩ _ R1 R0 r1 _
    exact ⟨rfl, fun _ => r1 rfl, fun e => (nomatch e)⟩
  · rw [List.filter_eq_self.mpr fun _ _ => rfl, List.nil_append]
    refine ⟨(xs.zip (xs.drop 1)).map fun p => near m p.1 p.2, by rw [List.map_map]; rfl, ?_⟩
    rw [List.all_map]
    exact k
def s_fair_count : PSpec := fun ds Q => ∃ n b m : Nat, ds = [.int n, .int b, .int m] ∧ 1 ≤ n ∧ n ≤ 1000 ∧ b ≤ 1000 ∧ m ≤ 1000 ∧ Q (.int (tabC b m (n - 1)).sum)
theorem n_fair_count : ∀ ds Q, s_fair_count ds Q → ds.length = 3 := fun ds Q ⟨n, b, m, e, _⟩ => by rw [e]; rfl
theorem stepC_len {b : Nat} {m : Int} {t : List Int} : (stepC b m t).length = b := by
  unfold stepC
  rw [List.length_map, List.length_range]
theorem tabC_len {b : Nat} {m : Int} : ∀ {k : Nat}, (tabC b m k).length = b
  | 0 => List.length_replicate
  | k + 1 => stepC_len
theorem near_cut {b m o h : Nat} (ho : o < b) : near m o h = (decide (min ((if (h : Int) - m > 0 then (h : Int) - m else 0).toNat) b ≤ o) && decide (o < min (h + m + 1) b)) := by
  unfold near
  rw [← Bool.decide_and]
  congr 1
  apply propext
  split <;> split <;> constructor <;> intro <;> omega
def b_fair_count : PSt := (xSeq (xSet 3 (xOp oMul (xLst (xCons (xC (.int 1)) xNil)) (xVar 1)))
 (xSeq (xFor (xRng1 (xOp oSub (xVar 0) (xC (.int 1)))) (xTg 4) [0, 4]
 (xSet 3 (xLc (xRng1 (xVar 1)) [5] (xTg 5) xYes (xCB oSum (xCons (xSl (xVar 3) (xPart (xCB oMax2 (xCons (xC (.int 0)) (xCons (xOp oSub (xVar 5) (xVar 2)) xNil)))) (xPart (xOp oAdd (xOp oAdd (xVar 5) (xVar 2)) (xC (.int 1))))) xNil)))))
 (xRet (xCB oSum (xCons (xVar 3) xNil)))))
theorem p_fair_count : ∀ ds Q, s_fair_count ds Q → b_fair_count (fin Q) (startE ["n", "b", "m", "table", "_", "height"].length ds) := fun ds Q ⟨n, b, m, e, h1, hn, hb, hm, k⟩ => by
  subst e
  refine ⟨by show 1 ≤ 16777216; decide, by omega, by omega, by show 1 * (b : Int).toNat ≤ 16777216; omega, ?_⟩
  have e1 : (List.replicate (b : Int).toNat [D.int 1]).flatten = (tabC b m 0).map D.int := by
    rw [Int.toNat_natCast, List.flatten_replicate_singleton]
    unfold tabC
    rw [List.map_replicate]
  rw [e1]
  refine ⟨⟨by omega, by omega⟩, ?_⟩
  refine xLoop_n (n - 1) (by omega) (fun j env => env = [none, some (.fz (.int b)), some (.fz (.int m)), some (.fz (.lst ((tabC b m j).map D.int))), none, none]) ?_ ?_ rfl
  · rintro j env hj rfl F' hr hk c1 c2
    refine ⟨⟨by omega, by omega⟩, by rw [xRange_len]; omega, ?_⟩
    rw [xRange_z]
    have tl := @tabC_len b m j
    refine xLc_m _ (fun h : Nat => .int (((List.range b).filter fun o : Nat => near m o h).map fun o => (tabC b m j).getD o 0).sum) _ ?_ ?_
    · intro h hh R q
      have hh := List.mem_range.mp hh
      refine ⟨((List.range b).filter fun o : Nat => near m o h).map fun o => (tabC b m j).getD o 0, ?_, q⟩
      have e2 : (List.range b).filter (fun o : Nat => near m o h) = (List.range b).filter fun o => decide (min ((if (h : Int) - m > 0 then (h : Int) - m else 0).toNat) b ≤ o) && decide (o < min (h + m + 1) b) := List.filter_congr fun o ho => near_cut (List.mem_range.mp ho)
      have e3 : (h : Int) + m + 1 = ((h + m + 1 : Nat) : Int) := by omega
      rw [e2, range_filter b _ _ (Nat.min_le_right _ _)]
      show cutD ((tabC b m j).map D.int) (some (if 0 + (h : Int) - m > 0 then 0 + (h : Int) - m else 0)) (some (0 + (h : Int) + m + 1)) = _
      rw [Int.zero_add]
      unfold cutD
      rw [e3, HT.sIx_nat, List.length_map, tl]
      have e4 : HT.sIx b 0 (some (if (h : Int) - m > 0 then (h : Int) - m else 0)) = min ((if (h : Int) - m > 0 then (h : Int) - m else 0).toNat) b := by
        have e5 : (if (h : Int) - m > 0 then (h : Int) - m else 0) = (((if (h : Int) - m > 0 then (h : Int) - m else 0).toNat : Nat) : Int) := by
          split <;> omega
        rw [e5, HT.sIx_nat, Int.toNat_natCast]
      rw [e4]
      generalize hlo : min ((if (h : Int) - m > 0 then (h : Int) - m else 0).toNat) b = lo
      generalize hhi : min (h + m + 1) b = hi
      by_cases l : lo ≤ hi
      · rw [range_getD (by rw [tl]; omega), List.map_take, List.map_drop]
      · have : hi - lo = 0 := by omega
        rw [this]
        rfl
    · refine c1 _ ?_
      show [none, _, _, some (Sl.fz (D.lst _)), none, none] = _
      have : (List.range b).map (fun h : Nat => D.int (((List.range b).filter fun o : Nat => near m o h).map fun o => (tabC b m j).getD o 0).sum) = (tabC b m (j + 1)).map D.int := by
        show _ = (stepC b m (tabC b m j)).map D.int
        unfold stepC
        rw [List.map_map]
        rfl
      rw [this]
  · rintro env rfl
    exact ⟨_, rfl, k⟩
def s_fair_keys : PSpec := fun ds Q => ∃ n b m : Nat, ds = [.int n, .int b, .int m] ∧ 1 ≤ n ∧ n ≤ 4 ∧ b ≤ 5 ∧ m ≤ 1000 ∧ Q (.lst ((srtT (fairK b m (n - 1))).map tiE))
theorem n_fair_keys : ∀ ds Q, s_fair_keys ds Q → ds.length = 3 := fun ds Q ⟨n, b, m, e, _⟩ => by rw [e]; rfl
theorem fairK_ne {b : Nat} {m : Int} {k : Nat} {o : List Int} (h : o ∈ fairK b m k) : o ≠ [] := fun e => by
  rw [fairK_eq, List.mem_filter] at h
  have := allK_len h.1
  rw [e] at this
  cases this
theorem stepF_len {b : Nat} {m : Int} (xs : List (List Int)) : (stepF b m xs).length ≤ xs.length * b := by
  unfold stepF
  refine flatMap_le _ b xs fun o _ => ?_
  rw [List.length_map]
  exact Nat.le_trans (List.length_filter_le _ _) (Nat.le_of_eq (rgI_len b))
theorem fairK_len {b : Nat} {m : Int} (hb : b ≤ 5) : ∀ k : Nat, (fairK b m k).length ≤ 5 ^ (k + 1)
  | 0 => by
    rw [fairK, List.length_map, rgI_len]
    exact hb
  | k + 1 => by
    have := fairK_len hb (m := m) k
    have h2 : (fairK b m (k + 1)).length ≤ (fairK b m k).length * b := stepF_len _
    have h3 : (fairK b m k).length * b ≤ 5 ^ (k + 1) * 5 := Nat.mul_le_mul this hb
    rw [Nat.pow_succ]
    omega
theorem last_at {o : List Int} (h : o ≠ []) : L2.atI (o.map D.int) (-1) = some (.int (lastI o)) := by
  have hl : 0 < o.length := List.length_pos_iff.mpr h
  unfold L2.atI L2.ixN
  rw [if_neg (by decide), List.length_map, if_pos (by omega)]
  have e : (-1 + (o.length : Int)).toNat = o.length - 1 := by omega
  show (o.map D.int)[(-1 + (o.length : Int)).toNat]? = _
  rw [e, List.getElem?_map, ← List.getLast?_eq_getElem?]
  unfold lastI
  rw [List.getLastD_eq_getLast?]
  cases hq : o.getLast? with
  | none => exact absurd (List.getLast?_eq_none_iff.mp hq) h
  | some x => rfl
def b_fair_keys : PSt := (xSeq (xSet 3 (xLc (xRng1 (xVar 1)) [5] (xTg 5) xYes (xTup (xCons (xVarS 5) xNil))))
 (xSeq (xFor (xRng1 (xOp oSub (xVar 0) (xC (.int 1)))) (xTg 4) [0, 4]
 (xSet 3 (xLc2 (xItems (xVarS 3)) [6, 5] (xTg 6) xYes (xRng1 (xVar 1)) [5] (xTg 5) (xTest (xOp oLe (xCB oAbs (xCons (xOp oSub (xOp oIx (xVar 6) (xUn oNeg (xC (.int 1)))) (xVar 5)) xNil)) (xVar 2))) (xOp oAdd (xVar 6) (xTup (xCons (xVarS 5) xNil))))))
 (xRet (xCB oSorted (xCons (xVar 3) xNil)))))
theorem p_fair_keys : ∀ ds Q, s_fair_keys ds Q → b_fair_keys (fin Q) (startE ["n", "b", "m", "found", "_", "height", "key"].length ds) := fun ds Q ⟨n, b, m, e, h1, hn, hb, hm, k⟩ => by
  subst e
  refine ⟨⟨by omega, by omega⟩, by rw [xRange_len]; omega, ?_⟩
  rw [xRange_0]
  refine xLc_m D.int (fun h => tiE [h]) (rgI b) (fun h _ R q => ⟨by show 1 ≤ 16777216; decide, q⟩) ?_
  have e0 : (rgI b).map (fun h => tiE [h]) = (fairK b m 0).map tiE := by rw [fairK, List.map_map]; rfl
  rw [e0]
  refine ⟨⟨by omega, by omega⟩, ?_⟩
  refine xLoop_n (n - 1) (by omega) (fun j env => env = [none, some (.fz (.int b)), some (.fz (.int m)), some (.fz (.lst ((fairK b m j).map tiE))), none, none, none]) ?_ ?_ rfl
  · rintro j env hj rfl F' hr hk c1 c2
    have l1 : (fairK b m (j + 1)).length ≤ 5 ^ (j + 1 + 1) := fairK_len hb _
    have l2 : 5 ^ (j + 1 + 1) ≤ 5 ^ 4 := Nat.pow_le_pow_right (by decide) (by omega)
    have l3 : 5 ^ 4 = 625 := by decide
    have fe : (fairK b m j).flatMap (fun o => ((rgI b).filter fun h => near m (lastI o) h).map fun h => tiE (o ++ [h])) = (fairK b m (j + 1)).map tiE := by
      show _ = (stepF b m (fairK b m j)).map tiE
      unfold stepF
      rw [List.map_flatMap]
      congr 1
      funext o
      rw [List.map_map]
      rfl
    refine xLc2_t tiE (fun o => ((rgI b).filter fun h => near m (lastI o) h).map fun h => tiE (o ++ [h])) 1000 (fairK b m j) [] ?_ ?_ ?_
    · rw [fe, List.length_map, List.length_nil]
      omega
    · intro o ho acc R ha q
      have no := fairK_ne ho
      have hol : o.length = j + 1 := by
        rw [fairK_eq, List.mem_filter] at ho
        exact allK_len ho.1
      refine ⟨⟨by omega, by omega⟩, by rw [xRange_len]; omega, ?_⟩
      rw [xRange_0]
      refine xLcI_t D.int (fun h => near m (lastI o) h) (fun h => tiE (o ++ [h])) (rgI b) acc ?_ q
      intro h hh R1 R0 r1 r0
      refine ⟨.int (lastI o), last_at no, ?_⟩
      refine ⟨fun e => ?_, fun e => r0 e⟩
      refine ⟨by show 1 ≤ 16777216; decide, by rw [List.length_map]; show o.length + 1 ≤ 16777216; omega, ?_⟩
      have e : o.map D.int ++ [D.int h] = (o ++ [h]).map D.int := by rw [List.map_append]; rfl
      show R1 (.tup (o.map D.int ++ [D.int h]))
      rw [e]
      exact r1 ‹_›
    · rw [List.nil_append, fe]
      exact c1 _ rfl
  · rintro env rfl
    show oSorted [D.lst ((fairK b m (n - 1)).map tiE)] _
    exact sorted_ti (fun o ho => fairK_ne ho) k
/-- every key with a height of each chamber -/
def stepK (found : List (List Int)) (c : List Int) : List (List Int) := found.flatMap fun o => c.map fun h => o ++ [h]
def keysOf (cs : List (List Int)) : List (List Int) := cs.foldl stepK [[]]
theorem stepK_len {f : List (List Int)} {c : List Int} : (stepK f c).length = f.length * c.length := by
  unfold stepK
  induction f with
  | nil => simp
  | cons o f ih => rw [List.flatMap_cons, List.length_append, ih, List.length_map, List.length_cons, Nat.succ_mul, Nat.add_comm]
theorem stepK_ne {f : List (List Int)} {c o : List Int} (h : o ∈ stepK f c) : o ≠ [] := by
  obtain ⟨p, _, hp⟩ := List.mem_flatMap.mp h
  obtain ⟨x, _, rfl⟩ := List.mem_map.mp hp
  simp
theorem foldK_ne {cs : List (List Int)} : ∀ {f : List (List Int)}, (cs ≠ [] ∨ ∀ o ∈ f, o ≠ []) → ∀ o ∈ cs.foldl stepK f, o ≠ [] := by
  induction cs with
  | nil => exact fun {f} h => h.elim (fun z => absurd rfl z) id
  | cons c cs ih => exact fun {f} _ => ih (.inr fun o h => stepK_ne h)
def s__law_all_keys : PSpec := fun ds Q => ∃ cs : List (List Int), ds = [.lst (cs.map liE)] ∧ cs ≠ [] ∧ cs.length ≤ 6 ∧ (∀ c ∈ cs, c.length ≤ 10) ∧ Q (.lst ((srtT (keysOf cs)).map tiE))
theorem n__law_all_keys : ∀ ds Q, s__law_all_keys ds Q → ds.length = 1 := fun ds Q ⟨cs, e, _⟩ => by rw [e]; rfl
def b__law_all_keys : PSt := (xSeq (xSet 1 (xLst (xCons (xTup xNil) xNil)))
 (xSeq (xFor (xItems (xVarS 0)) (xTg 2) [0, 2, 3, 4]
 (xSeq (xSet 3 (xLst xNil))
 (xSeq (xFor (xItems (xVarS 1)) (xTg 4) [0, 1, 4]
 (xSet 3 (xOp oAdd (xVar 3) (xLc (xItems (xVarS 2)) [5] (xTg 5) xYes (xOp oAdd (xVar 4) (xTup (xCons (xVarS 5) xNil)))))))
 (xSet 1 (xVarS 3)))))
 (xRet (xCB oSorted (xCons (xVar 1) xNil)))))
theorem p__law_all_keys : ∀ ds Q, s__law_all_keys ds Q → b__law_all_keys (fin Q) (startE ["lock", "found", "chamber", "more", "key", "height"].length ds) := fun ds Q ⟨cs, e, hne, hl, hc, k⟩ => by
  subst e
  refine ⟨by show 0 ≤ 16777216; decide, by show 1 ≤ 16777216; decide, ?_⟩
  refine xLoop_t liE (fun rs env => ∃ found : List (List Int), env = [none, some (.fz (.lst (found.map tiE))), none, none, none, none] ∧ rs.length ≤ cs.length ∧ (∀ c ∈ rs, c.length ≤ 10) ∧ found.length ≤ 10 ^ (cs.length - rs.length) ∧ (∀ o ∈ found, o.length + rs.length = cs.length) ∧ rs.foldl stepK found = keysOf cs) ?_ ?_ _ _ ?_
  · rintro c rs env ⟨found, rfl, h1, h2, h3, h4, h5⟩ F' hr hk c1 c2
    rw [List.length_cons] at h1 h3
    have hcl := h2 c List.mem_cons_self
    have e10 : 10 ^ (cs.length - rs.length) = 10 ^ (cs.length - (rs.length + 1)) * 10 := by
      rw [← Nat.pow_succ]
      congr 1
      omega
    have b6 : 10 ^ (cs.length - rs.length) ≤ 10 ^ 6 := Nat.pow_le_pow_right (by decide) (by omega)
    have e6 : 10 ^ 6 = 1000000 := by decide
    have sl := @stepK_len found c
    have sl2 : found.length * c.length ≤ found.length * 10 := Nat.mul_le_mul_left _ hcl
    refine ⟨by show 0 ≤ 16777216; decide, ?_⟩
    refine xLoop_t tiE (fun os env => ∃ more : List (List Int), env = [none, none, some (.fz (liE c)), some (.fz (.lst (more.map tiE))), none, none] ∧ (∀ o ∈ os, o.length ≤ 6) ∧ more.length + os.length * c.length = (stepK found c).length ∧ more ++ stepK os c = stepK found c) ?_ ?_ _ _ ?_
    · rintro o os env ⟨more, rfl, g1, g2, g3⟩ F2 hr2 hk2 d1 d2
      rw [List.length_cons, Nat.succ_mul] at g2
      have ho := g1 o List.mem_cons_self
      refine ⟨by rw [List.length_map]; omega, ?_⟩
      refine xLc_m D.int (fun h => tiE (o ++ [h])) c ?_ ?_
      · intro h hh R q
        refine ⟨by show 1 ≤ 16777216; decide, by rw [List.length_map]; show o.length + 1 ≤ 16777216; omega, ?_⟩
        have e : o.map D.int ++ [D.int h] = (o ++ [h]).map D.int := by rw [List.map_append]; rfl
        show R (.tup (o.map D.int ++ [D.int h]))
        rw [e]
        exact q
      · refine ⟨by rw [List.length_map, List.length_map]; omega, d1 _ ⟨more ++ c.map (fun h => o ++ [h]), ?_, fun p hp => g1 p (List.mem_cons_of_mem _ hp), ?_, ?_⟩⟩
        · rw [List.map_append, List.map_map]
          rfl
        · rw [List.length_append, List.length_map]
          omega
        · rw [← g3, List.append_assoc]
          rfl
    · rintro env ⟨more, rfl, g1, g2, g3⟩
      have g3 : more = stepK found c := by rw [← g3]; unfold stepK; simp
      refine c1 _ ⟨more, rfl, by omega, fun d hd => h2 d (List.mem_cons_of_mem _ hd), ?_, ?_, by rw [g3]; exact h5⟩
      · rw [g3, e10]
        omega
      · intro p hp
        rw [g3] at hp
        obtain ⟨o, ho, hp⟩ := List.mem_flatMap.mp hp
        obtain ⟨x, _, rfl⟩ := List.mem_map.mp hp
        have := h4 o ho
        rw [List.length_cons] at this
        rw [List.length_append, List.length_singleton]
        omega
    · refine ⟨[], rfl, fun o ho => ?_, by rw [sl]; simp, rfl⟩
      have := h4 o ho
      rw [List.length_cons] at this
      omega
  · rintro env ⟨found, rfl, h1, h2, h3, h4, h5⟩
    have h5 : found = keysOf cs := h5
    show oSorted [D.lst (found.map tiE)] _
    refine sorted_ti ?_ (by rw [h5]; exact k)
    rw [h5]
    exact foldK_ne (.inl hne)
  · exact ⟨[[]], rfl, Nat.le_refl _, hc, by simp, by simp, rfl⟩
/-- data that _law_same finds the same as itself, within n calls -/
def smk : Nat → D → Bool
  | 0, _ => false
  | _ + 1, .non => true
  | _ + 1, .bl _ => true
  | _ + 1, .int _ => true
  | _ + 1, .str s => PyData.strOk s
  | n + 1, .lst xs => decide (xs.length ≤ 16777216) && xs.all (smk n)
  | n + 1, .tup xs => decide (xs.length ≤ 16777216) && xs.all (smk n)
  | _ + 1, _ => false
def r__law_same (n : Nat) : PSpec := fun ds Q => ∃ d, ds = [d, d] ∧ smk n d = true ∧ Q (.bl true)
abbrev s__law_same : PSpec := r__law_same 8
theorem z__law_same : ∀ ds Q, ¬ r__law_same 0 ds Q := fun ds Q ⟨d, _, h, _⟩ => by cases d <;> cases h
theorem n__law_same (n : Nat) : ∀ ds Q, r__law_same n ds Q → ds.length = 2 := fun ds Q ⟨d, e, _⟩ => by rw [e]; rfl
def b__law_same (s__law_same : PSpec) : PSt := (xSeq (xIf (xTest (xOp oIs (xVar 1) (xC .non)))
 (xRet (xOp oIs (xVar 0) (xC .non)))
 xSkip)
 (xSeq (xIf (xTest (xOp oIs (xVar 1) (xC (.bl true))))
 (xRet (xOp oIs (xVar 0) (xC (.bl true))))
 xSkip)
 (xSeq (xIf (xTest (xOp oIs (xVar 1) (xC (.bl false))))
 (xRet (xOp oIs (xVar 0) (xC (.bl false))))
 xSkip)
 (xSeq (xIf (xTru (xIsi isInt (xVar 1)))
 (xRet (xAndV (xIsi isInt (xVar 0)) (xAndV (xNot (xIsi isBl (xVar 0))) (xOp oEq (xVar 0) (xVar 1)))))
 xSkip)
 (xSeq (xIf (xTru (xIsi isStr (xVar 1)))
 (xRet (xAndV (xIsi isStr (xVar 0)) (xOp oEq (xVar 0) (xVar 1))))
 xSkip)
 (xSeq (xIf (xTru (xIsi isDk (xVar 1)))
 (xSeq (xIf (xOr (xNotT (xTru (xIsi isDk (xVar 0)))) (xTest (xOp oNe (xCB oLen (xCons (xVar 0) xNil)) (xCB oLen (xCons (xVar 1) xNil)))))
 (xRet (xC (.bl false)))
 xSkip)
 (xSeq (xFor (xItems (xVarS 1)) (xTg 2) [2, 3]
 (xIf (xOr (xTest (xOp oNotInA (xVar 2) (xVar 0))) (xNotT (xTru (xCall s__law_same (xCons (xOp oIx (xVar 0) (xVar 2)) (xCons (xOp oIx (xVar 1) (xVar 2)) xNil))))))
 (xRet (xC (.bl false)))
 xSkip))
 (xRet (xC (.bl true)))))
 xSkip)
 (xSeq (xIf (xOr (xTest (xOp oNe (xIsi isTup (xVar 0)) (xIsi isTup (xVar 1)))) (xTest (xOp oNe (xIsi isLst (xVar 0)) (xIsi isLst (xVar 1)))))
 (xRet (xC (.bl false)))
 xSkip)
 (xSeq (xIf (xTest (xOp oNe (xCB oLen (xCons (xVar 0) xNil)) (xCB oLen (xCons (xVar 1) xNil))))
 (xRet (xC (.bl false)))
 xSkip)
 (xSeq (xFor (xRng1 (xCB oLen (xCons (xVar 1) xNil))) (xTg 3) [2, 3]
 (xIf (xNotT (xTru (xCall s__law_same (xCons (xOp oIx (xVar 0) (xVar 3)) (xCons (xOp oIx (xVar 1) (xVar 3)) xNil)))))
 (xRet (xC (.bl false)))
 xSkip))
 (xRet (xC (.bl true))))))))))))
theorem q__law_same (n : Nat) {xs : List D} {F' F : Fx} {d : D} {j : Nat} (h : ∀ x ∈ xs, smk n x = true) (hj : j < xs.length) {e1 : En} (hn : F'.nx e1) (he : L2.atI xs (0 + (j : Int)) = some xs[j]) : ∃ d, L2.atI xs (0 + (j : Int)) = some d ∧ ∃ d', L2.atI xs (0 + (j : Int)) = some d' ∧ ∃ Q0, r__law_same n [d, d'] Q0 ∧ ∀ d, Q0 d → ∃ b, truD d = some b ∧ Br (!b) (F'.rt (.bl false)) (F'.nx e1) :=
  ⟨_, he, _, he, (· = .bl true), ⟨_, rfl, h _ (List.getElem_mem hj), rfl⟩, fun d e => ⟨true, by rw [e]; rfl, Br.no rfl hn⟩⟩
theorem p__law_same (n : Nat) : ∀ ds Q, r__law_same (n + 1) ds Q → b__law_same (r__law_same n) (fin Q) (startE ["actual", "due", "key", "k"].length ds) := fun ds Q ⟨d, e, h, k⟩ => by
  subst e
  have ti : ∀ b : Bool, eqD (.bl b) (.bl b) = true := fun b => eqD_refl rfl
  have neq : ∀ {A B : Prop} (n : Int), B → Br (!eqD (.int n) (.int n)) A B := fun n q => Br.no (by rw [eqD_int]; simp) q
  cases d with
  | non => exact Br.yes rfl k
  | bl b =>
    cases b with
    | true => exact Br.no rfl (Br.yes rfl k)
    | false => exact Br.no rfl (Br.no rfl (Br.yes rfl k))
  | int i => exact Br.no rfl (Br.no rfl (Br.no rfl ⟨rfl, true, rfl, Br.yes rfl ⟨rfl, Br.yes rfl ⟨rfl, Br.yes rfl ⟨rfl, rfl, by
      show Q (.bl (eqD (.int i) (.int i)))
      rw [eqD_refl rfl]
      exact k⟩⟩⟩⟩))
  | str s =>
    have hs : PyData.strOk s = true := h
    exact Br.no rfl (Br.no rfl (Br.no rfl ⟨rfl, false, rfl, Br.no rfl ⟨rfl, true, rfl, Br.yes rfl ⟨rfl, Br.yes rfl ⟨hs, hs, by
      show Q (.bl (eqD (.str s) (.str s)))
      rw [eqD_refl (d := .str s) (by exact hs)]
      exact k⟩⟩⟩⟩))
  | lst xs =>
    have h : (decide (xs.length ≤ 16777216) && xs.all (smk n)) = true := h
    rw [Bool.and_eq_true, decide_eq_true_eq, List.all_eq_true] at h
    refine Br.no rfl (Br.no rfl (Br.no rfl ⟨rfl, false, rfl, Br.no rfl ⟨rfl, false, rfl, Br.no rfl ⟨rfl, false, rfl, Br.no rfl ⟨rfl, rfl, rfl, rfl, Br.no (by rw [ti]; rfl) ⟨rfl, rfl, rfl, rfl, Br.no (by rw [ti]; rfl) ⟨rfl, rfl, neq _ ⟨⟨by omega, by omega⟩, ?_⟩⟩⟩⟩⟩⟩⟩))
    refine xLoop_n xs.length (by omega) (fun j env => env = [some (.fz (.lst xs)), some (.fz (.lst xs)), none, none]) ?_ ?_ rfl
    · rintro j env hj rfl F' hr hk h1 h2
      exact q__law_same n (F := F') (d := .non) h.2 hj (h1 _ rfl) (by rw [Int.zero_add]; exact atI_at (List.getElem?_eq_getElem hj))
    · rintro env rfl
      exact k
  | tup xs =>
    have h : (decide (xs.length ≤ 16777216) && xs.all (smk n)) = true := h
    rw [Bool.and_eq_true, decide_eq_true_eq, List.all_eq_true] at h
    refine Br.no rfl (Br.no rfl (Br.no rfl ⟨rfl, false, rfl, Br.no rfl ⟨rfl, false, rfl, Br.no rfl ⟨rfl, false, rfl, Br.no rfl ⟨rfl, rfl, rfl, rfl, Br.no (by rw [ti]; rfl) ⟨rfl, rfl, rfl, rfl, Br.no (by rw [ti]; rfl) ⟨rfl, rfl, neq _ ⟨⟨by omega, by omega⟩, ?_⟩⟩⟩⟩⟩⟩⟩))
    refine xLoop_n xs.length (by omega) (fun j env => env = [some (.fz (.tup xs)), some (.fz (.tup xs)), none, none]) ?_ ?_ rfl
    · rintro j env hj rfl F' hr hk h1 h2
      exact q__law_same n (F := F') (d := .non) h.2 hj (h1 _ rfl) (by rw [Int.zero_add]; exact atI_at (List.getElem?_eq_getElem hj))
    · rintro env rfl
      exact k
  | dk _ => cases h
  | dt _ => cases h
  | pool => cases h
theorem same_int {i : Int} {Q : D → Prop} (q : Q (.bl true)) : s__law_same [.int i, .int i] Q := ⟨_, rfl, rfl, q⟩
theorem same_int' {i j : Int} {Q : D → Prop} (e : i = j) (q : Q (.bl true)) : s__law_same [.int i, .int j] Q := by
  subst e
  exact same_int q
theorem smk_li (n : Nat) (xs : List Int) (h : xs.length ≤ 16777216) : smk (n + 2) (liE xs) = true := by
  unfold liE smk
  rw [Bool.and_eq_true]
  refine ⟨decide_eq_true (by rw [List.length_map]; exact h), List.all_eq_true.mpr fun d hd => ?_⟩
  obtain ⟨i, _, rfl⟩ := List.mem_map.mp hd
  rfl
theorem same_li {xs : List Int} {Q : D → Prop} (h : xs.length ≤ 16777216) (q : Q (.bl true)) : s__law_same [.lst (xs.map D.int), .lst (xs.map D.int)] Q := ⟨_, rfl, smk_li 6 xs h, q⟩
def s__law_key : PSpec := fun ds Q => ∃ n b : Nat, ds = [.pool, .int n, .int b] ∧ n ≤ 1000 ∧ 0 < b ∧ b ≤ 1000000 ∧ ∀ ks : List Int, ks.length = n → (∀ x ∈ ks, 0 ≤ x ∧ x < b) → Q (tiE ks)
theorem n__law_key : ∀ ds Q, s__law_key ds Q → ds.length = 3 := fun ds Q ⟨n, b, e, _⟩ => by rw [e]; rfl
def b__law_key : PSt := (xRet (xCB (oSeqL .tup) (xCons (xLc (xRng1 (xVar 1)) [3] (xTg 3) xYes (xCall s__law_draw (xCons (xVarS 0) (xCons (xVarS 2) xNil)))) xNil)))
theorem p__law_key : ∀ ds Q, s__law_key ds Q → b__law_key (fin Q) (startE ["pool", "n", "b", "k"].length ds) := fun ds Q ⟨n, b, e, hn, h0, hb, k⟩ => by
  subst e
  refine ⟨⟨by omega, by omega⟩, by rw [xRange_len]; omega, ?_⟩
  rw [xRange_z]
  refine xLc_nd _ (fun d => ∃ v : Int, d = .int v ∧ 0 ≤ v ∧ v < b) _ _ ?_ ?_
  · intro i hi R q
    exact draw_c (by omega) (by omega) fun v hv => q _ ⟨v, rfl, by omega, hv⟩
  · intro ys hl hp
    obtain ⟨ks, rfl, hk⟩ := ints_all (P := fun v => 0 ≤ v ∧ v < b) ys hp
    rw [List.length_map, List.length_range] at hl
    exact k ks hl hk
theorem keys_all (b : Nat) : ∀ n : Nat, keysOf (List.replicate n (rgI b)) = allK b n
  | 0 => rfl
  | n + 1 => by
    unfold keysOf
    rw [List.replicate_succ', List.foldl_append]
    have := keys_all b n
    unfold keysOf at this
    rw [this]
    rfl
theorem near_at {m : Int} : ∀ {xs : List Int}, fairB m xs = ((List.range (xs.length - 1)).all fun i => near m (xs.getD (1 + i) 0) (xs.getD i 0))
  | [] => rfl
  | [x] => rfl
  | x :: y :: xs => by
    have ih := near_at (m := m) (xs := y :: xs)
    have e : (x :: y :: xs).length - 1 = ((y :: xs).length - 1) + 1 := by simp
    rw [e, List.range_succ_eq_map, List.all_cons, List.all_map]
    unfold fairB at *
    simp only [List.drop_succ_cons, List.drop_zero, List.zip_cons_cons, List.all_cons] at *
    have e2 : ∀ i, near m ((y :: xs).getD (1 + i) 0) ((y :: xs).getD i 0) = near m ((x :: y :: xs).getD (1 + (i + 1)) 0) ((x :: y :: xs).getD (i + 1) 0) := fun i => by
      have : 1 + (i + 1) = (1 + i) + 1 := by omega
      rw [this]
      rfl
    rw [ih, near_comm m x y]
    exact congrArg (fun f => near m y x && (List.range ((y :: xs).length - 1)).all f) (funext e2)
theorem fair_len {m : Int} {xs : List Int} : decide ((((List.range (xs.length - 1)).filter fun i => !near m (xs.getD (1 + i) 0) (xs.getD i 0)).length : Int) = 0) = fairB m xs := by
  rw [near_at]
  generalize List.range (xs.length - 1) = l
  induction l with
  | nil => rfl
  | cons i l ih =>
    rw [List.all_cons, ← ih]
    by_cases h : near m (xs.getD (1 + i) 0) (xs.getD i 0) = true
    · rw [List.filter_cons_of_neg (by rw [h]; decide), h, Bool.true_and]
    · rw [List.filter_cons_of_pos (by simpa using h)]
      have h : near m (xs.getD (1 + i) 0) (xs.getD i 0) = false := by simpa using h
      rw [h, Bool.false_and]
      exact decide_eq_false (by rw [List.length_cons]; omega)
theorem key_at {xs : List Int} {i : Nat} (h : i < xs.length) : L2.atI (xs.map D.int) (i : Int) = some (.int (xs.getD i 0)) :=
  atI_at (by rw [List.getElem?_map, List.getElem?_eq_getElem h]; simp [List.getD, List.getElem?_eq_getElem h])
/-- the places at which a key is not fair, as the law finds them -/
theorem bad_places {xs : List Int} {m : Int} {Q : D → Prop} {x0 x1 x2 x3 x4 x6 x7 x9 x10 x11 x12 x13 x14 : Option Sl} {n : Int} (hn : n = xs.length) (h1 : 1 ≤ xs.length)
    (q : Q (.lst (((List.range (xs.length - 1)).filter fun i => !near m (xs.getD (1 + i) 0) (xs.getD i 0)).map fun i : Nat => D.int (1 + (i : Int))))) :
    xLcL (xTg 12) (xTest (xOp oGt (xCB oAbs (xCons (xOp oSub (xOp oIx (xVar 8) (xVar 12)) (xOp oIx (xVar 8) (xOp oSub (xVar 12) (xC (.int 1))))) xNil)) (xVar 5))) (xVarS 12) [x0, x1, x2, x3, x4, some (.fz (.int m)), x6, x7, some (.fz (tiE xs)), x9, x10, x11, x12, x13, x14] Q (xRange 1 n) [] := by
  rw [hn, xRange_m (m := xs.length - 1) (by omega)]
  refine xLc_t (fun i : Nat => D.int (1 + (i : Int))) (fun i => !near m (xs.getD (1 + i) 0) (xs.getD i 0)) (fun i : Nat => D.int (1 + (i : Int))) _ [] ?_ q
  intro i hi R1 R0 r1 r0
  have hi := List.mem_range.mp hi
  have a1 : L2.atI (xs.map D.int) (1 + (i : Int)) = some (.int (xs.getD (1 + i) 0)) := by
    have e : (1 : Int) + (i : Int) = ((1 + i : Nat) : Int) := by omega
    rw [e]
    exact key_at (by omega)
  have a2 : L2.atI (xs.map D.int) (1 + (i : Int) - 1) = some (.int (xs.getD i 0)) := by
    have e : (1 : Int) + (i : Int) - 1 = (i : Int) := by omega
    rw [e]
    exact key_at (by omega)
  have en : decide (m < if xs.getD (1 + i) 0 - xs.getD i 0 < 0 then -(xs.getD (1 + i) 0 - xs.getD i 0) else xs.getD (1 + i) 0 - xs.getD i 0) = !near m (xs.getD (1 + i) 0) (xs.getD i 0) := by
    unfold near
    rw [← decide_not]
    congr 1
    apply propext
    constructor <;> intro <;> omega
  exact ⟨_, a1, _, a2, fun e => r1 (en.symm.trans e), fun e => r0 (en.symm.trans e)⟩
theorem smk_ti (n : Nat) (xs : List Int) (h : xs.length ≤ 16777216) : smk (n + 2) (tiE xs) = true := by
  unfold tiE smk
  rw [Bool.and_eq_true]
  refine ⟨decide_eq_true (by rw [List.length_map]; exact h), List.all_eq_true.mpr fun d hd => ?_⟩
  obtain ⟨i, _, rfl⟩ := List.mem_map.mp hd
  rfl
theorem allK_num (b : Nat) : ∀ n : Nat, (allK b n).length = b ^ n
  | 0 => rfl
  | n + 1 => by
    have : (allK b (n + 1)).length = (allK b n).length * (rgI b).length := stepK_len
    rw [this, allK_num b n, rgI_len, Nat.pow_succ]
theorem smk_keys {xs : List (List Int)} (h : xs.length ≤ 16777216) (k : ∀ x ∈ xs, x.length ≤ 16777216) : smk 8 (.lst (xs.map tiE)) = true := by
  unfold smk
  rw [Bool.and_eq_true]
  refine ⟨decide_eq_true (by rw [List.length_map]; exact h), List.all_eq_true.mpr fun d hd => ?_⟩
  obtain ⟨i, hi, rfl⟩ := List.mem_map.mp hd
  exact smk_ti 5 i (k i hi)
theorem same_bl' {a b : Bool} {Q : D → Prop} (e : a = b) (q : Q (.bl true)) : s__law_same [.bl a, .bl b] Q := by
  subst e
  exact ⟨_, rfl, rfl, q⟩
def b_law : PSt := (xSeq (xFor (xRng1 (xC (.int 2))) (xTg 2) [0, 2, 3, 4, 5, 6, 7, 8, 9, 10, 11]
 (xSeq (xDrop (xCall s__law_next (xCons (xVarS 1) xNil)))
 (xSeq (xSet 3 (xOp oAdd (xC (.int 1)) (xCall s__law_draw (xCons (xVarS 1) (xCons (xC (.int 4)) xNil)))))
 (xSeq (xSet 4 (xOp oAdd (xC (.int 1)) (xCall s__law_draw (xCons (xVarS 1) (xCons (xC (.int 5)) xNil)))))
 (xSeq (xSet 5 (xCall s__law_draw (xCons (xVarS 1) (xCons (xC (.int 4)) xNil))))
 (xSeq (xSet 6 (xCall s__law_all_keys (xCons (xLc (xRng1 (xVar 3)) [12] (xTg 12) xYes (xRgL1 .lst (xVar 4))) xNil)))
 (xSeq (xSet 7 (xLc (xItems (xVarS 6)) [8] (xTg 8) (xTest (xOp oEq (xCB oLen (xCons (xLc (xRng2 (xC (.int 1)) (xVar 3)) [12] (xTg 12) (xTest (xOp oGt (xCB oAbs (xCons (xOp oSub (xOp oIx (xVar 8) (xVar 12)) (xOp oIx (xVar 8) (xOp oSub (xVar 12) (xC (.int 1))))) xNil)) (xVar 5))) (xVarS 12)) xNil)) (xC (.int 0)))) (xVarS 8)))
 (xSeq (xIf (xOr (xNotT (xTru (xCall s__law_same (xCons (xCall s_fair_keys (xCons (xVarS 3) (xCons (xVarS 4) (xCons (xVarS 5) xNil)))) (xCons (xVarS 7) xNil))))) (xNotT (xTru (xCall s__law_same (xCons (xCall s_fair_count (xCons (xVarS 3) (xCons (xVarS 4) (xCons (xVarS 5) xNil)))) (xCons (xCB oLen (xCons (xVar 7) xNil)) xNil))))))
 (xRet (xC (.bl false)))
 xSkip)
 (xSeq (xSet 8 (xCall s__law_key (xCons (xVarS 1) (xCons (xOp oAdd (xC (.int 1)) (xCall s__law_draw (xCons (xVarS 1) (xCons (xC (.int 6)) xNil)))) (xCons (xC (.int 10)) xNil)))))
 (xSeq (xIf (xNotT (xTru (xCall s__law_same (xCons (xCall s_is_fair (xCons (xVarS 8) (xCons (xVarS 5) xNil))) (xCons (xOp oEq (xCB oLen (xCons (xLc (xRng2 (xC (.int 1)) (xCB oLen (xCons (xVar 8) xNil))) [12] (xTg 12) (xTest (xOp oGt (xCB oAbs (xCons (xOp oSub (xOp oIx (xVar 8) (xVar 12)) (xOp oIx (xVar 8) (xOp oSub (xVar 12) (xC (.int 1))))) xNil)) (xVar 5))) (xVarS 12)) xNil)) (xC (.int 0))) xNil)))))
 (xRet (xC (.bl false)))
 xSkip)
 (xSeq (xSet 9 (xOp oAdd (xC (.int 1)) (xCall s__law_draw (xCons (xVarS 1) (xCons (xC (.int 40)) xNil)))))
 (xSeq (xSet 4 (xOp oAdd (xC (.int 1)) (xCall s__law_draw (xCons (xVarS 1) (xCons (xC (.int 10)) xNil)))))
 (xSeq (xSet 10 (xOp oMul (xLst (xCons (xC (.int 1)) xNil)) (xVar 4)))
 (xSeq (xFor (xRng1 (xOp oSub (xVar 9) (xC (.int 1)))) (xTg 11) [0, 2, 3, 6, 7, 8, 11]
 (xSet 10 (xLc (xRng1 (xVar 4)) [14] (xTg 14) xYes (xCB oSum (xCons (xLc (xRng1 (xVar 4)) [13] (xTg 13) (xTest (xOp oLe (xCB oAbs (xCons (xOp oSub (xVar 13) (xVar 14)) xNil)) (xVar 5))) (xOp oIx (xVar 10) (xVar 13))) xNil)))))
 (xIf (xNotT (xTru (xCall s__law_same (xCons (xCall s_fair_count (xCons (xVarS 9) (xCons (xVarS 4) (xCons (xVarS 5) xNil)))) (xCons (xCB oSum (xCons (xVar 10) xNil)) xNil)))))
 (xRet (xC (.bl false)))
 xSkip)))))))))))))))
 (xRet (xC (.bl true))))
theorem p_law : b_law (fin fun d => d = .bl true) (none :: some (.fz .pool) :: List.replicate (15 - 2) none) := by
  refine ⟨⟨by decide, by decide⟩, ?_⟩
  refine xLoop_n 2 (by decide) (fun j env => env = [none, some (.fz .pool), none, none, none, none, none, none, none, none, none, none, none, none, none]) ?_ ?_ rfl
  · rintro j env hj rfl F' hr hk c1 c2
    refine next_c (draw_c (by decide) (by decide) fun v1 hv1 => draw_c (by decide) (by decide) fun v2 hv2 => draw_c (by decide) (by decide) fun m hm => ?_)
    have e1 : (1 : Int) + (v1 : Int) = ((v1 + 1 : Nat) : Int) := by omega
    have e2 : (1 : Int) + (v2 : Int) = ((v2 + 1 : Nat) : Int) := by omega
    refine ⟨⟨by omega, by omega⟩, by rw [xRange_len]; omega, ?_⟩
    rw [e1, e2]
    generalize hN : v1 + 1 = n
    generalize hB : v2 + 1 = b
    have n1 : 1 ≤ n := by omega
    have n4 : n ≤ 4 := by omega
    have b5 : b ≤ 5 := by omega
    rw [xRange_z n]
    refine xLc_m _ (fun _ : Nat => liE (rgI b)) (List.range n) ?_ ?_
    · intro i _ R q
      refine ⟨by unfold rgOk; omega, ?_⟩
      rw [xRange_0]
      exact q
    have ec : (List.range n).map (fun _ : Nat => liE (rgI b)) = (List.replicate n (rgI b)).map liE := by
      rw [List.map_const', List.length_range, List.map_replicate]
    rw [ec]
    refine call_c ⟨List.replicate n (rgI b), rfl, ?_, by rw [List.length_replicate]; omega, ?_, ?_⟩
    · exact List.ne_nil_of_length_pos (by rw [List.length_replicate]; omega)
    · intro c hc
      rw [(List.mem_replicate.mp hc).2, rgI_len]
      omega
    rw [keys_all]
    have kl : ∀ o ∈ srtT (allK b n), o.length = n := fun o ho => allK_len ((srtT_perm _).subset ho)
    have al : (srtT (allK b n)).length ≤ 1000 := by
      rw [(srtT_perm _).length_eq, allK_num]
      have h1 : b ^ n ≤ 5 ^ n := Nat.pow_le_pow_left b5 n
      have h2 : 5 ^ n ≤ 5 ^ 4 := Nat.pow_le_pow_right (by decide) n4
      have h3 : 5 ^ 4 = 625 := by decide
      omega
    refine ⟨by rw [List.length_map]; omega, ?_⟩
    refine xLc_t tiE (fairB m) tiE _ [] ?_ ?_
    · intro o ho R1 R0 r1 r0
      have hol := kl o ho
      refine ⟨⟨by omega, by omega, by omega, by omega⟩, by rw [xRange_len]; omega, ?_⟩
      refine bad_places (xs := o) (m := m) (by rw [hol]) (by omega) ?_
      have ef := fair_len (m := m) (xs := o)
      refine ⟨rfl, rfl, fun e => r1 ?_, fun e => r0 ?_⟩
      · rw [← ef, ← e, List.length_map]
        exact eqD_int.symm
      · rw [← ef, ← e, List.length_map]
        exact eqD_int.symm
    rw [List.nil_append, srtT_filter]
    have ek := fairK_eq b m (n - 1)
    have en : n - 1 + 1 = n := by omega
    rw [en] at ek
    rw [← ek]
    have fl : (srtT (fairK b m (n - 1))).length ≤ 1000 := by
      rw [ek, ← srtT_filter]
      exact Nat.le_trans (List.length_filter_le _ _) al
    have fk : ∀ o ∈ srtT (fairK b m (n - 1)), o.length ≤ 16777216 := fun o ho => by
      have := (srtT_perm _).subset ho
      rw [ek, List.mem_filter] at this
      have := allK_len this.1
      omega
    refine call_c ⟨n, b, m, rfl, n1, n4, b5, by omega, call_c ⟨_, rfl, smk_keys (by omega) fk, true, rfl, Br.no rfl ?_⟩⟩
    refine call_c ⟨n, b, m, rfl, n1, by omega, by omega, by omega, call_c (same_int' ?_ ⟨true, rfl, Br.no rfl ?_⟩)⟩
    · have := fact_count ⟨n - 1, by omega⟩ ⟨b, by omega⟩ ⟨m, by omega⟩
      replace this : (tabC b m (n - 1)).sum = ((fairK b m (n - 1)).length : Int) := this
      rw [this, List.length_map, (srtT_perm _).length_eq]
    refine draw_c (by decide) (by decide) fun v3 hv3 => ?_
    refine call_c ⟨v3 + 1, 10, ?_, by omega, by decide, by decide, fun ks kn _ => ?_⟩
    · have : (1 : Int) + (v3 : Int) = ((v3 + 1 : Nat) : Int) := by omega
      rw [this]
      rfl
    refine call_c ⟨ks, m, rfl, by omega, ?_⟩
    refine ⟨⟨by omega, by omega, by rw [List.length_map]; omega, by rw [List.length_map]; omega⟩, by rw [xRange_len, List.length_map]; omega, ?_⟩
    refine bad_places (xs := ks) (m := m) (by rw [List.length_map]) (by omega) ?_
    refine ⟨rfl, rfl, call_c (same_bl' ?_ ⟨true, rfl, Br.no rfl ?_⟩)⟩
    · rw [← fair_len, List.length_map]
      exact eqD_int.symm
    refine draw_c (by decide) (by decide) fun v4 hv4 => draw_c (by decide) (by decide) fun v5 hv5 => ?_
    have e4 : (1 : Int) + (v4 : Int) = ((v4 + 1 : Nat) : Int) := by omega
    have e5 : (1 : Int) + (v5 : Int) = ((v5 + 1 : Nat) : Int) := by omega
    refine ⟨by show 1 ≤ 16777216; decide, by omega, by omega, by show 1 * ((1 : Int) + (v5 : Int)).toNat ≤ 16777216; omega, ?_⟩
    rw [e4, e5]
    generalize hM : v4 + 1 = w
    generalize hC : v5 + 1 = c
    have t0 : (List.replicate ((c : Nat) : Int).toNat [D.int 1]).flatten = (tabC c m 0).map D.int := by
      rw [Int.toNat_natCast, List.flatten_replicate_singleton]
      unfold tabC
      rw [List.map_replicate]
    rw [t0]
    refine ⟨⟨by omega, by omega⟩, ?_⟩
    refine xLoop_n (w - 1) (by omega) (fun j env => ∃ x3 x6 x7 x8 : Option Sl, env = [none, some (.fz .pool), none, none, some (.fz (.int c)), some (.fz (.int m)), none, none, none, some (.fz (.int w)), some (.fz (.lst ((tabC c m j).map D.int))), none, none, none, none]) ?_ ?_ ⟨none, none, none, none, rfl⟩
    · rintro j env hj ⟨_, _, _, _, rfl⟩ F2 hr2 hk2 d1 d2
      have tl := @tabC_len c m j
      refine ⟨⟨by omega, by omega⟩, by rw [xRange_len]; omega, ?_⟩
      rw [xRange_z]
      refine xLc_m _ (fun h : Nat => .int (((List.range c).filter fun o : Nat => near m o h).map fun o => (tabC c m j).getD o 0).sum) _ ?_ ?_
      · intro h hh R q
        have hh := List.mem_range.mp hh
        refine ⟨⟨by omega, by omega⟩, by rw [xRange_len]; omega, ?_⟩
        rw [xRange_z]
        refine xLc_t (fun o : Nat => D.int (0 + (o : Int))) (fun o => near m o h) (fun o => .int ((tabC c m j).getD o 0)) _ [] ?_ ?_
        · intro o ho R1 R0 r1 r0
          have ho := List.mem_range.mp ho
          have en : near m (0 + (o : Int)) (0 + (h : Int)) = near m o h := by rw [Int.zero_add, Int.zero_add]
          refine ⟨fun e => ?_, fun e => r0 (en.symm.trans e)⟩
          refine ⟨_, ?_, r1 (en.symm.trans e)⟩
          show L2.atI ((tabC c m j).map D.int) (0 + (o : Int)) = _
          rw [Int.zero_add]
          exact key_at (by rw [tl]; exact ho)
        · exact ⟨((List.range c).filter fun o : Nat => near m o h).map fun o => (tabC c m j).getD o 0, by rw [List.nil_append, List.map_map]; rfl, q⟩
      · have : (List.range c).map (fun h : Nat => D.int (((List.range c).filter fun o : Nat => near m o h).map fun o => (tabC c m j).getD o 0).sum) = (tabC c m (j + 1)).map D.int := by
          show _ = (stepC c m (tabC c m j)).map D.int
          unfold stepC
          rw [List.map_map]
          rfl
        rw [this]
        exact d1 _ ⟨none, none, none, none, rfl⟩
    · rintro env ⟨_, _, _, _, rfl⟩
      refine call_c ⟨w, c, m, rfl, by omega, by omega, by omega, by omega, ?_⟩
      exact ⟨tabC c m (w - 1), rfl, call_c (same_int ⟨true, rfl, Br.no rfl (c1 _ rfl)⟩)⟩
  · rintro env rfl
    exact rfl
def topS (i : Nat) : Stmt := PySem.Challenge.pw_lockwork_k44_whole_fair_keys_counted.main.body.getD i (.Pass ⟨0, 0, 0, 0⟩)
section
variable {Pg : Program} {w : World} {K : PySem.W.Frag} {mg : Str → Option Value} {base : Heap}
abbrev t_is_fair : Stmt := topS 1
theorem sc_is_fair : FnScope ["key", "m", "one", "other"] ["key", "m"] (defScope t_is_fair) := ⟨rfl, rfl, rfl, by decide +kernel, rfl, by decide +kernel, by decide +kernel⟩
theorem mk_is_fair {f : Addr} {fd : FuncData} (F : Fun K "is_fair" "is_fair" t_is_fair f fd) (b : Binds K fd ["key", "m"] []) (m : mg "is_fair" = some (.ref f)) (z_zip : mg "zip" = none) (z_abs : mg "abs" = none) (z_all : mg "all" = none) : Fo Pg w K mg base 1 "is_fair" ["key", "m"] s_is_fair :=
  fo_mk (pb := b_is_fair) F b m sc_is_fair n_is_fair (fun cdv A outer s H E hr =>
 (jcs_one (jc_ret (j_cb (c_all) s_all (by rfl) z_all vb_all (jb_cons (JF.w (j_lc (own := [("one", 2), ("other", 3)]) rfl sc_is_fair.nd (ji_zipK (by rfl) z_zip (ja_cons (j_varS 0 (pv 0)) (ja_cons (j_sl (j_var 0 (pv 0)) (jo_some (JS.w j_int)) jo_no) ja_nil))) (blkOk_by (by first | (show blkC ["key", "m", "one", "other"] (defScope t_is_fair) _ _ = true; decide +kernel) | kernel_rfl)) (by decide) (fun _ _ _ _ _ => (jg_tup rfl (jgs_cons (jg_name 2 (pg_name (i := 2) sc_is_fair.nd rfl (by first | exact .inl rfl | exact .inr rfl))) (jgs_cons (jg_name 3 (pg_name (i := 3) sc_is_fair.nd rfl (by first | exact .inl rfl | exact .inr rfl))) jgs_nil)))) (fun _ _ _ _ _ => jts_nil) (fun _ _ _ _ _ => (j_cmp (op_leA hr) s_le (nomark _) (JS.w (j_cb c_abs s_abs (by rfl) z_abs vb_abs (jb_cons (JS.w (j_op op_sub s_sub (j_var 2 (pv 2)) (j_var 3 (pv 3)))) jb_nil))) (j_var 1 (pv 1)))))) jb_nil))))) p_is_fair
abbrev t_fair_count : Stmt := topS 2
theorem sc_fair_count : FnScope ["n", "b", "m", "table", "_", "height"] ["n", "b", "m"] (defScope t_fair_count) := ⟨rfl, rfl, rfl, by decide +kernel, rfl, by decide +kernel, by decide +kernel⟩
theorem mk_fair_count {f : Addr} {fd : FuncData} (F : Fun K "fair_count" "fair_count" t_fair_count f fd) (b : Binds K fd ["n", "b", "m"] []) (m : mg "fair_count" = some (.ref f)) (z_range : mg "range" = none) (z_max : mg "max" = none) (z_sum : mg "sum" = none) : Fo Pg w K mg base 1 "fair_count" ["n", "b", "m"] s_fair_count :=
  fo_mk (pb := b_fair_count) F b m sc_fair_count n_fair_count (fun cdv A outer s H E hr =>
 (jcs_cons (jc_set (i := 3) sc_fair_count.nd rfl (by first | exact .inl rfl | exact .inr rfl) (j_op op_mulAll s_mulAll (JF.w (j_lst (ja_cons j_int ja_nil))) (j_var 1 (pv 1))))
 (jcs_cons (jc_for [0, 4] PassesOwn.never rfl (ji_range1 (by rfl) z_range (JS.w (j_op op_sub s_sub (j_var 0 (pv 0)) (JS.w j_int)))) (jg_name 4 (pg_name (i := 4) sc_fair_count.nd rfl (by first | exact .inl rfl | exact .inr rfl)))
 (jcs_one (jc_set (i := 3) sc_fair_count.nd rfl (by first | exact .inl rfl | exact .inr rfl) (JF.s (j_lc (own := [("height", 5)]) rfl sc_fair_count.nd (ji_range1 (by rfl) z_range (j_var 1 (pv 1))) (blkOk_by (by first | (show blkC ["n", "b", "m", "table", "_", "height"] (defScope t_fair_count) _ _ = true; decide +kernel) | kernel_rfl)) (by decide) (fun _ _ _ _ _ => (jg_name 5 (pg_name (i := 5) sc_fair_count.nd rfl (by first | exact .inl rfl | exact .inr rfl)))) (fun _ _ _ _ _ => jts_nil) (fun _ _ _ _ _ => (j_cb (c_sum) s_sum (by rfl) z_sum vb_sum (jb_cons (JS.w (j_sl (j_var 3 (pv 3)) (jo_some (JS.w (j_cb (c_max2) s_I2 (by rfl) z_max vb_max (jb_cons (JS.w j_int) (jb_cons (JS.w (j_op op_sub s_sub (j_var 5 (pv 5)) (j_var 2 (pv 2)))) jb_nil))))) (jo_some (JS.w (j_op op_addA s_add (JS.w (j_op op_addA s_add (j_var 5 (pv 5)) (j_var 2 (pv 2)))) (JS.w j_int)))))) jb_nil))))))))
 (jcs_one (jc_ret (j_cb (c_sum) s_sum (by rfl) z_sum vb_sum (jb_cons (j_var 3 (pv 3)) jb_nil))))))) p_fair_count
abbrev t_fair_keys : Stmt := topS 3
theorem sc_fair_keys : FnScope ["n", "b", "m", "found", "_", "height", "key"] ["n", "b", "m"] (defScope t_fair_keys) := ⟨rfl, rfl, rfl, by decide +kernel, rfl, by decide +kernel, by decide +kernel⟩
theorem mk_fair_keys {f : Addr} {fd : FuncData} (F : Fun K "fair_keys" "fair_keys" t_fair_keys f fd) (b : Binds K fd ["n", "b", "m"] []) (m : mg "fair_keys" = some (.ref f)) (z_range : mg "range" = none) (z_abs : mg "abs" = none) (z_sorted : mg "sorted" = none) : Fo Pg w K mg base 1 "fair_keys" ["n", "b", "m"] s_fair_keys :=
  fo_mk (pb := b_fair_keys) F b m sc_fair_keys n_fair_keys (fun cdv A outer s H E hr =>
 (jcs_cons (jc_setLc (i := 3) (hyl := by rfl) (hsw := sw_true rfl rfl rfl (by decide +kernel)) (hy := rfl) (own := [("height", 5)]) rfl sc_fair_keys.nd (ji_range1 (by rfl) z_range (j_var 1 (pv 1))) (blkOk_by (by first | (show blkC ["n", "b", "m", "found", "_", "height", "key"] (defScope t_fair_keys) _ _ = true; decide +kernel) | kernel_rfl)) (by decide) (fun _ _ _ _ _ => (jg_name 5 (pg_name (i := 5) sc_fair_keys.nd rfl (by first | exact .inl rfl | exact .inr rfl)))) (fun _ _ _ _ _ => jts_nil) (fun _ _ _ _ _ => (j_tup (ja_cons (j_varS 5 (pv 5)) ja_nil))))
 (jcs_cons (jc_for [0, 4] PassesOwn.never rfl (ji_range1 (by rfl) z_range (JS.w (j_op op_sub s_sub (j_var 0 (pv 0)) (JS.w j_int)))) (jg_name 4 (pg_name (i := 4) sc_fair_keys.nd rfl (by first | exact .inl rfl | exact .inr rfl)))
 (jcs_one (jc_setLc2 (i := 3) (hyl := by rfl) (hsw := sw_true rfl rfl rfl (by decide +kernel)) (hy := rfl) (own := [("key", 6), ("height", 5)]) (vs1 := [5]) rfl sc_fair_keys.nd (ji_items (j_varS 3 (pv 3))) (blkOk_by (by first | (show blkC ["n", "b", "m", "found", "_", "height", "key"] (defScope t_fair_keys) _ _ = true; decide +kernel) | kernel_rfl)) (by decide) (by decide) (by decide) (fun _ _ _ _ _ => (jg_name 6 (pg_name (i := 6) sc_fair_keys.nd rfl (by first | exact .inl rfl | exact .inr rfl)))) (fun _ _ _ _ _ => jts_nil) (fun _ _ _ _ _ => (ji_range1 (by rfl) z_range (j_var 1 (pv 1)))) (fun _ _ _ _ _ => (jg_name 5 (pg_name (i := 5) sc_fair_keys.nd rfl (by first | exact .inl rfl | exact .inr rfl)))) (fun _ _ _ _ _ => (jts_one (j_tcmp (op_leA hr) s_le (nomark _) (JS.w (j_cb c_abs s_abs (by rfl) z_abs vb_abs (jb_cons (JS.w (j_op op_sub s_sub (JS.w (j_ix hr.units (j_var 6 (pv 6)) (JS.w (j_un un_neg s_neg (JS.w j_int))) (fun _ _ => rfl))) (j_var 5 (pv 5)))) jb_nil))) (j_var 2 (pv 2))))) (fun _ _ _ _ _ => (j_op op_addA s_add (j_var 6 (pv 6)) (JS.w (j_tup (ja_cons (j_varS 5 (pv 5)) ja_nil))))))))
 (jcs_one (jc_ret (JF.s (j_cbF (c_sortD hr) s_sorted (by rfl) z_sorted vb_sorted (jb_cons (j_var 3 (pv 3)) jb_nil)))))))) p_fair_keys
abbrev t__law_mixed : Stmt := topS 5
theorem sc__law_mixed : FnScope ["number", "place", "first", "second", "third"] ["number", "place"] (defScope t__law_mixed) := ⟨rfl, rfl, rfl, by decide +kernel, rfl, by decide +kernel, by decide +kernel⟩
theorem mk__law_mixed {f : Addr} {fd : FuncData} (F : Fun K "_law_mixed" "_law_mixed" t__law_mixed f fd) (b : Binds K fd ["number", "place"] []) (m : mg "_law_mixed" = some (.ref f)) (z_int : mg "int" = none) : Fo Pg w K mg base 1 "_law_mixed" ["number", "place"] s__law_mixed :=
  fo_mk (pb := b__law_mixed) F b m sc__law_mixed n__law_mixed (fun cdv A outer s H E hr =>
 (jcs_cons (jc_set (i := 2) sc__law_mixed.nd rfl (by first | exact .inl rfl | exact .inr rfl) (j_op op_mod s_mod (JS.w (j_ct c_int s_int (by rfl) z_int vb_int (jb_cons (JS.w (j_op op_addA s_add (JS.w (j_op op_addA s_add (JS.w (j_op op_mulAll s_mulAll (j_var 0 (pv 0)) (JS.w j_int))) (JS.w (j_op op_mulAll s_mulAll (j_var 1 (pv 1)) (JS.w j_int))))) (JS.w j_int))) jb_nil))) (JS.w j_int)))
 (jcs_cons (jc_set (i := 3) sc__law_mixed.nd rfl (by first | exact .inl rfl | exact .inr rfl) (j_op op_mod s_mod (JS.w (j_ct c_int s_int (by rfl) z_int vb_int (jb_cons (JS.w (j_op op_addA s_add (JS.w (j_op op_addA s_add (JS.w (j_op op_mulAll s_mulAll (j_var 2 (pv 2)) (j_var 2 (pv 2)))) (JS.w (j_op op_mulAll s_mulAll (JS.w j_int) (j_var 2 (pv 2)))))) (j_var 1 (pv 1)))) jb_nil))) (JS.w j_int)))
 (jcs_cons (jc_set (i := 4) sc__law_mixed.nd rfl (by first | exact .inl rfl | exact .inr rfl) (j_op op_mod s_mod (JS.w (j_ct c_int s_int (by rfl) z_int vb_int (jb_cons (JS.w (j_op op_addA s_add (JS.w (j_op op_mulAll s_mulAll (j_var 3 (pv 3)) (j_var 3 (pv 3)))) (j_var 2 (pv 2)))) jb_nil))) (JS.w j_int)))
 (jcs_one (jc_ret (j_op op_addA s_add (JS.w (j_op op_mulAll s_mulAll (j_var 3 (pv 3)) (JS.w j_int))) (j_var 4 (pv 4))))))))) p__law_mixed
abbrev t__law_rest : Stmt := topS 6
theorem sc__law_rest : FnScope ["script", "place", "fills", "number"] ["script", "place", "fills"] (defScope t__law_rest) := ⟨rfl, rfl, rfl, by decide +kernel, rfl, by decide +kernel, by decide +kernel⟩
theorem mk__law_rest' {f : Addr} {fd : FuncData} (F : Fun K "_law_rest" "_law_rest" t__law_rest f fd) (b : Binds K fd ["script", "place", "fills"] []) (m : mg "_law_rest" = some (.ref f)) (f__law_mixed : Fo Pg w K mg base 1 "_law_mixed" ["number", "place"] s__law_mixed) (z_len : mg "len" = none) (z_int : mg "int" = none) : FRest Pg w K mg base := by
  obtain ⟨g, gd, g1, g2, g3, g4⟩ := f__law_mixed.ex
  exact mk__law_rest F b m sc__law_rest fun cdv A outer s H E hr =>
    pss_cons (ps_set (i := 3) sc__law_rest.nd rfl (.inl rfl) pe_int)
    (pss_cons (ps_if (pt_cmpR op_gt (pe_callB call_len_seq (by rfl) z_len vb_len (pa_cons (pv 0) pa_nil)) pe_int (nomark _)) (pss_one (ps_set (i := 3) sc__law_rest.nd rfl (.inl rfl) (pe_callTy c_int (by rfl) z_int vb_int (pa_cons (pe_ix ix_list (pv 0) (pe_op op_mod (pe_callTy c_int (by rfl) z_int vb_int (pa_cons (pv 1) pa_nil)) (pe_callB call_len_seq (by rfl) z_len vb_len (pa_cons (pv 0) pa_nil))) (fun _ _ => rfl)) pa_nil)))) pss_nil)
    (pss_cons (ps_if (pt_cmpR op_lt (pv 3) pe_int (nomark _)) (pss_one (ps_set (i := 3) sc__law_rest.nd rfl (.inl rfl) (pe_op op_sub pe_int (pe_op op_mulA pe_int (pv 3))))) pss_nil)
    (pss_cons (ps_if (PW.pt (pw_and (pt_cmpR op_eq (pv 2) pe_int (nomark _)) (pw_and (pt_cmpR op_lt (pv 1) (pe_callB call_len_seq (by rfl) z_len vb_len (pa_cons (pv 0) pa_nil)) (nomark _)) (pw_and1 (pt_cmpR op_ge (pv 3) (pe_op op_pow pe_int pe_int) (nomark _)))))) (pss_one (ps_ret (pe_op op_sub (pv 3) (pe_op op_pow pe_int pe_int)))) pss_nil)
    (pss_one (ps_ret (pe_call g1 hr (by rfl) g4 g2 g3 .nil pass0 (pa_cons (pe_op op_add (pv 3) (pe_op op_mulA (pv 2) pe_int)) (pa_cons (pv 1) pa_nil))))))))
abbrev t__law_pool : Stmt := topS 7
theorem sc__law_pool : FnScope ["script"] ["script"] (defScope t__law_pool) := ⟨rfl, rfl, rfl, by decide +kernel, rfl, by decide +kernel, by decide +kernel⟩
theorem mk__law_pool {f : Addr} {fd : FuncData} (F : Fun K "_law_pool" "_law_pool" t__law_pool f fd) (b : Binds K fd ["script"] []) (m : mg "_law_pool" = some (.ref f)) (f__law_rest : FRest Pg w K mg base) : FPool Pg w K mg base := by
  obtain ⟨g, gd, g1, g2, g3, g4⟩ := f__law_rest.ex
  exact fo_pool F b m sc__law_pool fun cdv A outer s H E hr =>
    pss_one (ps_ret (pe_lst (pa_cons (pv 0) (pa_cons pe_int (pa_cons (pe_call g1 hr (by rfl) g4 g2 g3 .nil pass0 (pa_cons (pv 0) (pa_cons pe_int (pa_cons pe_int pa_nil)))) (pa_cons pe_int pa_nil))))))
abbrev t__law_next : Stmt := topS 8
theorem sc__law_next : FnScope ["pool"] ["pool"] (defScope t__law_next) := ⟨rfl, rfl, rfl, by decide +kernel, rfl, by decide +kernel, by decide +kernel⟩
theorem mk__law_next {f : Addr} {fd : FuncData} (F : Fun K "_law_next" "_law_next" t__law_next f fd) (b : Binds K fd ["pool"] []) (m : mg "_law_next" = some (.ref f)) (f__law_rest : FRest Pg w K mg base) : Fo Pg w K mg base 3 "_law_next" ["pool"] s__law_next := by
  obtain ⟨g, gd, g1, g2, g3, g4⟩ := f__law_rest.ex
  exact fo_next F b m sc__law_next fun cdv A outer s H E hr =>
    pss_cons (ps_asg (pe_op op_add (pe_ix ix_list (pv 0) pe_int (fun _ _ => rfl)) pe_int) (pg_sub (pv 0) pe_int set_list)) (pss_cons (ps_asg (pe_call g1 hr (by rfl) g4 g2 g3 .nil pass0 (pa_cons (pe_ix ix_list (pv 0) pe_int (fun _ _ => rfl)) (pa_cons (pe_ix ix_list (pv 0) pe_int (fun _ _ => rfl)) (pa_cons pe_int pa_nil)))) (pg_sub (pv 0) pe_int set_list)) (pss_one (ps_asg pe_int (pg_sub (pv 0) pe_int set_list))))
abbrev t__law_draw : Stmt := topS 9
theorem sc__law_draw : FnScope ["pool", "limit", "value"] ["pool", "limit"] (defScope t__law_draw) := ⟨rfl, rfl, rfl, by decide +kernel, rfl, by decide +kernel, by decide +kernel⟩
theorem mk__law_draw {f : Addr} {fd : FuncData} (F : Fun K "_law_draw" "_law_draw" t__law_draw f fd) (b : Binds K fd ["pool", "limit"] []) (m : mg "_law_draw" = some (.ref f)) (f__law_rest : FRest Pg w K mg base) (z_int : mg "int" = none) : Fo Pg w K mg base 3 "_law_draw" ["pool", "limit"] s__law_draw := by
  obtain ⟨g, gd, g1, g2, g3, g4⟩ := f__law_rest.ex
  exact fo_draw F b m sc__law_draw fun cdv A outer s H E hr =>
    pss_cons (ps_if (pt_cmpR op_le (pe_ix ix_list (pv 0) pe_int (fun _ _ => rfl)) pe_int (nomark _)) (pss_cons (ps_asg (pe_op op_add (pe_ix ix_list (pv 0) pe_int (fun _ _ => rfl)) pe_int) (pg_sub (pv 0) pe_int set_list)) (pss_one (ps_asg (pe_call g1 hr (by rfl) g4 g2 g3 .nil pass0 (pa_cons (pe_ix ix_list (pv 0) pe_int (fun _ _ => rfl)) (pa_cons (pe_ix ix_list (pv 0) pe_int (fun _ _ => rfl)) (pa_cons (pe_ix ix_list (pv 0) pe_int (fun _ _ => rfl)) pa_nil)))) (pg_sub (pv 0) pe_int set_list)))) pss_nil)
    (pss_cons (ps_set (i := 2) sc__law_draw.nd rfl (.inl rfl) (pe_op op_mod (pe_callTy c_int (by rfl) z_int vb_int (pa_cons (pe_ix ix_list (pv 0) pe_int (fun _ _ => rfl)) pa_nil)) (pv 1)))
    (pss_cons (ps_asg (pe_op op_fdiv (pe_callTy c_int (by rfl) z_int vb_int (pa_cons (pe_ix ix_list (pv 0) pe_int (fun _ _ => rfl)) pa_nil)) (pv 1)) (pg_sub (pv 0) pe_int set_list)) (pss_one (ps_ret (pv 2)))))
abbrev t__law_all_keys : Stmt := topS 10
theorem sc__law_all_keys : FnScope ["lock", "found", "chamber", "more", "key", "height"] ["lock"] (defScope t__law_all_keys) := ⟨rfl, rfl, rfl, by decide +kernel, rfl, by decide +kernel, by decide +kernel⟩
theorem mk__law_all_keys {f : Addr} {fd : FuncData} (F : Fun K "_law_all_keys" "_law_all_keys" t__law_all_keys f fd) (b : Binds K fd ["lock"] []) (m : mg "_law_all_keys" = some (.ref f)) (z_sorted : mg "sorted" = none) : Fo Pg w K mg base 1 "_law_all_keys" ["lock"] s__law_all_keys :=
  fo_mk (pb := b__law_all_keys) F b m sc__law_all_keys n__law_all_keys (fun cdv A outer s H E hr =>
 (jcs_cons (jc_set (i := 1) sc__law_all_keys.nd rfl (by first | exact .inl rfl | exact .inr rfl) (JF.s (j_lst (ja_cons (j_tup ja_nil) ja_nil))))
 (jcs_cons (jc_for [0, 2, 3, 4] PassesOwn.never rfl (ji_items (j_varS 0 (pv 0))) (jg_name 2 (pg_name (i := 2) sc__law_all_keys.nd rfl (by first | exact .inl rfl | exact .inr rfl)))
 (jcs_cons (jc_set (i := 3) sc__law_all_keys.nd rfl (by first | exact .inl rfl | exact .inr rfl) (JF.s (j_lst ja_nil)))
 (jcs_cons (jc_for [0, 1, 4] PassesOwn.never rfl (ji_items (j_varS 1 (pv 1))) (jg_name 4 (pg_name (i := 4) sc__law_all_keys.nd rfl (by first | exact .inl rfl | exact .inr rfl)))
 (jcs_one (jc_set (i := 3) sc__law_all_keys.nd rfl (by first | exact .inl rfl | exact .inr rfl) (j_op op_addA s_add (j_var 3 (pv 3)) (JF.w (j_lc (own := [("height", 5)]) rfl sc__law_all_keys.nd (ji_items (j_varS 2 (pv 2))) (blkOk_by (by first | (show blkC ["lock", "found", "chamber", "more", "key", "height"] (defScope t__law_all_keys) _ _ = true; decide +kernel) | kernel_rfl)) (by decide) (fun _ _ _ _ _ => (jg_name 5 (pg_name (i := 5) sc__law_all_keys.nd rfl (by first | exact .inl rfl | exact .inr rfl)))) (fun _ _ _ _ _ => jts_nil) (fun _ _ _ _ _ => (j_op op_addA s_add (j_var 4 (pv 4)) (JS.w (j_tup (ja_cons (j_varS 5 (pv 5)) ja_nil)))))))))))
 (jcs_one (jc_set (i := 1) sc__law_all_keys.nd rfl (by first | exact .inl rfl | exact .inr rfl) (j_varS 3 (pv 3)))))))
 (jcs_one (jc_ret (JF.s (j_cbF (c_sortD hr) s_sorted (by rfl) z_sorted vb_sorted (jb_cons (j_var 1 (pv 1)) jb_nil)))))))) p__law_all_keys
abbrev t__law_same : Stmt := topS 11
theorem sc__law_same : FnScope ["actual", "due", "key", "k"] ["actual", "due"] (defScope t__law_same) := ⟨rfl, rfl, rfl, by decide +kernel, rfl, by decide +kernel, by decide +kernel⟩
theorem mk__law_same {f : Addr} {fd : FuncData} (F : Fun K "_law_same" "_law_same" t__law_same f fd) (b : Binds K fd ["actual", "due"] []) (m : mg "_law_same" = some (.ref f)) (z_isinstance : mg "isinstance" = none) (z_int : mg "int" = none) (z_bool : mg "bool" = none) (z_str : mg "str" = none) (z_dict : mg "dict" = none) (z_len : mg "len" = none) (z_list : mg "list" = none) (z_tuple : mg "tuple" = none) (z_range : mg "range" = none) : ∀ n : Nat, Fo Pg w K mg base (0 + n) "_law_same" ["actual", "due"] (r__law_same n)
  | 0 => rec0 F b m z__law_same
  | n + 1 => by
    have f__law_same := mk__law_same F b m z_isinstance z_int z_bool z_str z_dict z_len z_list z_tuple z_range n
    exact fo_mk (pb := b__law_same (r__law_same n)) F b m sc__law_same (n__law_same (n + 1)) (fun cdv A outer s H E hr =>
 (jcs_cons (jc_if (j_tcmp op_isA s_is (nomark _) (j_var 1 (pv 1)) (JS.w j_non))
 (jcs_one (jc_ret (j_cmp op_isA s_is (nomark _) (j_var 0 (pv 0)) (JS.w j_non))))
 jcs_nil)
 (jcs_cons (jc_if (j_tcmp op_isA s_is (nomark _) (j_var 1 (pv 1)) (JS.w j_bl))
 (jcs_one (jc_ret (j_cmp op_isA s_is (nomark _) (j_var 0 (pv 0)) (JS.w j_bl))))
 jcs_nil)
 (jcs_cons (jc_if (j_tcmp op_isA s_is (nomark _) (j_var 1 (pv 1)) (JS.w j_bl))
 (jcs_one (jc_ret (j_cmp op_isA s_is (nomark _) (j_var 0 (pv 0)) (JS.w j_bl))))
 jcs_nil)
 (jcs_cons (jc_if (j_tru (JS.w (j_isi kit_int (by rfl) z_isinstance vb_isinstance (pe_bltn (by rfl) z_int vb_int rfl) (j_var 1 (pv 1)))) (by intro _; rfl))
 (jcs_one (jc_ret (j_andV (JS.w (j_isi kit_int (by rfl) z_isinstance vb_isinstance (pe_bltn (by rfl) z_int vb_int rfl) (j_var 0 (pv 0)))) (j_andV (JS.w (j_notV (JS.w (j_isi kit_bool (by rfl) z_isinstance vb_isinstance (pe_bltn (by rfl) z_bool vb_bool rfl) (j_var 0 (pv 0)))))) (j_oneV (j_cmp (op_eqD hr.units) s_eq (nomark _) (j_var 0 (pv 0)) (j_var 1 (pv 1))))))))
 jcs_nil)
 (jcs_cons (jc_if (j_tru (JS.w (j_isi kit_str (by rfl) z_isinstance vb_isinstance (pe_bltn (by rfl) z_str vb_str rfl) (j_var 1 (pv 1)))) (by intro _; rfl))
 (jcs_one (jc_ret (j_andV (JS.w (j_isi kit_str (by rfl) z_isinstance vb_isinstance (pe_bltn (by rfl) z_str vb_str rfl) (j_var 0 (pv 0)))) (j_oneV (j_cmp (op_eqD hr.units) s_eq (nomark _) (j_var 0 (pv 0)) (j_var 1 (pv 1)))))))
 jcs_nil)
 (jcs_cons (jc_if (j_tru (JS.w (j_isi kit_dict (by rfl) z_isinstance vb_isinstance (pe_bltn (by rfl) z_dict vb_dict rfl) (j_var 1 (pv 1)))) (by intro _; rfl))
 (jcs_cons (jc_if (JWt.tt (j_or (j_not (j_tru (JS.w (j_isi kit_dict (by rfl) z_isinstance vb_isinstance (pe_bltn (by rfl) z_dict vb_dict rfl) (j_var 0 (pv 0)))) (by intro _; rfl))) (j_or1 (j_tcmp (op_neD hr.units) s_ne (nomark _) (JS.w (j_cb c_len s_len (by rfl) z_len vb_len (jb_cons (j_var 0 (pv 0)) jb_nil))) (JS.w (j_cb c_len s_len (by rfl) z_len vb_len (jb_cons (j_var 1 (pv 1)) jb_nil)))))))
 (jcs_one (jc_ret j_bl))
 jcs_nil)
 (jcs_cons (jc_for [2, 3] PassesOwn.never rfl (ji_items (j_varS 1 (pv 1))) (jg_name 2 (pg_name (i := 2) sc__law_same.nd rfl (by first | exact .inl rfl | exact .inr rfl)))
 (jcs_one (jc_if (JWt.tt (j_or (j_tcmp (op_notInA hr) s_notInA (by rfl) (j_var 2 (pv 2)) (j_var 0 (pv 0))) (j_or1 (j_not (j_tru (JS.w (j_call f__law_same (hr.mono (by first | omega | (simp only [Nat.add_eq, Nat.zero_add]; omega))) (by rfl) (ja_cons (j_ix hr.units (j_var 0 (pv 0)) (j_var 2 (pv 2)) (fun _ _ => rfl)) (ja_cons (j_ix hr.units (j_var 1 (pv 1)) (j_var 2 (pv 2)) (fun _ _ => rfl)) ja_nil)))) (by intro _; rfl))))))
 (jcs_one (jc_ret j_bl))
 jcs_nil)))
 (jcs_one (jc_ret j_bl))))
 jcs_nil)
 (jcs_cons (jc_if (JWt.tt (j_or (j_tcmp (op_neD hr.units) s_ne (nomark _) (JS.w (j_isi kit_tuple (by rfl) z_isinstance vb_isinstance (pe_bltn (by rfl) z_tuple vb_tuple rfl) (j_var 0 (pv 0)))) (JS.w (j_isi kit_tuple (by rfl) z_isinstance vb_isinstance (pe_bltn (by rfl) z_tuple vb_tuple rfl) (j_var 1 (pv 1))))) (j_or1 (j_tcmp (op_neD hr.units) s_ne (nomark _) (JS.w (j_isi kit_list (by rfl) z_isinstance vb_isinstance (pe_bltn (by rfl) z_list vb_list rfl) (j_var 0 (pv 0)))) (JS.w (j_isi kit_list (by rfl) z_isinstance vb_isinstance (pe_bltn (by rfl) z_list vb_list rfl) (j_var 1 (pv 1))))))))
 (jcs_one (jc_ret j_bl))
 jcs_nil)
 (jcs_cons (jc_if (j_tcmp (op_neD hr.units) s_ne (nomark _) (JS.w (j_cb c_len s_len (by rfl) z_len vb_len (jb_cons (j_var 0 (pv 0)) jb_nil))) (JS.w (j_cb c_len s_len (by rfl) z_len vb_len (jb_cons (j_var 1 (pv 1)) jb_nil))))
 (jcs_one (jc_ret j_bl))
 jcs_nil)
 (jcs_cons (jc_for [2, 3] PassesOwn.never rfl (ji_range1 (by rfl) z_range (JS.w (j_cb c_len s_len (by rfl) z_len vb_len (jb_cons (j_var 1 (pv 1)) jb_nil)))) (jg_name 3 (pg_name (i := 3) sc__law_same.nd rfl (by first | exact .inl rfl | exact .inr rfl)))
 (jcs_one (jc_if (j_not (j_tru (JS.w (j_call f__law_same (hr.mono (by first | omega | (simp only [Nat.add_eq, Nat.zero_add]; omega))) (by rfl) (ja_cons (j_ix hr.units (j_var 0 (pv 0)) (j_var 3 (pv 3)) (fun _ _ => rfl)) (ja_cons (j_ix hr.units (j_var 1 (pv 1)) (j_var 3 (pv 3)) (fun _ _ => rfl)) ja_nil)))) (by intro _; rfl)))
 (jcs_one (jc_ret j_bl))
 jcs_nil)))
 (jcs_one (jc_ret j_bl)))))))))))) (p__law_same n)
abbrev t__law_key : Stmt := topS 12
theorem sc__law_key : FnScope ["pool", "n", "b", "k"] ["pool", "n", "b"] (defScope t__law_key) := ⟨rfl, rfl, rfl, by decide +kernel, rfl, by decide +kernel, by decide +kernel⟩
theorem mk__law_key {f : Addr} {fd : FuncData} (F : Fun K "_law_key" "_law_key" t__law_key f fd) (b : Binds K fd ["pool", "n", "b"] []) (m : mg "_law_key" = some (.ref f)) (f__law_draw : Fo Pg w K mg base 3 "_law_draw" ["pool", "limit"] s__law_draw) (z_range : mg "range" = none) (z_tuple : mg "tuple" = none) : Fo Pg w K mg base 4 "_law_key" ["pool", "n", "b"] s__law_key :=
  fo_mk (pb := b__law_key) F b m sc__law_key n__law_key (fun cdv A outer s H E hr =>
 (jcs_one (jc_ret (j_ct c_tuple s_tuple (by rfl) z_tuple vb_tuple (jb_cons (JF.w (j_lc (own := [("k", 3)]) rfl sc__law_key.nd (ji_range1 (by rfl) z_range (j_var 1 (pv 1))) (blkOk_by (by first | (show blkC ["pool", "n", "b", "k"] (defScope t__law_key) _ _ = true; decide +kernel) | kernel_rfl)) (by decide) (fun _ _ _ _ _ => (jg_name 3 (pg_name (i := 3) sc__law_key.nd rfl (by first | exact .inl rfl | exact .inr rfl)))) (fun _ _ _ _ _ => jts_nil) (fun _ _ _ _ _ => (j_call f__law_draw (hr.mono (by decide)) (by rfl) (ja_cons (j_varS 0 (pv 0)) (ja_cons (j_varS 2 (pv 2)) ja_nil)))))) jb_nil))))) p__law_key
abbrev t_law : Stmt := topS 13
theorem sc_law : FnScope ["script", "pool", "turn", "n", "b", "m", "everyone", "fair", "key", "many", "table", "step", "k", "other", "height"] ["script"] (defScope t_law) := ⟨rfl, rfl, rfl, by decide +kernel, rfl, by decide +kernel, by decide +kernel⟩
theorem mk_law {f : Addr} {fd : FuncData} (F : Fun K "law" "law" t_law f fd) (fp : FPool Pg w K mg base) (f__law_next : Fo Pg w K mg base 3 "_law_next" ["pool"] s__law_next) (f__law_draw : Fo Pg w K mg base 3 "_law_draw" ["pool", "limit"] s__law_draw) (f__law_all_keys : Fo Pg w K mg base 1 "_law_all_keys" ["lock"] s__law_all_keys) (f__law_same : Fo Pg w K mg base 8 "_law_same" ["actual", "due"] s__law_same) (f_fair_count : Fo Pg w K mg base 1 "fair_count" ["n", "b", "m"] s_fair_count) (f_fair_keys : Fo Pg w K mg base 1 "fair_keys" ["n", "b", "m"] s_fair_keys) (f__law_key : Fo Pg w K mg base 4 "_law_key" ["pool", "n", "b"] s__law_key) (f_is_fair : Fo Pg w K mg base 1 "is_fair" ["key", "m"] s_is_fair) (z_range : mg "range" = none) (z_list : mg "list" = none) (z_abs : mg "abs" = none) (z_len : mg "len" = none) (z_sum : mg "sum" = none) : FnOk Pg w K mg base CX0 9 f fd ["script"] (spLaw K) :=
  fo_law (k := 8) (pb := b_law) F sc_law (by decide) fp rfl (fun cdv A outer s H E g gd g1 g2 g3 g4 hr => ps_set (i := 1) sc_law.nd rfl (by first | exact .inl rfl | exact .inr rfl) (pe_call g1 hr (by rfl) g4 g2 g3 .nil pass0 (pa_cons (pv 0) pa_nil)))
   (fun cdv A outer s H E hr =>
 (jcs_cons (jc_for [0, 2, 3, 4, 5, 6, 7, 8, 9, 10, 11] PassesOwn.never rfl (ji_range1 (by rfl) z_range (JS.w j_int)) (jg_name 2 (pg_name (i := 2) sc_law.nd rfl (by first | exact .inl rfl | exact .inr rfl)))
 (jcs_cons (jc_drop (j_call f__law_next (hr.mono (by decide)) (by rfl) (ja_cons (j_varS 1 (pv 1)) ja_nil)))
 (jcs_cons (jc_set (i := 3) sc_law.nd rfl (by first | exact .inl rfl | exact .inr rfl) (j_op op_addA s_add (JS.w j_int) (JS.w (j_call f__law_draw (hr.mono (by decide)) (by rfl) (ja_cons (j_varS 1 (pv 1)) (ja_cons j_int ja_nil))))))
 (jcs_cons (jc_set (i := 4) sc_law.nd rfl (by first | exact .inl rfl | exact .inr rfl) (j_op op_addA s_add (JS.w j_int) (JS.w (j_call f__law_draw (hr.mono (by decide)) (by rfl) (ja_cons (j_varS 1 (pv 1)) (ja_cons j_int ja_nil))))))
 (jcs_cons (jc_set (i := 5) sc_law.nd rfl (by first | exact .inl rfl | exact .inr rfl) (j_call f__law_draw (hr.mono (by decide)) (by rfl) (ja_cons (j_varS 1 (pv 1)) (ja_cons j_int ja_nil))))
 (jcs_cons (jc_set (i := 6) sc_law.nd rfl (by first | exact .inl rfl | exact .inr rfl) (j_call f__law_all_keys (hr.mono (by decide)) (by rfl) (ja_cons (JF.s (j_lc (own := [("k", 12)]) rfl sc_law.nd (ji_range1 (by rfl) z_range (j_var 3 (pv 3))) (blkOk_by (by first | (show blkC ["script", "pool", "turn", "n", "b", "m", "everyone", "fair", "key", "many", "table", "step", "k", "other", "height"] (defScope t_law) _ _ = true; decide +kernel) | kernel_rfl)) (by decide) (fun _ _ _ _ _ => (jg_name 12 (pg_name (i := 12) sc_law.nd rfl (by first | exact .inl rfl | exact .inr rfl)))) (fun _ _ _ _ _ => jts_nil) (fun _ _ _ _ _ => (JF.s (j_lr1 (hc := rfl) (by rfl) z_list (by rfl) z_range (j_var 4 (pv 4))))))) ja_nil)))
 (jcs_cons (jc_setLc (i := 7) (hyl := by rfl) (hsw := sw_true rfl rfl rfl (by decide +kernel)) (hy := rfl) (own := [("key", 8)]) rfl sc_law.nd (ji_items (j_varS 6 (pv 6))) (blkOk_by (by first | (show blkC ["script", "pool", "turn", "n", "b", "m", "everyone", "fair", "key", "many", "table", "step", "k", "other", "height"] (defScope t_law) _ _ = true; decide +kernel) | kernel_rfl)) (by decide) (fun _ _ _ _ _ => (jg_name 8 (pg_name (i := 8) sc_law.nd rfl (by first | exact .inl rfl | exact .inr rfl)))) (fun _ _ _ _ _ => (jts_one (j_tcmp (op_eqD hr.units) s_eq (nomark _) (JS.w (j_cb c_len s_len (by rfl) z_len vb_len (jb_cons (JF.w (j_lc (own := [("k", 12)]) rfl sc_law.nd (ji_range2 (by rfl) z_range (JS.w j_int) (j_var 3 (pv 3))) (blkOk_by (by first | (show blkC ["script", "pool", "turn", "n", "b", "m", "everyone", "fair", "key", "many", "table", "step", "k", "other", "height"] (defScope t_law) _ _ = true; decide +kernel) | kernel_rfl)) (by decide) (fun _ _ _ _ _ => (jg_name 12 (pg_name (i := 12) sc_law.nd rfl (by first | exact .inl rfl | exact .inr rfl)))) (fun _ _ _ _ _ => (jts_one (j_tcmp (op_gtA hr) s_gt (nomark _) (JS.w (j_cb c_abs s_abs (by rfl) z_abs vb_abs (jb_cons (JS.w (j_op op_sub s_sub (JS.w (j_ix hr.units (j_var 8 (pv 8)) (j_var 12 (pv 12)) (fun _ _ => rfl))) (JS.w (j_ix hr.units (j_var 8 (pv 8)) (JS.w (j_op op_sub s_sub (j_var 12 (pv 12)) (JS.w j_int))) (fun _ _ => rfl))))) jb_nil))) (j_var 5 (pv 5))))) (fun _ _ _ _ _ => (j_varS 12 (pv 12))))) jb_nil))) (JS.w j_int)))) (fun _ _ _ _ _ => (j_varS 8 (pv 8))))
 (jcs_cons (jc_if (JWt.tt (j_or (j_not (j_tru (JS.w (j_call f__law_same (hr.mono (by decide)) (by rfl) (ja_cons (j_call f_fair_keys (hr.mono (by decide)) (by rfl) (ja_cons (j_varS 3 (pv 3)) (ja_cons (j_varS 4 (pv 4)) (ja_cons (j_varS 5 (pv 5)) ja_nil)))) (ja_cons (j_varS 7 (pv 7)) ja_nil)))) (by intro _; rfl))) (j_or1 (j_not (j_tru (JS.w (j_call f__law_same (hr.mono (by decide)) (by rfl) (ja_cons (j_call f_fair_count (hr.mono (by decide)) (by rfl) (ja_cons (j_varS 3 (pv 3)) (ja_cons (j_varS 4 (pv 4)) (ja_cons (j_varS 5 (pv 5)) ja_nil)))) (ja_cons (j_cb c_len s_len (by rfl) z_len vb_len (jb_cons (j_var 7 (pv 7)) jb_nil)) ja_nil)))) (by intro _; rfl))))))
 (jcs_one (jc_ret j_bl))
 jcs_nil)
 (jcs_cons (jc_set (i := 8) sc_law.nd rfl (by first | exact .inl rfl | exact .inr rfl) (j_call f__law_key (hr.mono (by decide)) (by rfl) (ja_cons (j_varS 1 (pv 1)) (ja_cons (j_op op_addA s_add (JS.w j_int) (JS.w (j_call f__law_draw (hr.mono (by decide)) (by rfl) (ja_cons (j_varS 1 (pv 1)) (ja_cons j_int ja_nil))))) (ja_cons j_int ja_nil)))))
 (jcs_cons (jc_if (j_not (j_tru (JS.w (j_call f__law_same (hr.mono (by decide)) (by rfl) (ja_cons (j_call f_is_fair (hr.mono (by decide)) (by rfl) (ja_cons (j_varS 8 (pv 8)) (ja_cons (j_varS 5 (pv 5)) ja_nil))) (ja_cons (j_cmp (op_eqD hr.units) s_eq (nomark _) (JS.w (j_cb c_len s_len (by rfl) z_len vb_len (jb_cons (JF.w (j_lc (own := [("k", 12)]) rfl sc_law.nd (ji_range2 (by rfl) z_range (JS.w j_int) (JS.w (j_cb c_len s_len (by rfl) z_len vb_len (jb_cons (j_var 8 (pv 8)) jb_nil)))) (blkOk_by (by first | (show blkC ["script", "pool", "turn", "n", "b", "m", "everyone", "fair", "key", "many", "table", "step", "k", "other", "height"] (defScope t_law) _ _ = true; decide +kernel) | kernel_rfl)) (by decide) (fun _ _ _ _ _ => (jg_name 12 (pg_name (i := 12) sc_law.nd rfl (by first | exact .inl rfl | exact .inr rfl)))) (fun _ _ _ _ _ => (jts_one (j_tcmp (op_gtA hr) s_gt (nomark _) (JS.w (j_cb c_abs s_abs (by rfl) z_abs vb_abs (jb_cons (JS.w (j_op op_sub s_sub (JS.w (j_ix hr.units (j_var 8 (pv 8)) (j_var 12 (pv 12)) (fun _ _ => rfl))) (JS.w (j_ix hr.units (j_var 8 (pv 8)) (JS.w (j_op op_sub s_sub (j_var 12 (pv 12)) (JS.w j_int))) (fun _ _ => rfl))))) jb_nil))) (j_var 5 (pv 5))))) (fun _ _ _ _ _ => (j_varS 12 (pv 12))))) jb_nil))) (JS.w j_int)) ja_nil)))) (by intro _; rfl)))
 (jcs_one (jc_ret j_bl))
 jcs_nil)
 (jcs_cons (jc_set (i := 9) sc_law.nd rfl (by first | exact .inl rfl | exact .inr rfl) (j_op op_addA s_add (JS.w j_int) (JS.w (j_call f__law_draw (hr.mono (by decide)) (by rfl) (ja_cons (j_varS 1 (pv 1)) (ja_cons j_int ja_nil))))))
 (jcs_cons (jc_set (i := 4) sc_law.nd rfl (by first | exact .inl rfl | exact .inr rfl) (j_op op_addA s_add (JS.w j_int) (JS.w (j_call f__law_draw (hr.mono (by decide)) (by rfl) (ja_cons (j_varS 1 (pv 1)) (ja_cons j_int ja_nil))))))
 (jcs_cons (jc_set (i := 10) sc_law.nd rfl (by first | exact .inl rfl | exact .inr rfl) (j_op op_mulAll s_mulAll (JF.w (j_lst (ja_cons j_int ja_nil))) (j_var 4 (pv 4))))
 (jcs_cons (jc_for [0, 2, 3, 6, 7, 8, 11] PassesOwn.never rfl (ji_range1 (by rfl) z_range (JS.w (j_op op_sub s_sub (j_var 9 (pv 9)) (JS.w j_int)))) (jg_name 11 (pg_name (i := 11) sc_law.nd rfl (by first | exact .inl rfl | exact .inr rfl)))
 (jcs_one (jc_set (i := 10) sc_law.nd rfl (by first | exact .inl rfl | exact .inr rfl) (JF.s (j_lc (own := [("height", 14)]) rfl sc_law.nd (ji_range1 (by rfl) z_range (j_var 4 (pv 4))) (blkOk_by (by first | (show blkC ["script", "pool", "turn", "n", "b", "m", "everyone", "fair", "key", "many", "table", "step", "k", "other", "height"] (defScope t_law) _ _ = true; decide +kernel) | kernel_rfl)) (by decide) (fun _ _ _ _ _ => (jg_name 14 (pg_name (i := 14) sc_law.nd rfl (by first | exact .inl rfl | exact .inr rfl)))) (fun _ _ _ _ _ => jts_nil) (fun _ _ _ _ _ => (j_cb (c_sum) s_sum (by rfl) z_sum vb_sum (jb_cons (JF.w (j_lc (own := [("other", 13)]) rfl sc_law.nd (ji_range1 (by rfl) z_range (j_var 4 (pv 4))) (blkOk_by (by first | (show blkC ["script", "pool", "turn", "n", "b", "m", "everyone", "fair", "key", "many", "table", "step", "k", "other", "height"] (defScope t_law) _ _ = true; decide +kernel) | kernel_rfl)) (by decide) (fun _ _ _ _ _ => (jg_name 13 (pg_name (i := 13) sc_law.nd rfl (by first | exact .inl rfl | exact .inr rfl)))) (fun _ _ _ _ _ => (jts_one (j_tcmp (op_leA hr) s_le (nomark _) (JS.w (j_cb c_abs s_abs (by rfl) z_abs vb_abs (jb_cons (JS.w (j_op op_sub s_sub (j_var 13 (pv 13)) (j_var 14 (pv 14)))) jb_nil))) (j_var 5 (pv 5))))) (fun _ _ _ _ _ => (j_ix hr.units (j_var 10 (pv 10)) (j_var 13 (pv 13)) (fun _ _ => rfl))))) jb_nil))))))))
 (jcs_one (jc_if (j_not (j_tru (JS.w (j_call f__law_same (hr.mono (by decide)) (by rfl) (ja_cons (j_call f_fair_count (hr.mono (by decide)) (by rfl) (ja_cons (j_varS 9 (pv 9)) (ja_cons (j_varS 4 (pv 4)) (ja_cons (j_varS 5 (pv 5)) ja_nil)))) (ja_cons (j_cb (c_sum) s_sum (by rfl) z_sum vb_sum (jb_cons (j_var 10 (pv 10)) jb_nil)) ja_nil)))) (by intro _; rfl)))
 (jcs_one (jc_ret j_bl))
 jcs_nil))))))))))))))))
 (jcs_one (jc_ret j_bl)))) (by decide) p_law
end
theorem all_mk {l : PySem.W.OpenLaw} {w : World} {K : PySem.W.Frag} {h : Heap} {mg : Str → Option Value} {fa f0 f1 f2 f3 f4 f5 f6 f7 f8 f9 f10 f11 : Addr} (X : K.In h) (G : h.Ns mainGlobals mg) (hfa : mg "law" = some (.ref fa))
    {od0 an0 od1 an1 od2 an2 od3 an3 od4 an4 od5 an5 od6 an6 od7 an7 od8 an8 od9 an9 od10 an10 od11 an11 : Option Addr} {sl0 sl1 sl2 sl3 sl4 sl5 sl6 sl7 sl8 sl9 sl10 sl11 : Array (Option Value)} {oc0 kV0 dc0 pm0 cd0 ct0 oc1 kV1 dc1 pm1 cd1 ct1 oc2 kV2 dc2 pm2 cd2 ct2 oc3 kV3 dc3 pm3 cd3 ct3 oc4 kV4 dc4 pm4 cd4 ct4 oc5 kV5 dc5 pm5 cd5 ct5 oc6 kV6 dc6 pm6 cd6 ct6 oc7 kV7 dc7 pm7 cd7 ct7 oc8 kV8 dc8 pm8 cd8 ct8 oc9 kV9 dc9 pm9 cd9 ct9 oc10 kV10 dc10 pm10 cd10 ct10 oc11 kV11 dc11 pm11 cd11 ct11 : Value}
    (a0 : PySem.W.nsIn K mainGlobals "is_fair" = some (some (.ref f0))) (l0 : K.lookup f0 = some ⟨oc0, od0, .func (PySem.W.fnOf "is_fair" "is_fair" (defArgs t_is_fair) (defBody t_is_fair) (defScope t_is_fair) .none kV0 dc0 pm0 an0 cd0 ct0), sl0⟩) (c0 : PySem.W.codeIn K cd0 "is_fair" = true) (k0 : PySem.W.keepIn K (.ref f0) = true)
    (a1 : PySem.W.nsIn K mainGlobals "fair_count" = some (some (.ref f1))) (l1 : K.lookup f1 = some ⟨oc1, od1, .func (PySem.W.fnOf "fair_count" "fair_count" (defArgs t_fair_count) (defBody t_fair_count) (defScope t_fair_count) .none kV1 dc1 pm1 an1 cd1 ct1), sl1⟩) (c1 : PySem.W.codeIn K cd1 "fair_count" = true) (k1 : PySem.W.keepIn K (.ref f1) = true)
    (a2 : PySem.W.nsIn K mainGlobals "fair_keys" = some (some (.ref f2))) (l2 : K.lookup f2 = some ⟨oc2, od2, .func (PySem.W.fnOf "fair_keys" "fair_keys" (defArgs t_fair_keys) (defBody t_fair_keys) (defScope t_fair_keys) .none kV2 dc2 pm2 an2 cd2 ct2), sl2⟩) (c2 : PySem.W.codeIn K cd2 "fair_keys" = true) (k2 : PySem.W.keepIn K (.ref f2) = true)
    (a3 : PySem.W.nsIn K mainGlobals "_law_mixed" = some (some (.ref f3))) (l3 : K.lookup f3 = some ⟨oc3, od3, .func (PySem.W.fnOf "_law_mixed" "_law_mixed" (defArgs t__law_mixed) (defBody t__law_mixed) (defScope t__law_mixed) .none kV3 dc3 pm3 an3 cd3 ct3), sl3⟩) (c3 : PySem.W.codeIn K cd3 "_law_mixed" = true) (k3 : PySem.W.keepIn K (.ref f3) = true)
    (a4 : PySem.W.nsIn K mainGlobals "_law_rest" = some (some (.ref f4))) (l4 : K.lookup f4 = some ⟨oc4, od4, .func (PySem.W.fnOf "_law_rest" "_law_rest" (defArgs t__law_rest) (defBody t__law_rest) (defScope t__law_rest) .none kV4 dc4 pm4 an4 cd4 ct4), sl4⟩) (c4 : PySem.W.codeIn K cd4 "_law_rest" = true) (k4 : PySem.W.keepIn K (.ref f4) = true)
    (a5 : PySem.W.nsIn K mainGlobals "_law_pool" = some (some (.ref f5))) (l5 : K.lookup f5 = some ⟨oc5, od5, .func (PySem.W.fnOf "_law_pool" "_law_pool" (defArgs t__law_pool) (defBody t__law_pool) (defScope t__law_pool) .none kV5 dc5 pm5 an5 cd5 ct5), sl5⟩) (c5 : PySem.W.codeIn K cd5 "_law_pool" = true) (k5 : PySem.W.keepIn K (.ref f5) = true)
    (a6 : PySem.W.nsIn K mainGlobals "_law_next" = some (some (.ref f6))) (l6 : K.lookup f6 = some ⟨oc6, od6, .func (PySem.W.fnOf "_law_next" "_law_next" (defArgs t__law_next) (defBody t__law_next) (defScope t__law_next) .none kV6 dc6 pm6 an6 cd6 ct6), sl6⟩) (c6 : PySem.W.codeIn K cd6 "_law_next" = true) (k6 : PySem.W.keepIn K (.ref f6) = true)
    (a7 : PySem.W.nsIn K mainGlobals "_law_draw" = some (some (.ref f7))) (l7 : K.lookup f7 = some ⟨oc7, od7, .func (PySem.W.fnOf "_law_draw" "_law_draw" (defArgs t__law_draw) (defBody t__law_draw) (defScope t__law_draw) .none kV7 dc7 pm7 an7 cd7 ct7), sl7⟩) (c7 : PySem.W.codeIn K cd7 "_law_draw" = true) (k7 : PySem.W.keepIn K (.ref f7) = true)
    (a8 : PySem.W.nsIn K mainGlobals "_law_all_keys" = some (some (.ref f8))) (l8 : K.lookup f8 = some ⟨oc8, od8, .func (PySem.W.fnOf "_law_all_keys" "_law_all_keys" (defArgs t__law_all_keys) (defBody t__law_all_keys) (defScope t__law_all_keys) .none kV8 dc8 pm8 an8 cd8 ct8), sl8⟩) (c8 : PySem.W.codeIn K cd8 "_law_all_keys" = true) (k8 : PySem.W.keepIn K (.ref f8) = true)
    (a9 : PySem.W.nsIn K mainGlobals "_law_same" = some (some (.ref f9))) (l9 : K.lookup f9 = some ⟨oc9, od9, .func (PySem.W.fnOf "_law_same" "_law_same" (defArgs t__law_same) (defBody t__law_same) (defScope t__law_same) .none kV9 dc9 pm9 an9 cd9 ct9), sl9⟩) (c9 : PySem.W.codeIn K cd9 "_law_same" = true) (k9 : PySem.W.keepIn K (.ref f9) = true)
    (a10 : PySem.W.nsIn K mainGlobals "_law_key" = some (some (.ref f10))) (l10 : K.lookup f10 = some ⟨oc10, od10, .func (PySem.W.fnOf "_law_key" "_law_key" (defArgs t__law_key) (defBody t__law_key) (defScope t__law_key) .none kV10 dc10 pm10 an10 cd10 ct10), sl10⟩) (c10 : PySem.W.codeIn K cd10 "_law_key" = true) (k10 : PySem.W.keepIn K (.ref f10) = true)
    (a11 : PySem.W.nsIn K mainGlobals "law" = some (some (.ref f11))) (l11 : K.lookup f11 = some ⟨oc11, od11, .func (PySem.W.fnOf "law" "law" (defArgs t_law) (defBody t_law) (defScope t_law) .none kV11 dc11 pm11 an11 cd11 ct11), sl11⟩) (c11 : PySem.W.codeIn K cd11 "law" = true) (k11 : PySem.W.keepIn K (.ref f11) = true)
    (y_zip : PySem.W.nsIn K mainGlobals "zip" = some none)
    (y_abs : PySem.W.nsIn K mainGlobals "abs" = some none)
    (y_all : PySem.W.nsIn K mainGlobals "all" = some none)
    (y_range : PySem.W.nsIn K mainGlobals "range" = some none)
    (y_max : PySem.W.nsIn K mainGlobals "max" = some none)
    (y_sum : PySem.W.nsIn K mainGlobals "sum" = some none)
    (y_sorted : PySem.W.nsIn K mainGlobals "sorted" = some none)
    (y_int : PySem.W.nsIn K mainGlobals "int" = some none)
    (y_len : PySem.W.nsIn K mainGlobals "len" = some none)
    (y_isinstance : PySem.W.nsIn K mainGlobals "isinstance" = some none)
    (y_bool : PySem.W.nsIn K mainGlobals "bool" = some none)
    (y_str : PySem.W.nsIn K mainGlobals "str" = some none)
    (y_dict : PySem.W.nsIn K mainGlobals "dict" = some none)
    (y_list : PySem.W.nsIn K mainGlobals "list" = some none)
    (y_tuple : PySem.W.nsIn K mainGlobals "tuple" = some none)
    : ∃ fd : FuncData, (∀ (s : Shared) (v : Value), BindsTo s fd ⟨[v], []⟩ [("script", v)]) ∧ ∀ base : Heap, K.In base → base.Ns mainGlobals mg → FnOk l.prog w K mg base CX0 9 fa fd ["script"] (spLaw K) := by
  have e := hfa.symm.trans (PySem.W.mg_of X G a11)
  cases e
  have z_zip := PySem.W.mg_none_of X G y_zip
  have z_abs := PySem.W.mg_none_of X G y_abs
  have z_all := PySem.W.mg_none_of X G y_all
  have z_range := PySem.W.mg_none_of X G y_range
  have z_max := PySem.W.mg_none_of X G y_max
  have z_sum := PySem.W.mg_none_of X G y_sum
  have z_sorted := PySem.W.mg_none_of X G y_sorted
  have z_int := PySem.W.mg_none_of X G y_int
  have z_len := PySem.W.mg_none_of X G y_len
  have z_isinstance := PySem.W.mg_none_of X G y_isinstance
  have z_bool := PySem.W.mg_none_of X G y_bool
  have z_str := PySem.W.mg_none_of X G y_str
  have z_dict := PySem.W.mg_none_of X G y_dict
  have z_list := PySem.W.mg_none_of X G y_list
  have z_tuple := PySem.W.mg_none_of X G y_tuple
  refine ⟨PySem.W.fnOf "law" "law" (defArgs t_law) (defBody t_law) (defScope t_law) .none kV11 dc11 pm11 an11 cd11 ct11, fun s v => .of_eq rfl, fun base _ _ => ?_⟩
  have F0 := fun_mk (st := t_is_fair) l0 c0 k0
  have b0 := F0.binds (ps := ["key", "m"]) fun _ _ _ _ _ _ us hl => match us, hl with | [_, _], _ => rfl
  have f_is_fair := mk_is_fair (Pg := l.prog) (w := w) (base := base) F0 b0 (PySem.W.mg_of X G a0) z_zip z_abs z_all
  have F1 := fun_mk (st := t_fair_count) l1 c1 k1
  have b1 := F1.binds (ps := ["n", "b", "m"]) fun _ _ _ _ _ _ us hl => match us, hl with | [_, _, _], _ => rfl
  have f_fair_count := mk_fair_count (Pg := l.prog) (w := w) (base := base) F1 b1 (PySem.W.mg_of X G a1) z_range z_max z_sum
  have F2 := fun_mk (st := t_fair_keys) l2 c2 k2
  have b2 := F2.binds (ps := ["n", "b", "m"]) fun _ _ _ _ _ _ us hl => match us, hl with | [_, _, _], _ => rfl
  have f_fair_keys := mk_fair_keys (Pg := l.prog) (w := w) (base := base) F2 b2 (PySem.W.mg_of X G a2) z_range z_abs z_sorted
  have F3 := fun_mk (st := t__law_mixed) l3 c3 k3
  have b3 := F3.binds (ps := ["number", "place"]) fun _ _ _ _ _ _ us hl => match us, hl with | [_, _], _ => rfl
  have f__law_mixed := mk__law_mixed (Pg := l.prog) (w := w) (base := base) F3 b3 (PySem.W.mg_of X G a3) z_int
  have F4 := fun_mk (st := t__law_rest) l4 c4 k4
  have b4 := F4.binds (ps := ["script", "place", "fills"]) fun _ _ _ _ _ _ us hl => match us, hl with | [_, _, _], _ => rfl
  have f__law_rest := mk__law_rest' (Pg := l.prog) (w := w) (base := base) F4 b4 (PySem.W.mg_of X G a4) f__law_mixed z_len z_int
  have F5 := fun_mk (st := t__law_pool) l5 c5 k5
  have b5 := F5.binds (ps := ["script"]) fun _ _ _ _ _ _ us hl => match us, hl with | [_], _ => rfl
  have f__law_pool := mk__law_pool (Pg := l.prog) (w := w) (base := base) F5 b5 (PySem.W.mg_of X G a5) f__law_rest
  have F6 := fun_mk (st := t__law_next) l6 c6 k6
  have b6 := F6.binds (ps := ["pool"]) fun _ _ _ _ _ _ us hl => match us, hl with | [_], _ => rfl
  have f__law_next := mk__law_next (Pg := l.prog) (w := w) (base := base) F6 b6 (PySem.W.mg_of X G a6) f__law_rest
  have F7 := fun_mk (st := t__law_draw) l7 c7 k7
  have b7 := F7.binds (ps := ["pool", "limit"]) fun _ _ _ _ _ _ us hl => match us, hl with | [_, _], _ => rfl
  have f__law_draw := mk__law_draw (Pg := l.prog) (w := w) (base := base) F7 b7 (PySem.W.mg_of X G a7) f__law_rest z_int
  have F8 := fun_mk (st := t__law_all_keys) l8 c8 k8
  have b8 := F8.binds (ps := ["lock"]) fun _ _ _ _ _ _ us hl => match us, hl with | [_], _ => rfl
  have f__law_all_keys := mk__law_all_keys (Pg := l.prog) (w := w) (base := base) F8 b8 (PySem.W.mg_of X G a8) z_sorted
  have F9 := fun_mk (st := t__law_same) l9 c9 k9
  have b9 := F9.binds (ps := ["actual", "due"]) fun _ _ _ _ _ _ us hl => match us, hl with | [_, _], _ => rfl
  have f__law_same : Fo l.prog w K mg base 8 "_law_same" ["actual", "due"] s__law_same := mk__law_same (Pg := l.prog) (w := w) (base := base) F9 b9 (PySem.W.mg_of X G a9) z_isinstance z_int z_bool z_str z_dict z_len z_list z_tuple z_range 8
  have F10 := fun_mk (st := t__law_key) l10 c10 k10
  have b10 := F10.binds (ps := ["pool", "n", "b"]) fun _ _ _ _ _ _ us hl => match us, hl with | [_, _, _], _ => rfl
  have f__law_key := mk__law_key (Pg := l.prog) (w := w) (base := base) F10 b10 (PySem.W.mg_of X G a10) f__law_draw z_range z_tuple
  exact mk_law (fun_mk (st := t_law) l11 c11 k11) f__law_pool f__law_next f__law_draw f__law_all_keys f__law_same f_fair_count f_fair_keys f__law_key f_is_fair z_range z_list z_abs z_len z_sum
end Law
open PySem PySem.W PyProof.Rows
set_option maxRecDepth 100000 in
set_option maxHeartbeats 0 in
theorem PySem.Challenge.cw_lockwork_k44_whole_fair_keys_counted_holds : PySem.Challenge.rw_lockwork_k44_whole_fair_keys_counted.Holds := by
  w_on; o_law; k_head; (case hw => w_witness2)
  k_fill
  refine Pv.walk_end (lev := 9) (l := PySem.Challenge.rw_lockwork_k44_whole_fair_keys_counted) ⟨rfl, by decide, by decide⟩ rfl rfl (fun w h Y => PySem.W.kIn_of Y) ?F
  case F =>
    intro w mg fa h KX G hmg
    refine' Law.all_mk KX G hmg ?a0 ?l0 ?c0 ?k0 ?a1 ?l1 ?c1 ?k1 ?a2 ?l2 ?c2 ?k2 ?a3 ?l3 ?c3 ?k3 ?a4 ?l4 ?c4 ?k4 ?a5 ?l5 ?c5 ?k5 ?a6 ?l6 ?c6 ?k6 ?a7 ?l7 ?c7 ?k7 ?a8 ?l8 ?c8 ?k8 ?a9 ?l9 ?c9 ?k9 ?a10 ?l10 ?c10 ?k10 ?a11 ?l11 ?c11 ?k11 ?y_zip ?y_abs ?y_all ?y_range ?y_max ?y_sum ?y_sorted ?y_int ?y_len ?y_isinstance ?y_bool ?y_str ?y_dict ?y_list ?y_tuple
    (case a0 => k_is); (case l0 => k_is); (case c0 => k_is); (case k0 => k_is); (case a1 => k_is); (case l1 => k_is); (case c1 => k_is); (case k1 => k_is); (case a2 => k_is); (case l2 => k_is); (case c2 => k_is); (case k2 => k_is); (case a3 => k_is); (case l3 => k_is); (case c3 => k_is); (case k3 => k_is); (case a4 => k_is); (case l4 => k_is); (case c4 => k_is); (case k4 => k_is); (case a5 => k_is); (case l5 => k_is); (case c5 => k_is); (case k5 => k_is); (case a6 => k_is); (case l6 => k_is); (case c6 => k_is); (case k6 => k_is); (case a7 => k_is); (case l7 => k_is); (case c7 => k_is); (case k7 => k_is); (case a8 => k_is); (case l8 => k_is); (case c8 => k_is); (case k8 => k_is); (case a9 => k_is); (case l9 => k_is); (case c9 => k_is); (case k9 => k_is); (case a10 => k_is); (case l10 => k_is); (case c10 => k_is); (case k10 => k_is); (case a11 => k_is); (case l11 => k_is); (case c11 => k_is); (case k11 => k_is); (case y_zip => k_is); (case y_abs => k_is); (case y_all => k_is); (case y_range => k_is); (case y_max => k_is); (case y_sum => k_is); (case y_sorted => k_is); (case y_int => k_is); (case y_len => k_is); (case y_isinstance => k_is); (case y_bool => k_is); (case y_str => k_is); (case y_dict => k_is); (case y_list => k_is); (case y_tuple => k_is)
