import PyProof.Rows.All
import Wide.All
import OpenK.AllK
import Wide.FinOn
import HandS.ForMost
import HandS.Exc
import HandS.ExcOwn
import HandS.ExcInit
import HandS.WordsExc
import HandS.TryOnly
import HandS.Evl
import HandS.Wide
import HandS.Walk
import HandS.TupAny
import HandS.TupMul
import HandS.IsInst
import KE.GoesEnum
import HandS.Iter
import KE.GoesZip
import HandS.TupLe
import HandS.ExcField
import HandS.Style
import HandS.Defaults
import HandS.Text
import HandS.Strs
import KE.KRevSl
import HandS.TryMany
import HandS.ExcIs
import KE.RegKTryMore
import KE.RegKIsAll
import KE.KExcIs
import HandS.More
import HandS.Deep
import KE.DataFind
import PySem.Challenge.RW_sparehouses_k48_polynomials
set_option Elab.async false
set_option linter.all false
set_option maxRecDepth 100000
set_option maxHeartbeats 4000000
/-! Kd0: data without a heap: values D, what represents them (Rep), the store of what may change (Sto), the judgements over HandS. -/
namespace KD
open PySem PySem.Spec PyProof.Rows L2
abbrev Ex := Evl.Ex

inductive D where
  | non | bl (b : Bool) | int (i : Int) | str (x : Str)
  | lst (xs : List D) | tup (xs : List D)
  | dic (kvs : List (Key × D))
  | dit (kvs : List (List Key × D))
  | ref (a : Addr)
  | scr (ns : List Int)
  | ty (n : String)

/-- a tuple that is tracked, or written by the module -/
def TupG (K : PySem.W.Frag) (G : Hp) (a : Addr) (vs : List V) : Prop :=
  G a = some (.tup vs) ∨ ∃ (o : Obj) (its : Array Value) (n : Nat), K.lookup a = some o ∧ o.cls = .type "tuple" ∧ o.data = .seq its n ∧ its.size ≤ sizeLine ∧ Vals vs its.toList
theorem TupG.sq {K : PySem.W.Frag} {G : Hp} {a : Addr} {vs : List V} (h : TupG K G a vs) : SqT K G a vs := by
  rcases h with h | h
  · exact .of h
  · exact .inr h
theorem TupG.mono {K : PySem.W.Frag} {G G' : Hp} {a : Addr} {vs : List V} (e : Ex G G') (h : TupG K G a vs) : TupG K G' a vs := by
  rcases h with h | h
  · exact .inl (e _ _ h)
  · exact .inr h

mutual
inductive Rep (K : PySem.W.Frag) (G : Hp) : V → D → Prop
  | non : Rep K G .non .non
  | bl (b : Bool) : Rep K G (.bl b) (.bl b)
  | int (i : Int) : Rep K G (.int i) (.int i)
  | str (x : Str) : Rep K G (.str x) (.str x)
  | ref (a : Addr) : Rep K G (.ref a) (.ref a)
  | ty (n : String) : Rep K G (.ty n) (.ty n)
  | lst {a : Addr} {vs : List V} {xs : List D} : G a = some (.lst vs) → RepL K G vs xs → Rep K G (.ref a) (.lst xs)
  | tup {a : Addr} {vs : List V} {xs : List D} : TupG K G a vs → RepL K G vs xs → Rep K G (.ref a) (.tup xs)
  | scr {a : Addr} {ns : List Int} : SqL K G a (ns.map V.int) → Rep K G (.ref a) (.scr ns)
  | dic {a : Addr} {o : Obj} {vs : List (Key × V)} {xs : List (Key × D)} : G a = some (.frz o (.dK vs)) → RepK K G vs xs → Rep K G (.ref a) (.dic xs)
  | dit {a : Addr} {o : Obj} {vs : List (List Key × V)} {xs : List (List Key × D)} : G a = some (.frz o (.dT vs)) → RepT K G vs xs → Rep K G (.ref a) (.dit xs)
inductive RepL (K : PySem.W.Frag) (G : Hp) : List V → List D → Prop
  | nil : RepL K G [] []
  | cons {v : V} {vs : List V} {d : D} {ds : List D} : Rep K G v d → RepL K G vs ds → RepL K G (v :: vs) (d :: ds)
inductive RepK (K : PySem.W.Frag) (G : Hp) : List (Key × V) → List (Key × D) → Prop
  | nil : RepK K G [] []
  | cons {k : Key} {v : V} {vs : List (Key × V)} {d : D} {ds : List (Key × D)} : Rep K G v d → RepK K G vs ds → RepK K G ((k, v) :: vs) ((k, d) :: ds)
inductive RepT (K : PySem.W.Frag) (G : Hp) : List (List Key × V) → List (List Key × D) → Prop
  | nil : RepT K G [] []
  | cons {k : List Key} {v : V} {vs : List (List Key × V)} {d : D} {ds : List (List Key × D)} : Rep K G v d → RepT K G vs ds → RepT K G ((k, v) :: vs) ((k, d) :: ds)
end
def RepF (K : PySem.W.Frag) (G : Hp) : List (Str × V) → List (Str × D) → Prop := Paired fun p q => p.1 = q.1 ∧ Rep K G p.2 q.2

section
variable {K : PySem.W.Frag} {G G' : Hp}
mutual
theorem Rep.mono (e : Ex G G') : ∀ {d : D} {v : V}, Rep K G v d → Rep K G' v d
  | .non, _, h => by cases h; exact .non
  | .bl b, _, h => by cases h; exact .bl b
  | .int i, _, h => by cases h; exact .int i
  | .str x, _, h => by cases h; exact .str x
  | .ref a, _, h => by cases h; exact .ref a
  | .ty n, _, h => by cases h; exact .ty n
  | .scr ns, _, h => by
    cases h with
    | scr h => exact .scr (Evl.ex_l e h)
  | .lst xs, _, h => by
    cases h with
    | lst h1 h2 => exact .lst (e _ _ h1) (RepL.mono e h2)
  | .tup xs, _, h => by
    cases h with
    | tup h1 h2 => exact .tup (h1.mono e) (RepL.mono e h2)
  | .dic xs, _, h => by
    cases h with
    | dic h1 h2 => exact .dic (e _ _ h1) (RepK.mono e h2)
  | .dit xs, _, h => by
    cases h with
    | dit h1 h2 => exact .dit (e _ _ h1) (RepT.mono e h2)
theorem RepL.mono (e : Ex G G') : ∀ {ds : List D} {vs : List V}, RepL K G vs ds → RepL K G' vs ds
  | [], _, h => by cases h; exact .nil
  | d :: ds, _, h => by
    cases h with
    | cons h1 h2 => exact .cons (Rep.mono e h1) (RepL.mono e h2)
theorem RepK.mono (e : Ex G G') : ∀ {ds : List (Key × D)} {vs : List (Key × V)}, RepK K G vs ds → RepK K G' vs ds
  | [], _, h => by cases h; exact .nil
  | (k, d) :: ds, _, h => by
    cases h with
    | cons h1 h2 => exact .cons (Rep.mono e h1) (RepK.mono e h2)
theorem RepT.mono (e : Ex G G') : ∀ {ds : List (List Key × D)} {vs : List (List Key × V)}, RepT K G vs ds → RepT K G' vs ds
  | [], _, h => by cases h; exact .nil
  | (k, d) :: ds, _, h => by
    cases h with
    | cons h1 h2 => exact .cons (Rep.mono e h1) (RepT.mono e h2)
end
theorem RepF.mono (e : Ex G G') {fs : List (Str × V)} {ds : List (Str × D)} (h : RepF K G fs ds) : RepF K G' fs ds := Paired.mapP h fun _ _ z => ⟨z.1, z.2.mono e⟩
theorem RepL.length : ∀ {vs : List V} {ds : List D}, RepL K G vs ds → vs.length = ds.length
  | [], _, h => by cases h; rfl
  | v :: vs, _, h => by
    cases h with
    | cons h1 h2 => simp [RepL.length h2]
theorem RepL.get : ∀ {vs : List V} {ds : List D} {i : Nat} {d : D}, RepL K G vs ds → ds[i]? = some d → ∃ v, vs[i]? = some v ∧ Rep K G v d
  | [], _, i, d, h, e => by cases h; simp at e
  | v :: vs, _, 0, d, h, e => by
    cases h with
    | cons h1 h2 => simp at e; subst e; exact ⟨v, rfl, h1⟩
  | v :: vs, _, i + 1, d, h, e => by
    cases h with
    | cons h1 h2 => exact RepL.get (i := i) h2 (by simpa using e)
theorem RepL.get' : ∀ {vs : List V} {ds : List D} {i : Nat} {v : V}, RepL K G vs ds → vs[i]? = some v → ∃ d, ds[i]? = some d ∧ Rep K G v d
  | [], _, i, v, h, e => by simp at e
  | w :: vs, _, 0, v, h, e => by
    cases h with
    | cons h1 h2 => simp at e; subst e; exact ⟨_, rfl, h1⟩
  | w :: vs, _, i + 1, v, h, e => by
    cases h with
    | cons h1 h2 => exact RepL.get' (i := i) h2 (by simpa using e)
theorem RepL.append : ∀ {vs us : List V} {ds es : List D}, RepL K G vs ds → RepL K G us es → RepL K G (vs ++ us) (ds ++ es)
  | [], _, _, _, h, q => by cases h; exact q
  | v :: vs, _, _, _, h, q => by
    cases h with
    | cons h1 h2 => exact .cons h1 (RepL.append h2 q)
theorem RepL.one {v : V} {d : D} (h : Rep K G v d) : RepL K G [v] [d] := .cons h .nil
theorem RepL.set {v : V} {d : D} (r : Rep K G v d) : ∀ {vs : List V} {ds : List D} (i : Nat), RepL K G vs ds → RepL K G (vs.set i v) (ds.set i d)
  | [], _, _, h => by cases h; exact .nil
  | w :: vs, _, 0, h => by
    cases h with
    | cons h1 h2 => exact .cons r h2
  | w :: vs, _, i + 1, h => by
    cases h with
    | cons h1 h2 => exact .cons h1 (RepL.set r i h2)
theorem RepL.take : ∀ {vs : List V} {ds : List D} (n : Nat), RepL K G vs ds → RepL K G (vs.take n) (ds.take n)
  | [], _, n, h => by cases h; simp; exact .nil
  | w :: vs, _, 0, h => .nil
  | w :: vs, _, n + 1, h => by
    cases h with
    | cons h1 h2 => exact .cons h1 (RepL.take n h2)
theorem RepL.drop : ∀ {vs : List V} {ds : List D} (n : Nat), RepL K G vs ds → RepL K G (vs.drop n) (ds.drop n)
  | [], _, n, h => by cases h; simp; exact .nil
  | w :: vs, _, 0, h => h
  | w :: vs, _, n + 1, h => by
    cases h with
    | cons h1 h2 => exact RepL.drop n h2
theorem RepL.ints : ∀ {ns : List Int} {vs : List V}, RepL K G vs (ns.map D.int) → vs = ns.map V.int
  | [], _, h => by cases h; rfl
  | n :: ns, _, h => by
    cases h with
    | cons h1 h2 => cases h1; rw [RepL.ints h2]; rfl
theorem RepL.of_ints : ∀ (ns : List Int), RepL K G (ns.map V.int) (ns.map D.int)
  | [] => .nil
  | n :: ns => .cons (.int n) (RepL.of_ints ns)
end

/-! ### the store -/
inductive DM where
  | lst (xs : List D) | dic (kvs : List (Key × D)) | dit (kvs : List (List Key × D)) | ins (C : Addr) (fs : List (Str × D)) | xd (fs : List (Str × D))
abbrev Sto := Addr → Option DM
def put (S : Sto) (p : Addr) (m : DM) : Sto := fun b => if b = p then some m else S b
def rem (S : Sto) (p : Addr) : Sto := fun b => if b = p then none else S b
theorem put_same {S : Sto} {p : Addr} {m : DM} : put S p m p = some m := if_pos rfl
theorem put_ne {S : Sto} {p b : Addr} {m : DM} (h : b ≠ p) : put S p m b = S b := if_neg h
theorem rem_same {S : Sto} {p : Addr} : rem S p p = none := if_pos rfl
theorem rem_ne {S : Sto} {p b : Addr} (h : b ≠ p) : rem S p b = S b := if_neg h
theorem put_put {S : Sto} {p : Addr} {m n : DM} : put (put S p m) p n = put S p n := by
  funext b; unfold put; split <;> rfl
theorem rem_put {S : Sto} {p : Addr} {m : DM} (h : S p = none) : rem (put S p m) p = S := by
  funext b; unfold rem put
  by_cases e : b = p
  · rw [if_pos e, e, h]
  · rw [if_neg e, if_neg e]
theorem put_eq {S : Sto} {p : Addr} {m : DM} (h : S p = some m) : put S p m = S := by
  funext b; unfold put
  by_cases e : b = p
  · rw [if_pos e, e, h]
  · rw [if_neg e]
def MOk (K : PySem.W.Frag) (G H : Hp) (p : Addr) : DM → Prop
  | .lst xs => ∃ vs, H p = some (.lst vs) ∧ RepL K G vs xs
  | .dic kvs => ∃ vs, H p = some (.dK vs) ∧ RepK K G vs kvs
  | .dit kvs => ∃ vs, H p = some (.dT vs) ∧ RepT K G vs kvs ∧ ∀ kv ∈ vs, ∃ a, G a = some (.tup (kv.1.map kV))
  | .ins C fs => ∃ dx vs, H p = some (.ins C dx vs) ∧ RepF K G vs fs
  | .xd fs => ∃ vs, H p = some (.xd vs) ∧ RepF K G vs fs
structure Wok (K : PySem.W.Frag) (G H : Hp) (S : Sto) : Prop where
  ext : Ex G H
  sto : ∀ p m, S p = some m → G p = none ∧ MOk K G H p m
structure Fr (G H : Hp) (S : Sto) (G' H' : Hp) (S' : Sto) : Prop where
  g : Ex G G'
  fr : ∀ a o, H a = some o → G a = none → S a = none → H' a = some o ∧ G' a = none ∧ S' a = none
theorem Fr.refl (G H : Hp) (S : Sto) : Fr G H S G H S := ⟨Evl.Ex.refl _, fun _ _ h g s => ⟨h, g, s⟩⟩
theorem Fr.trans {G H G1 H1 G2 H2 : Hp} {S S1 S2 : Sto} (a : Fr G H S G1 H1 S1) (b : Fr G1 H1 S1 G2 H2 S2) : Fr G H S G2 H2 S2 :=
  ⟨a.g.trans b.g, fun x o h g s => let ⟨h1, g1, s1⟩ := a.fr x o h g s; b.fr x o h1 g1 s1⟩
section
variable {K : PySem.W.Frag} {G H G' H' : Hp} {S : Sto} {p : Addr}
theorem MOk.ex {m : DM} (h : MOk K G H p m) : ∃ o, H p = some o := by
  cases m with
  | lst xs => obtain ⟨_, h, _⟩ := h; exact ⟨_, h⟩
  | dic xs => obtain ⟨_, h, _⟩ := h; exact ⟨_, h⟩
  | dit xs => obtain ⟨_, h, _⟩ := h; exact ⟨_, h⟩
  | ins C fs => obtain ⟨_, _, h, _⟩ := h; exact ⟨_, h⟩
  | xd fs => obtain ⟨_, h, _⟩ := h; exact ⟨_, h⟩
theorem MOk.mono {m : DM} (e : Ex G G') (h : MOk K G H p m) (k : ∀ o, H p = some o → H' p = some o) : MOk K G' H' p m := by
  cases m with
  | lst xs => obtain ⟨vs, h, r⟩ := h; exact ⟨vs, k _ h, r.mono e⟩
  | dic xs => obtain ⟨vs, h, r⟩ := h; exact ⟨vs, k _ h, r.mono e⟩
  | dit xs => obtain ⟨vs, h, r, q⟩ := h; exact ⟨vs, k _ h, r.mono e, fun kv hk => let ⟨a, z⟩ := q kv hk; ⟨a, e _ _ z⟩⟩
  | ins C fs => obtain ⟨dx, vs, h, r⟩ := h; exact ⟨dx, vs, k _ h, r.mono e⟩
  | xd fs => obtain ⟨vs, h, r⟩ := h; exact ⟨vs, k _ h, r.mono e⟩
theorem Wok.freeG (w : Wok K G H S) (h : H p = none) : G p = none := Evl.fresh_back w.ext h
theorem Wok.freeS (w : Wok K G H S) (h : H p = none) : S p = none := by
  cases e : S p with
  | none => rfl
  | some m =>
    obtain ⟨o, q⟩ := MOk.ex (w.sto p m e).2
    rw [h] at q; cases q
/-- a new object that becomes data -/
theorem Wok.newG {o : HO} (w : Wok K G H S) (h : H p = none) : Wok K (upd G p o) (upd H p o) S ∧ Fr G H S (upd G p o) (upd H p o) S := by
  have gp := w.freeG h
  have sp := w.freeS h
  have eg : Ex G (upd G p o) := Evl.Ex.new gp
  refine ⟨⟨fun a u e => ?_, fun q m e => ?_⟩, ⟨eg, fun a u e g s => ?_⟩⟩
  · by_cases c : a = p
    · subst c; rw [upd_same] at e ⊢; exact e
    · rw [upd_ne c] at e ⊢; exact w.ext a u e
  · have c : q ≠ p := fun c => by subst c; rw [sp] at e; cases e
    obtain ⟨g, m'⟩ := w.sto q m e
    exact ⟨by rw [upd_ne c]; exact g, MOk.mono eg m' fun u z => by rw [upd_ne c]; exact z⟩
  · have c : a ≠ p := fun c => by subst c; rw [h] at e; cases e
    exact ⟨by rw [upd_ne c]; exact e, by rw [upd_ne c]; exact g, s⟩
/-- a new object that is known to nobody -/
theorem Wok.newH {o : HO} (w : Wok K G H S) (h : H p = none) : Wok K G (upd H p o) S ∧ Fr G H S G (upd H p o) S := by
  have sp := w.freeS h
  refine ⟨⟨w.ext.trans (Evl.Ex.new h), fun q m e => ?_⟩, ⟨Evl.Ex.refl _, fun a u e g s => ?_⟩⟩
  · have c : q ≠ p := fun c => by subst c; rw [sp] at e; cases e
    obtain ⟨g, m'⟩ := w.sto q m e
    exact ⟨g, MOk.mono (Evl.Ex.refl _) m' fun u z => by rw [upd_ne c]; exact z⟩
  · have c : a ≠ p := fun c => by subst c; rw [h] at e; cases e
    exact ⟨by rw [upd_ne c]; exact e, g, s⟩
/-- a hidden object changes -/
theorem Wok.hid {o : HO} (w : Wok K G H S) (g : G p = none) (s : S p = none) : Wok K G (upd H p o) S := by
  refine ⟨fun a u e => ?_, fun q m e => ?_⟩
  · have c : a ≠ p := fun c => by subst c; rw [g] at e; cases e
    rw [upd_ne c]; exact w.ext a u e
  · have c : q ≠ p := fun c => by subst c; rw [s] at e; cases e
    obtain ⟨g, m'⟩ := w.sto q m e
    exact ⟨g, MOk.mono (Evl.Ex.refl _) m' fun u z => by rw [upd_ne c]; exact z⟩
/-- a hidden object becomes data -/
theorem Wok.show {o : HO} (w : Wok K G H S) (h : H p = some o) (s : S p = none) : Wok K (upd G p o) H S := by
  by_cases g : G p = none
  · have eg : Ex G (upd G p o) := Evl.Ex.new g
    refine ⟨fun a u e => ?_, fun q m e => ?_⟩
    · by_cases c : a = p
      · subst c; rw [upd_same] at e; cases e; exact h
      · rw [upd_ne c] at e; exact w.ext a u e
    · have c : q ≠ p := fun c => by subst c; rw [s] at e; cases e
      obtain ⟨g, m'⟩ := w.sto q m e
      exact ⟨by rw [upd_ne c]; exact g, MOk.mono eg m' fun u z => z⟩
  · have e : upd G p o = G := by
      funext b
      by_cases c : b = p
      · subst c
        rw [upd_same]
        cases q : G b with
        | none => exact absurd q g
        | some u =>
          have := w.ext b u q
          rw [h] at this; exact this
      · rw [upd_ne c]
    rw [e]; exact w
/-- a new object of the store; one that changes -/
theorem Wok.newS {o : HO} {m : DM} (w : Wok K G H S) (h : H p = none) (mk : MOk K G (upd H p o) p m) : Wok K G (upd H p o) (put S p m) ∧ Fr G H S G (upd H p o) (put S p m) := by
  refine ⟨⟨w.ext.trans (Evl.Ex.new h), fun q n e => ?_⟩, ⟨Evl.Ex.refl _, fun a u e g s => ?_⟩⟩
  · by_cases c : q = p
    · subst c; rw [put_same] at e; cases e; exact ⟨w.freeG h, mk⟩
    · rw [put_ne c] at e
      obtain ⟨g, m'⟩ := w.sto q n e
      exact ⟨g, MOk.mono (Evl.Ex.refl _) m' fun u z => by rw [upd_ne c]; exact z⟩
  · have c : a ≠ p := fun c => by subst c; rw [h] at e; cases e
    exact ⟨by rw [upd_ne c]; exact e, g, by rw [put_ne c]; exact s⟩
theorem Wok.chS {o : HO} {m n : DM} (w : Wok K G H S) (h : S p = some n) (mk : MOk K G (upd H p o) p m) : Wok K G (upd H p o) (put S p m) ∧ Fr G H S G (upd H p o) (put S p m) := by
  have gp := (w.sto p n h).1
  refine ⟨⟨fun a u e => ?_, fun q n e => ?_⟩, ⟨Evl.Ex.refl _, fun a u e g s => ?_⟩⟩
  · have c : a ≠ p := fun c => by subst c; rw [gp] at e; cases e
    rw [upd_ne c]; exact w.ext a u e
  · by_cases c : q = p
    · subst c; rw [put_same] at e; cases e; exact ⟨gp, mk⟩
    · rw [put_ne c] at e
      obtain ⟨g, m'⟩ := w.sto q n e
      exact ⟨g, MOk.mono (Evl.Ex.refl _) m' fun u z => by rw [upd_ne c]; exact z⟩
  · have c : a ≠ p := fun c => by subst c; rw [h] at s; cases s
    exact ⟨by rw [upd_ne c]; exact e, g, by rw [put_ne c]; exact s⟩
/-- what is in the store becomes data -/
theorem Wok.frz {o : HO} {m : DM} (w : Wok K G H S) (h : S p = some m) (hp : H p = some o) : Wok K (upd G p o) H (rem S p) ∧ Fr G H S (upd G p o) H (rem S p) := by
  have gp := (w.sto p m h).1
  have eg : Ex G (upd G p o) := Evl.Ex.new gp
  refine ⟨⟨fun a u e => ?_, fun q n e => ?_⟩, ⟨eg, fun a u e g s => ?_⟩⟩
  · by_cases c : a = p
    · subst c; rw [upd_same] at e; cases e; exact hp
    · rw [upd_ne c] at e; exact w.ext a u e
  · by_cases c : q = p
    · subst c; rw [rem_same] at e; cases e
    · rw [rem_ne c] at e
      obtain ⟨g, m'⟩ := w.sto q n e
      exact ⟨by rw [upd_ne c]; exact g, MOk.mono eg m' fun u z => z⟩
  · have c : a ≠ p := fun c => by subst c; rw [h] at s; cases s
    exact ⟨e, by rw [upd_ne c]; exact g, by rw [rem_ne c]; exact s⟩
/-- forgotten -/
theorem Wok.drop (w : Wok K G H S) : Wok K G H (rem S p) := ⟨w.ext, fun q m e => by
  by_cases c : q = p
  · subst c; rw [rem_same] at e; cases e
  · rw [rem_ne c] at e; exact w.sto q m e⟩
end

/-! ### slots -/
abbrev DSt := List (Option D)
structure Sl (K : PySem.W.Frag) (G : Hp) (σV : L2.St) (σ : DSt) : Prop where
  len : σV.length = σ.length
  at_ : ∀ (i : Nat) (d : D), σ[i]? = some (some d) → ∃ v, σV[i]? = some (some v) ∧ Rep K G v d
theorem Sl.mono {K : PySem.W.Frag} {G G' : Hp} {σV : L2.St} {σ : DSt} (s : Sl K G σV σ) (e : Ex G G') : Sl K G' σV σ := ⟨s.len, fun i d h => let ⟨v, h1, h2⟩ := s.at_ i d h; ⟨v, h1, h2.mono e⟩⟩
theorem Sl.set {K : PySem.W.Frag} {G : Hp} {σV : L2.St} {σ : DSt} {v : V} {d : D} (s : Sl K G σV σ) (i : Nat) (r : Rep K G v d) : Sl K G (σV.set i (some v)) (σ.set i (some d)) := by
  refine ⟨by rw [List.length_set, List.length_set]; exact s.len, fun j e h => ?_⟩
  by_cases c : i = j
  · subst c
    by_cases l : i < σ.length
    · rw [List.getElem?_set_self l] at h
      cases h
      exact ⟨v, by rw [List.getElem?_set_self (by rw [s.len]; exact l)], r⟩
    · rw [List.getElem?_eq_none (by simpa using l)] at h; cases h
  · rw [List.getElem?_set_ne c] at h ⊢
    exact s.at_ j e h
theorem Sl.unset {K : PySem.W.Frag} {G : Hp} {σV : L2.St} {σ : DSt} (s : Sl K G σV σ) (i : Nat) : Sl K G (σV.set i none) (σ.set i none) := by
  refine ⟨by rw [List.length_set, List.length_set]; exact s.len, fun j e h => ?_⟩
  by_cases c : i = j
  · subst c
    by_cases l : i < σ.length
    · rw [List.getElem?_set_self l] at h; cases h
    · rw [List.getElem?_eq_none (by simpa using l)] at h; cases h
  · rw [List.getElem?_set_ne c] at h ⊢
    exact s.at_ j e h
/-- the slot's datum told otherwise -/
theorem Sl.retell {K : PySem.W.Frag} {G : Hp} {σV : L2.St} {σ : DSt} {i : Nat} {d d' : D} (s : Sl K G σV σ) (h : σ[i]? = some (some d)) (r : ∀ v, Rep K G v d → Rep K G v d') : Sl K G σV (σ.set i (some d')) := by
  refine ⟨by rw [List.length_set]; exact s.len, fun j e q => ?_⟩
  by_cases c : i = j
  · subst c
    by_cases l : i < σ.length
    · rw [List.getElem?_set_self l] at q
      cases q
      obtain ⟨v, h1, h2⟩ := s.at_ i d h
      exact ⟨v, h1, r v h2⟩
    · rw [List.getElem?_eq_none (by simpa using l)] at q; cases q
  · rw [List.getElem?_set_ne c] at q
    exact s.at_ j e q

/-! ### judgements -/
abbrev DEr := Addr → Addr → Sto → Prop
abbrev DK := D → Sto → Prop
abbrev DTE := DEr → DSt → Sto → DK → Prop
abbrev DTT := DEr → DSt → Sto → (Bool → Sto → Prop) → Prop
abbrev DTA := DEr → DSt → Sto → (List D → Sto → Prop) → Prop
structure WOk (K : PySem.W.Frag) (W : WX) (E : DEr) (σV : L2.St) (G H : Hp) (S : Sto) : Prop where
  go : ∀ C d S' G' H', E C d S' → Wok K G' H' S' → Fr G H S G' H' S' → W (.ref C) (some d) σV H'
theorem WOk.mono {K : PySem.W.Frag} {W : WX} {E : DEr} {σV : L2.St} {G H G1 H1 : Hp} {S S1 : Sto} (w : WOk K W E σV G H S) (f : Fr G H S G1 H1 S1) : WOk K W E σV G1 H1 S1 := ⟨fun C d S' G' H' e k q => w.go C d S' G' H' e k (f.trans q)⟩
structure EvD (K : PySem.W.Frag) (W : WX) (t : TE) (r : DTE) : Prop where
  run : ∀ (E : DEr) (G H : Hp) (S : Sto) (σV : L2.St) (σ : DSt) (Q : DK) (P : VK), WOk K W E σV G H S → Wok K G H S → Sl K G σV σ → r E σ S Q →
    (∀ d S' G' H' v, Q d S' → Wok K G' H' S' → Fr G H S G' H' S' → Rep K G' v d → P v H') → t σV H P
structure EvT (K : PySem.W.Frag) (W : WX) (t : TT) (r : DTT) : Prop where
  run : ∀ (E : DEr) (G H : Hp) (S : Sto) (σV : L2.St) (σ : DSt) (Q : Bool → Sto → Prop) (P : Bool → Hp → Prop), WOk K W E σV G H S → Wok K G H S → Sl K G σV σ → r E σ S Q →
    (∀ b S' G' H', Q b S' → Wok K G' H' S' → Fr G H S G' H' S' → P b H') → t σV H P
structure EvA (K : PySem.W.Frag) (W : WX) (t : TA) (r : DTA) : Prop where
  run : ∀ (E : DEr) (G H : Hp) (S : Sto) (σV : L2.St) (σ : DSt) (Q : List D → Sto → Prop) (P : List V → Hp → Prop), WOk K W E σV G H S → Wok K G H S → Sl K G σV σ → r E σ S Q →
    (∀ ds S' G' H' vs, Q ds S' → Wok K G' H' S' → Fr G H S G' H' S' → RepL K G' vs ds → P vs H') → t σV H P
structure RvD (K : PySem.W.Frag) (r : R2) (q : D → D → Sto → DK → Prop) : Prop where
  run : ∀ (G H : Hp) (S : Sto) (x y : D) (v u : V) (Q : DK) (P : VK), Wok K G H S → Rep K G v x → Rep K G u y → q x y S Q →
    (∀ d S' G' H' z, Q d S' → Wok K G' H' S' → Fr G H S G' H' S' → Rep K G' z d → P z H') → r v u H P
structure RuD (K : PySem.W.Frag) (r : V → Hp → VK → Prop) (q : D → Sto → DK → Prop) : Prop where
  run : ∀ (G H : Hp) (S : Sto) (x : D) (v : V) (Q : DK) (P : VK), Wok K G H S → Rep K G v x → q x S Q →
    (∀ d S' G' H' z, Q d S' → Wok K G' H' S' → Fr G H S G' H' S' → Rep K G' z d → P z H') → r v H P
structure RcD (K : PySem.W.Frag) (r : List V → Hp → VK → Prop) (q : List D → Sto → DK → Prop) : Prop where
  run : ∀ (G H : Hp) (S : Sto) (xs : List D) (vs : List V) (Q : DK) (P : VK), Wok K G H S → RepL K G vs xs → q xs S Q →
    (∀ d S' G' H' z, Q d S' → Wok K G' H' S' → Fr G H S G' H' S' → Rep K G' z d → P z H') → r vs H P
def DE (X : Cx) (W : WX) (e : Expr) (r : DTE) : Prop := ∃ t, PE X e t ∧ EvD X.K W t r
def DT (X : Cx) (W : WX) (e : Expr) (r : DTT) : Prop := ∃ t, PT X e t ∧ EvT X.K W t r
def DW (X : Cx) (W : WX) (e : Expr) (r : DTT) : Prop := ∃ t, PW X e t ∧ EvT X.K W t r
def DA (X : Cx) (W : WX) (es : List Expr) (r : DTA) : Prop := ∃ t, PA X es t ∧ EvA X.K W t r
def DOp (X : Cx) (f : Value → Value → Sem Value) (q : D → D → Sto → DK → Prop) : Prop := ∃ r, OpR X f r ∧ RvD X.K r q
def DIx (X : Cx) (q : D → D → Sto → DK → Prop) : Prop := ∃ r, IxR X r ∧ RvD X.K r q
def DC (X : Cx) (f : Value) (q : List D → Sto → DK → Prop) : Prop := ∃ r, CallR X f r ∧ RcD X.K r q

/-! ### expressions -/
def dVar (i : Nat) : DTE := fun _ σ S Q => match σ[i]? with
  | some (some d) => Q d S
  | _ => False
def dC (d : D) : DTE := fun _ _ S Q => Q d S
section
variable {X : Cx} {W : WX} {K : PySem.W.Frag}
theorem ev_c {v : V} {d : D} (r : ∀ G, Rep K G v d) : EvD K W (tC v) (dC d) := ⟨fun E G H S σV σ Q P w k s h q => q d S G H v h k (.refl _ _ _) (r G)⟩
theorem ev_var (i : Nat) : EvD K W (tVar i) (dVar i) := ⟨fun E G H S σV σ Q P w k s h q => by
  unfold dVar at h
  split at h
  · rename_i d hd
    obtain ⟨v, h1, h2⟩ := s.at_ i d hd
    exact ⟨v, h1, q d S G H v h k (.refl _ _ _) h2⟩
  · exact h.elim⟩
theorem de_var (i : Nat) {x : Str} {pos : Pos} (hN : X.N[i]? = some x := by rfl) (hv : Vis X.env.scope x := by first | exact Or.inl rfl | exact Or.inr (Or.inl rfl) | exact Or.inr (Or.inr rfl)) (hd : (x == ("__debug__" : Str)) = false := by decide)
    (hcd : (x == ("__classdict__" : Str)) = false := by decide) : DE X W (.Name x pos) (dVar i) := ⟨_, pe_var hN hv hd hcd, ev_var i⟩
theorem de_int {i j pos} : DE X W (.Constant (.int i) j pos) (dC (.int i)) := ⟨_, pe_int, ev_c fun _ => .int _⟩
theorem de_bl {b j pos} : DE X W (.Constant (.bool b) j pos) (dC (.bl b)) := ⟨_, pe_bl, ev_c fun _ => .bl _⟩
theorem de_non {j pos} : DE X W (.Constant .none j pos) (dC .non) := ⟨_, pe_non, ev_c fun _ => .non⟩
theorem de_str {x j pos} : DE X W (.Constant (.str x) j pos) (dC (.str x)) := ⟨_, pe_str, ev_c fun _ => .str _⟩
theorem de_globI {x : Str} {i : Int} {t : Tok} {pos : Pos} (hg : Gl X x) (hm : X.mg x = some (.int i t)) (hd : (x == ("__debug__" : Str)) = false := by decide) : DE X W (.Name x pos) (dC (.int i)) := ⟨_, pe_glob (v := .int i) hg hm ⟨_, rfl⟩ hd, ev_c fun _ => .int _⟩
theorem de_globS {x : Str} {i : Str} {t : Tok} {pos : Pos} (hg : Gl X x) (hm : X.mg x = some (.str i t)) (hd : (x == ("__debug__" : Str)) = false := by decide) : DE X W (.Name x pos) (dC (.str i)) := ⟨_, pe_glob (v := .str i) hg hm ⟨_, rfl⟩ hd, ev_c fun _ => .str _⟩
def dOp (q : D → D → Sto → DK → Prop) (ra rb : DTE) : DTE := fun E σ S Q => ra E σ S fun x S1 => rb E σ S1 fun y S2 => q x y S2 Q
theorem ev_op {ta tb : TE} {ra rb : DTE} {r : R2} {q : D → D → Sto → DK → Prop} (ha : EvD K W ta ra) (hb : EvD K W tb rb) (hr : RvD K r q) : EvD K W (tOp r ta tb) (dOp q ra rb) := ⟨fun E G H S σV σ Q P w k s h p => by
  refine ha.run E G H S σV σ _ _ w k s h fun x S1 G1 H1 v h1 k1 f1 r1 => ?_
  refine hb.run E G1 H1 S1 σV σ _ _ (w.mono f1) k1 (s.mono f1.g) h1 fun y S2 G2 H2 u h2 k2 f2 r2 => ?_
  exact hr.run G2 H2 S2 x y v u Q P k2 (r1.mono f2.g) r2 h2 fun d S3 G3 H3 z h3 k3 f3 r3 => p d S3 G3 H3 z h3 k3 ((f1.trans f2).trans f3) r3⟩
variable {a b c e : Expr} {ra rb rc : DTE} {pos : Pos}
theorem de_op {op : Operator} {q : D → D → Sto → DK → Prop} (ho : DOp X (binaryOp op) q) (ha : DE X W a ra) (hb : DE X W b rb) : DE X W (.BinOp a op b pos) (dOp q ra rb) := by
  obtain ⟨ta, pa, ea⟩ := ha
  obtain ⟨tb, pb, eb⟩ := hb
  obtain ⟨r, o, e⟩ := ho
  exact ⟨_, pe_op o pa pb, ev_op ea eb e⟩
theorem de_cmp {op : CmpOp} {q : D → D → Sto → DK → Prop} (ho : DOp X (compareOp op) q) (ha : DE X W a ra) (hb : DE X W b rb) (hm : behindInMarks op b = false := by first | exact nomark _ | rfl) : DE X W (.Compare a [op] [b] pos) (dOp q ra rb) := by
  obtain ⟨ta, pa, ea⟩ := ha
  obtain ⟨tb, pb, eb⟩ := hb
  obtain ⟨r, o, e⟩ := ho
  exact ⟨_, pe_cmpR o pa pb hm, ev_op ea eb e⟩
theorem de_ix {q : D → D → Sto → DK → Prop} (ho : DIx X q) (ha : DE X W a ra) (hb : DE X W b rb) (hs : PlainIx b := by exact fun _ _ => rfl) : DE X W (.Subscript a b pos) (dOp q ra rb) := by
  obtain ⟨ta, pa, ea⟩ := ha
  obtain ⟨tb, pb, eb⟩ := hb
  obtain ⟨r, o, e⟩ := ho
  exact ⟨_, pe_ix o pa pb hs, ev_op ea eb e⟩
end
end KD

set_option maxRecDepth 100000
set_option maxHeartbeats 4000000
/-! Kd1: tests, arguments, statements, loops, comprehensions, calls of defs, over Kd0. -/
namespace KD
open PySem PySem.Spec PyProof.Rows L2
section
variable {X : Cx} {W : WX} {K : PySem.W.Frag} {a b c e : Expr} {ra rb rc : DTE} {pos : Pos} {ta tb tc te : TE}
/-! ### tests -/
def dTest (r : DTE) : DTT := fun E σ S Q => r E σ S fun d S' => match d with
  | .bl k => Q k S'
  | _ => False
theorem evt_test (h : EvD K W te ra) : EvT K W (tTest te) (dTest ra) := ⟨fun E G H S σV σ Q P w k s hr p => by
  refine h.run E G H S σV σ _ _ w k s hr fun d S' G' H' v hd k' f r => ?_
  cases d with
  | bl b => cases r; exact ⟨b, rfl, p b S' G' H' hd k' f⟩
  | _ => exact hd.elim⟩
theorem evt_B (h : EvD K W te ra) : EvT K W (tB te) (dTest ra) := ⟨fun E G H S σV σ Q P w k s hr p => by
  refine h.run E G H S σV σ _ _ w k s hr fun d S' G' H' v hd k' f r => ?_
  cases d with
  | bl b => cases r; exact ⟨b, rfl, p b S' G' H' hd k' f⟩
  | _ => exact hd.elim⟩
theorem dt_cmp {op : CmpOp} {q : D → D → Sto → DK → Prop} (ho : DOp X (compareOp op) q) (ha : DE X W a ra) (hb : DE X W b rb) (hm : behindInMarks op b = false := by first | exact nomark _ | rfl) : DT X W (.Compare a [op] [b] pos) (dTest (dOp q ra rb)) := by
  obtain ⟨ta, pa, ea⟩ := ha
  obtain ⟨tb, pb, eb⟩ := hb
  obtain ⟨r, o, e⟩ := ho
  exact ⟨_, pt_cmpR o pa pb hm, evt_test (ev_op ea eb e)⟩
/-- an expression that gives a bool (a call, a name) as a test -/
theorem dt_val {e : Expr} (h : DE X W e ra) (he : ∀ whole, isTrue e X.env whole = (do let v ← whole; standAt e.pos; holding [v] (truthy v)) := by intro _; rfl) : DT X W e (dTest ra) := by
  obtain ⟨t, p, q⟩ := h
  exact ⟨_, pt_val p he, evt_B q⟩
def vw (S : Sto) : D → D
  | .ref p => match S p with
    | some (.lst xs) => .lst xs
    | some (.dic kvs) => .dic kvs
    | some (.dit kvs) => .dit kvs
    | _ => .ref p
  | d => d
theorem seq_of {G H : Hp} {S : Sto} {v : V} {d : D} {xs : List D} (k : Wok K G H S) (r : Rep K G v d) (h : vw S d = .lst xs) : ∃ a vs, v = .ref a ∧ H a = some (.lst vs) ∧ RepL K G vs xs := by
  unfold vw at h
  split at h
  · rename_i p
    cases r
    split at h
    · rename_i ys hp
      cases h
      obtain ⟨_, vs, q1, q2⟩ := k.sto p _ hp
      exact ⟨p, vs, rfl, q1, q2⟩
    · cases h
    · cases h
    · cases h
  · subst h
    cases r with
    | lst h1 h2 => exact ⟨_, _, rfl, k.ext _ _ h1, h2⟩
theorem tup_of {G H : Hp} {S : Sto} {v : V} {d : D} {xs : List D} (k : Wok K G H S) (r : Rep K G v d) (h : vw S d = .tup xs) : ∃ a vs, v = .ref a ∧ TupG K H a vs ∧ RepL K G vs xs ∧ TupG K G a vs := by
  unfold vw at h
  split at h
  · rename_i p
    split at h <;> cases h
  · subst h
    cases r with
    | tup h1 h2 => exact ⟨_, _, rfl, h1.mono k.ext, h2, h1⟩
theorem int_of {G : Hp} {S : Sto} {v : V} {d : D} {i : Int} (r : Rep K G v d) (h : vw S d = .int i) : v = .int i := by
  unfold vw at h
  split at h
  · split at h <;> cases h
  · subst h; cases r; rfl
theorem str_of {G : Hp} {S : Sto} {v : V} {d : D} {i : Str} (r : Rep K G v d) (h : vw S d = .str i) : v = .str i := by
  unfold vw at h
  split at h
  · split at h <;> cases h
  · subst h; cases r; rfl
theorem bl_of {G : Hp} {S : Sto} {v : V} {d : D} {i : Bool} (r : Rep K G v d) (h : vw S d = .bl i) : v = .bl i := by
  unfold vw at h
  split at h
  · split at h <;> cases h
  · subst h; cases r; rfl
/-- the truth of a datum -/
def dTruth (d : D) (S : Sto) (Q : Bool → Sto → Prop) : Prop := match vw S d with
  | .non => Q false S
  | .bl b => Q b S
  | .int i => Q (i != 0) S
  | .str x => x.length ≤ sizeLine ∧ Q ((x.length : Int) != 0) S
  | .lst xs => Q (!xs.isEmpty) S
  | .tup xs => Q (!xs.isEmpty) S
  | _ => False
def dTru (r : DTE) : DTT := fun E σ S Q => r E σ S fun d S' => dTruth d S' Q
theorem repl_empty {G : Hp} {vs : List V} {xs : List D} (h : RepL K G vs xs) : vs.isEmpty = xs.isEmpty := by cases h <;> rfl
theorem dt_truth {e : Expr} (h : DE X W e ra) (he : ∀ whole, isTrue e X.env whole = (do let v ← whole; standAt e.pos; holding [v] (truthy v)) := by intro _; rfl) : DT X W e (dTru ra) := by
  obtain ⟨t, p, q⟩ := h
  refine ⟨_, pt_truth p he, ⟨fun E G H S σV σ Q P w k s hr pp => ?_⟩⟩
  refine q.run E G H S σV σ _ _ w k s hr fun d S' G' H' v hd k' f r => ?_
  unfold dTruth at hd
  split at hd
  · rename_i hv
    have : v = .non := by
      unfold vw at hv
      split at hv
      · split at hv <;> cases hv
      · subst hv; cases r; rfl
    subst this
    exact ⟨false, rfl, pp _ S' G' H' hd k' f⟩
  · rename_i hv
    rw [bl_of r hv]
    exact ⟨_, rfl, pp _ S' G' H' hd k' f⟩
  · rename_i hv
    rw [int_of r hv]
    exact ⟨_, rfl, pp _ S' G' H' hd k' f⟩
  · rename_i hv
    rw [str_of r hv]
    exact ⟨_, ⟨hd.1, rfl⟩, pp _ S' G' H' hd.2 k' f⟩
  · rename_i xs hv
    obtain ⟨a, vs, e, h1, h2⟩ := seq_of k' r hv
    subst e
    refine ⟨_, .inl ⟨vs, .of h1, rfl⟩, ?_⟩
    rw [repl_empty h2]
    exact pp _ S' G' H' hd k' f
  · rename_i xs hv
    obtain ⟨a, vs, e, h1, h2, _⟩ := tup_of k' r hv
    subst e
    refine ⟨_, .inr (.inl ⟨vs, h1.sq, rfl⟩), ?_⟩
    rw [repl_empty h2]
    exact pp _ S' G' H' hd k' f
  · exact hd.elim
def dAnd (r q : DTT) : DTT := fun E σ S Q => r E σ S fun c S1 => if c = true then q E σ S1 Q else Q false S1
def dOr (r q : DTT) : DTT := fun E σ S Q => r E σ S fun c S1 => if c = true then Q true S1 else q E σ S1 Q
def dNot (r : DTT) : DTT := fun E σ S Q => r E σ S fun c S1 => Q (!c) S1
variable {tA tB : TT} {rA rB : DTT}
theorem evt_and (ha : EvT K W tA rA) (hb : EvT K W tB rB) : EvT K W (tAnd tA tB) (dAnd rA rB) := ⟨fun E G H S σV σ Q P w k s hr p => by
  refine ha.run E G H S σV σ _ _ w k s hr fun c S1 G1 H1 hd k1 f1 => ?_
  cases c with
  | true =>
    rw [if_pos rfl] at hd ⊢
    exact hb.run E G1 H1 S1 σV σ _ _ (w.mono f1) k1 (s.mono f1.g) hd fun b S2 G2 H2 q k2 f2 => p b S2 G2 H2 q k2 (f1.trans f2)
  | false =>
    rw [if_neg Bool.false_ne_true] at hd ⊢
    exact p _ S1 G1 H1 hd k1 f1⟩
theorem evt_or (ha : EvT K W tA rA) (hb : EvT K W tB rB) : EvT K W (tOr tA tB) (dOr rA rB) := ⟨fun E G H S σV σ Q P w k s hr p => by
  refine ha.run E G H S σV σ _ _ w k s hr fun c S1 G1 H1 hd k1 f1 => ?_
  cases c with
  | false =>
    rw [if_neg Bool.false_ne_true] at hd ⊢
    exact hb.run E G1 H1 S1 σV σ _ _ (w.mono f1) k1 (s.mono f1.g) hd fun b S2 G2 H2 q k2 f2 => p b S2 G2 H2 q k2 (f1.trans f2)
  | true =>
    rw [if_pos rfl] at hd ⊢
    exact p _ S1 G1 H1 hd k1 f1⟩
theorem evt_not (ha : EvT K W tA rA) : EvT K W (tNot tA) (dNot rA) := ⟨fun E G H S σV σ Q P w k s hr p =>
  ha.run E G H S σV σ _ _ w k s hr fun c S1 G1 H1 hd k1 f1 => p _ S1 G1 H1 hd k1 f1⟩
theorem DW.dt (h : DW X W e rA) : DT X W e rA := let ⟨t, p, q⟩ := h; ⟨t, p.pt, q⟩
theorem dw_and1 (h : DT X W a rA) : DW X W (.BoolOp .And [a] pos) rA := let ⟨_, p, q⟩ := h; ⟨_, pw_and1 p, q⟩
theorem dw_or1 (h : DT X W a rA) : DW X W (.BoolOp .Or [a] pos) rA := let ⟨_, p, q⟩ := h; ⟨_, pw_or1 p, q⟩
theorem dw_and {rest : List Expr} (ha : DT X W a rA) (hb : DW X W (.BoolOp .And (b :: rest) pos) rB) : DW X W (.BoolOp .And (a :: b :: rest) pos) (dAnd rA rB) :=
  let ⟨_, p, q⟩ := ha; let ⟨_, p', q'⟩ := hb; ⟨_, pw_and p p', evt_and q q'⟩
theorem dw_or {rest : List Expr} (ha : DT X W a rA) (hb : DW X W (.BoolOp .Or (b :: rest) pos) rB) : DW X W (.BoolOp .Or (a :: b :: rest) pos) (dOr rA rB) :=
  let ⟨_, p, q⟩ := ha; let ⟨_, p', q'⟩ := hb; ⟨_, pw_or p p', evt_or q q'⟩
theorem dt_not (ha : DT X W a rA) : DT X W (.UnaryOp .Not a pos) (dNot rA) := let ⟨_, p, q⟩ := ha; ⟨_, pt_not p, evt_not q⟩
def dAndV (ra rb : DTE) : DTE := fun E σ S Q => ra E σ S fun d S1 => match d with
  | .bl c => if c = true then rb E σ S1 Q else Q (.bl false) S1
  | _ => False
def dOrV (ra rb : DTE) : DTE := fun E σ S Q => ra E σ S fun d S1 => match d with
  | .bl c => if c = true then Q (.bl true) S1 else rb E σ S1 Q
  | _ => False
def dNotV (ra : DTE) : DTE := fun E σ S Q => ra E σ S fun d S1 => match d with
  | .bl c => Q (.bl (!c)) S1
  | _ => False
def dIfE (rA : DTT) (ra rb : DTE) : DTE := fun E σ S Q => rA E σ S fun c S1 => if c = true then ra E σ S1 Q else rb E σ S1 Q
theorem de_one {op} (h : DE X W a ra) : DE X W (.BoolOp op [a] pos) ra := let ⟨_, p, q⟩ := h; ⟨_, pe_one p, q⟩
theorem de_and {rest : List Expr} (ha : DE X W a ra) (hb : DE X W (.BoolOp .And (b :: rest) pos) rb) : DE X W (.BoolOp .And (a :: b :: rest) pos) (dAndV ra rb) := by
  obtain ⟨ta, pa, ea⟩ := ha
  obtain ⟨tb, pb, eb⟩ := hb
  refine ⟨_, pe_and pa pb, ⟨fun E G H S σV σ Q P w k s hr p => ?_⟩⟩
  refine ea.run E G H S σV σ _ _ w k s hr fun d S1 G1 H1 v hd k1 f1 r1 => ?_
  cases d with
  | bl c =>
    cases r1
    refine ⟨c, rfl, ?_⟩
    cases c with
    | true =>
      rw [if_pos rfl]
      have hd : rb E σ S1 Q := hd
      exact eb.run E G1 H1 S1 σV σ _ _ (w.mono f1) k1 (s.mono f1.g) hd fun b S2 G2 H2 z q k2 f2 => p b S2 G2 H2 z q k2 (f1.trans f2)
    | false =>
      rw [if_neg Bool.false_ne_true]
      exact p _ S1 G1 H1 _ hd k1 f1 (.bl _)
  | _ => exact hd.elim
theorem de_or {rest : List Expr} (ha : DE X W a ra) (hb : DE X W (.BoolOp .Or (b :: rest) pos) rb) : DE X W (.BoolOp .Or (a :: b :: rest) pos) (dOrV ra rb) := by
  obtain ⟨ta, pa, ea⟩ := ha
  obtain ⟨tb, pb, eb⟩ := hb
  refine ⟨_, pe_or pa pb, ⟨fun E G H S σV σ Q P w k s hr p => ?_⟩⟩
  refine ea.run E G H S σV σ _ _ w k s hr fun d S1 G1 H1 v hd k1 f1 r1 => ?_
  cases d with
  | bl c =>
    cases r1
    refine ⟨c, rfl, ?_⟩
    cases c with
    | false =>
      rw [if_neg Bool.false_ne_true]
      have hd : rb E σ S1 Q := hd
      exact eb.run E G1 H1 S1 σV σ _ _ (w.mono f1) k1 (s.mono f1.g) hd fun b S2 G2 H2 z q k2 f2 => p b S2 G2 H2 z q k2 (f1.trans f2)
    | true =>
      rw [if_pos rfl]
      exact p _ S1 G1 H1 _ hd k1 f1 (.bl _)
  | _ => exact hd.elim
theorem de_not (ha : DE X W a ra) : DE X W (.UnaryOp .Not a pos) (dNotV ra) := by
  obtain ⟨ta, pa, ea⟩ := ha
  refine ⟨_, pe_not pa, ⟨fun E G H S σV σ Q P w k s hr p => ?_⟩⟩
  refine ea.run E G H S σV σ _ _ w k s hr fun d S1 G1 H1 v hd k1 f1 r1 => ?_
  cases d with
  | bl c => cases r1; exact ⟨c, rfl, p _ S1 G1 H1 _ hd k1 f1 (.bl _)⟩
  | _ => exact hd.elim
theorem de_ifE (hc : DT X W c rA) (ha : DE X W a ra) (hb : DE X W b rb) : DE X W (.IfExp c a b pos) (dIfE rA ra rb) := by
  obtain ⟨tc, pc, ec⟩ := hc
  obtain ⟨ta, pa, ea⟩ := ha
  obtain ⟨tb, pb, eb⟩ := hb
  refine ⟨_, pe_ifExp pc pa pb, ⟨fun E G H S σV σ Q P w k s hr p => ?_⟩⟩
  refine ec.run E G H S σV σ _ _ w k s hr fun c S1 G1 H1 hd k1 f1 => ?_
  cases c with
  | true =>
    rw [if_pos rfl] at hd ⊢
    exact ea.run E G1 H1 S1 σV σ _ _ (w.mono f1) k1 (s.mono f1.g) hd fun b S2 G2 H2 z q k2 f2 => p b S2 G2 H2 z q k2 (f1.trans f2)
  | false =>
    rw [if_neg Bool.false_ne_true] at hd ⊢
    exact eb.run E G1 H1 S1 σV σ _ _ (w.mono f1) k1 (s.mono f1.g) hd fun b S2 G2 H2 z q k2 f2 => p b S2 G2 H2 z q k2 (f1.trans f2)
theorem de_ifV {e : Expr} (h : DT X W e rA) : DT X W e rA := h

/-! ### chains -/
def dChain (q q' : D → D → Sto → DK → Prop) (ra rb rc : DTE) : DTE := fun E σ S Q => ra E σ S fun x S1 => rb E σ S1 fun y S2 => q x y S2 fun d S3 => match d with
  | .bl k => if k = true then rc E σ S3 fun z S4 => q' y z S4 Q else Q (.bl false) S3
  | _ => False

/-! ### arguments -/
def dNil : DTA := fun _ _ S Q => Q [] S
def dCons (r : DTE) (q : DTA) : DTA := fun E σ S Q => r E σ S fun d S1 => q E σ S1 fun ds S2 => Q (d :: ds) S2
theorem da_nil : DA X W [] dNil := ⟨_, pa_nil, ⟨fun E G H S σV σ Q P w k s hr p => p [] S G H [] hr k (.refl _ _ _) .nil⟩⟩
theorem da_cons {es : List Expr} {q : DTA} (ha : DE X W e ra) (hr : DA X W es q) (hs : starEach (e :: es) X.env = (false, eval e X.env) :: starEach es X.env := by rfl) : DA X W (e :: es) (dCons ra q) := by
  obtain ⟨ta, pa, ea⟩ := ha
  obtain ⟨tr, pr, er⟩ := hr
  refine ⟨_, pa_cons pa pr hs, ⟨fun E G H S σV σ Q P w k s hr p => ?_⟩⟩
  refine ea.run E G H S σV σ _ _ w k s hr fun d S1 G1 H1 v hd k1 f1 r1 => ?_
  exact er.run E G1 H1 S1 σV σ _ _ (w.mono f1) k1 (s.mono f1.g) hd fun ds S2 G2 H2 vs h2 k2 f2 r2 => p _ S2 G2 H2 _ h2 k2 (f1.trans f2) (.cons (r1.mono f2.g) r2)
def dTup (q : DTA) : DTE := fun E σ S Q => q E σ S fun ds S' => ds.length ≤ sizeLine ∧ Q (.tup ds) S'
def dLst (q : DTA) : DTE := fun E σ S Q => q E σ S fun ds S' => ds.length ≤ sizeLine ∧ Q (.lst ds) S'
/-- a list that will change -/
def dLstM (q : DTA) : DTE := fun E σ S Q => q E σ S fun ds S' => ds.length ≤ sizeLine ∧ ∀ p, S' p = none → Q (.ref p) (put S' p (.lst ds))
theorem de_tup {es : List Expr} {q : DTA} {x1} (h : DA X W es q) : DE X W (.Tuple es x1 pos) (dTup q) := by
  obtain ⟨t, p, ea⟩ := h
  refine ⟨_, pe_tup p, ⟨fun E G H S σV σ Q P w k s hr p => ?_⟩⟩
  refine ea.run E G H S σV σ _ _ w k s hr fun ds S1 G1 H1 vs hd k1 f1 r1 => ⟨by rw [r1.length]; exact hd.1, fun q hq => ?_⟩
  obtain ⟨k2, f2⟩ := k1.newG (o := .tup vs) hq
  exact p _ _ _ _ _ hd.2 k2 (f1.trans f2) (.tup (.inl upd_same) (r1.mono f2.g))
theorem de_lst {es : List Expr} {q : DTA} (h : DA X W es q) : DE X W (.List es pos) (dLst q) := by
  obtain ⟨t, p, ea⟩ := h
  refine ⟨_, pe_lst p, ⟨fun E G H S σV σ Q P w k s hr p => ?_⟩⟩
  refine ea.run E G H S σV σ _ _ w k s hr fun ds S1 G1 H1 vs hd k1 f1 r1 => ⟨by rw [r1.length]; exact hd.1, fun q hq => ?_⟩
  obtain ⟨k2, f2⟩ := k1.newG (o := .lst vs) hq
  exact p _ _ _ _ _ hd.2 k2 (f1.trans f2) (.lst upd_same (r1.mono f2.g))
theorem de_lstM {es : List Expr} {q : DTA} (h : DA X W es q) : DE X W (.List es pos) (dLstM q) := by
  obtain ⟨t, p, ea⟩ := h
  refine ⟨_, pe_lst p, ⟨fun E G H S σV σ Q P w k s hr p => ?_⟩⟩
  refine ea.run E G H S σV σ _ _ w k s hr fun ds S1 G1 H1 vs hd k1 f1 r1 => ⟨by rw [r1.length]; exact hd.1, fun q hq => ?_⟩
  obtain ⟨k2, f2⟩ := k1.newS (o := .lst vs) (m := .lst ds) hq ⟨vs, upd_same, r1⟩
  exact p _ _ _ _ _ (hd.2 q (k1.freeS hq)) k2 (f1.trans f2) (.ref q)
/-- what is in the store becomes data -/
def dFrz (r : DTE) : DTE := fun E σ S Q => r E σ S fun d S' => ∃ p xs, d = .ref p ∧ S' p = some (.lst xs) ∧ Q (.lst xs) (rem S' p)
theorem de_frz (h : DE X W e ra) : DE X W e (dFrz ra) := by
  obtain ⟨t, p, ea⟩ := h
  refine ⟨_, p, ⟨fun E G H S σV σ Q P w k s hr p => ?_⟩⟩
  refine ea.run E G H S σV σ _ _ w k s hr fun d S1 G1 H1 v hd k1 f1 r1 => ?_
  obtain ⟨a, xs, rfl, hs, q⟩ := hd
  cases r1
  obtain ⟨_, vs, h1, h2⟩ := k1.sto a _ hs
  obtain ⟨k2, f2⟩ := k1.frz hs h1
  exact p _ _ _ _ _ q k2 (f1.trans f2) (.lst upd_same (h2.mono f2.g))

/-! ### calls on values -/
def dCall (q : List D → Sto → DK → Prop) (r : DTA) : DTE := fun E σ S Q => r E σ S fun ds S1 => q ds S1 Q
theorem ev_cb {t : TA} {r : DTA} {rc : List V → Hp → VK → Prop} {q : List D → Sto → DK → Prop} (ha : EvA K W t r) (hq : RcD K rc q) : EvD K W (tCB rc t) (dCall q r) := ⟨fun E G H S σV σ Q P w k s hr p => by
  refine ha.run E G H S σV σ _ _ w k s hr fun ds S1 G1 H1 vs hd k1 f1 r1 => ?_
  exact hq.run G1 H1 S1 ds vs Q P k1 r1 hd fun d S2 G2 H2 z h2 k2 f2 r2 => p d S2 G2 H2 z h2 k2 (f1.trans f2) r2⟩
theorem de_callB {id : String} {x : Str} {p : Pos} {es : List Expr} {r : DTA} {q : List D → Sto → DK → Prop} (hc : DC X (.builtin id) q) (hg : Gl X x) (hm : X.mg x = none) (hv : bootBuiltins x = some (.builtin id)) (ha : DA X W (e :: es) r)
    (hn : x ≠ "__name__" := by decide) (hdb : (x == ("__debug__" : Str)) = false := by decide) (hs : starEach (e :: es) X.env = (false, eval e X.env) :: starEach es X.env := by rfl) (hpl : (backTo pos (starEach es X.env)).any (·.1) = false := by rfl) :
    DE X W (.Call (.Name x p) (e :: es) [] pos) (dCall q r) := by
  obtain ⟨rc, c, eq⟩ := hc
  obtain ⟨t, pa, ea⟩ := ha
  exact ⟨_, pe_callB c hg hm hv pa hn hdb hs hpl, ev_cb ea eq⟩
theorem de_callTy {T : String} {x : Str} {p : Pos} {es : List Expr} {r : DTA} {q : List D → Sto → DK → Prop} (hc : DC X (.type T) q) (hg : Gl X x) (hm : X.mg x = none) (hv : bootBuiltins x = some (.type T)) (ha : DA X W (e :: es) r)
    (hn : x ≠ "__name__" := by decide) (hdb : (x == ("__debug__" : Str)) = false := by decide) (hs : starEach (e :: es) X.env = (false, eval e X.env) :: starEach es X.env := by rfl) (hpl : (backTo pos (starEach es X.env)).any (·.1) = false := by rfl) :
    DE X W (.Call (.Name x p) (e :: es) [] pos) (dCall q r) := by
  obtain ⟨rc, c, eq⟩ := hc
  obtain ⟨t, pa, ea⟩ := ha
  exact ⟨_, pe_callTy c hg hm hv pa hn hdb hs hpl, ev_cb ea eq⟩

/-! ### the promise of a def, and its call -/
abbrev DSp := List D → Sto → DK → DEr → Prop
def lift (K : PySem.W.Frag) (sp : DSp) : Sp := fun vs H Q E => ∃ (G : Hp) (S : Sto) (ds : List D) (Qd : DK) (Ed : DEr), Wok K G H S ∧ RepL K G vs ds ∧ sp ds S Qd Ed ∧
  (∀ d S' G' H' v, Qd d S' → Wok K G' H' S' → Fr G H S G' H' S' → Rep K G' v d → Q v H') ∧ ∀ C d S' G' H', Ed C d S' → Wok K G' H' S' → Fr G H S G' H' S' → E (.ref C) (some d) H'
def dFn (sp : DSp) (r : DTA) : DTE := fun E σ S Q => r E σ S fun ds S1 => sp ds S1 Q E
theorem ev_fn {t : TA} {r : DTA} {sp : DSp} (ha : EvA K W t r) : EvD K W (tCallS (lift K sp) (WE W) t) (dFn sp r) := ⟨fun E G H S σV σ Q P w k s hr p => by
  refine ha.run E G H S σV σ _ _ w k s hr fun ds S1 G1 H1 vs hd k1 f1 r1 => ?_
  exact ⟨G1, S1, ds, Q, E, k1, r1, hd, fun d S2 G2 H2 z h2 k2 f2 r2 => p d S2 G2 H2 z h2 k2 (f1.trans f2) r2, fun C d S2 G2 H2 h2 k2 f2 => w.go C d S2 G2 H2 h2 k2 (f1.trans f2)⟩⟩
/-- f(e, ..), f a def of the text that may raise; tk: what is raised is taken here -/
theorem de_fn {k : Nat} {f : Addr} {fd : FuncData} {ps : List Str} {sp : DSp} {x : Str} {p : Pos} {es : List Expr} {r : DTA} (tk : Takes X W) (F : FnOk X.prog X.w X.K X.mg X.base (L2.CX X.prog X.w) k f fd ps (lift X.K sp)) (hr : Room k X.A) (hg : Gl X x) (hm : X.mg x = some (.ref f))
    (hk : PySem.W.keepIn X.K (.ref f) = true) (hb : Binds X.K fd ps []) (ha : DA X W (e :: es) r) (hd : (x == ("__debug__" : Str)) = false := by decide)
    (hs : starEach (e :: es) X.env = (false, eval e X.env) :: starEach es X.env := by rfl) (hpl : (backTo pos (starEach es X.env)).any (·.1) = false := by rfl) :
    DE X W (.Call (.Name x p) (e :: es) [] pos) (dFn sp r) := by
  obtain ⟨t, pa, ea⟩ := ha
  exact ⟨_, pe_callS F hr hg hm hk hb (fun σ => passAt tk σ) pa hd hs hpl, ev_fn ea⟩
end
end KD

set_option maxRecDepth 100000
set_option maxHeartbeats 4000000
/-! Kd2: statements, targets, loops, comprehensions, the rule of a def. -/
namespace KD
open PySem PySem.Spec PyProof.Rows L2
structure DEnds where
  nx : DSt → Sto → Prop
  rt : DK
  bk : DSt → Sto → Prop
  ct : DSt → Sto → Prop
  ex : Addr → Addr → DSt → Sto → Prop
abbrev DTS := DEnds → DSt → Sto → Prop
abbrev DTG := D → DSt → Sto → (DSt → Sto → Prop) → Prop
abbrev DTGs := List D → DSt → Sto → (DSt → Sto → Prop) → Prop
/-- what is wanted of slots and heap -/
structure NOk (K : PySem.W.Frag) (N : DSt → Sto → Prop) (G H : Hp) (S : Sto) (M : L2.St → Hp → Prop) : Prop where
  go : ∀ σ' S' G' H' σV', N σ' S' → Wok K G' H' S' → Fr G H S G' H' S' → Sl K G' σV' σ' → M σV' H'
theorem NOk.mono {K : PySem.W.Frag} {N : DSt → Sto → Prop} {G H G1 H1 : Hp} {S S1 : Sto} {M : L2.St → Hp → Prop} (n : NOk K N G H S M) (f : Fr G H S G1 H1 S1) : NOk K N G1 H1 S1 M := ⟨fun σ' S' G' H' σV' q k g s => n.go σ' S' G' H' σV' q k (f.trans g) s⟩
/-- the slots outside js are as they were -/
structure Agr (js : List Nat) (σV σV' : L2.St) : Prop where
  len : σV'.length = σV.length
  at_ : ∀ i, i ∉ js → σV'[i]? = σV[i]?
theorem Agr.refl (js : List Nat) (σV : L2.St) : Agr js σV σV := ⟨rfl, fun _ _ => rfl⟩
theorem Agr.trans {js ks : List Nat} {a b c : L2.St} (x : Agr js a b) (y : Agr ks b c) : Agr (js ++ ks) a c := ⟨y.len.trans x.len, fun i h => (y.at_ i fun z => h (List.mem_append_right _ z)).trans (x.at_ i fun z => h (List.mem_append_left _ z))⟩
theorem Agr.set {a : L2.St} {v : Option V} (i : Nat) : Agr [i] a (a.set i v) := ⟨List.length_set, fun j h => List.getElem?_set_ne fun e => h (by rw [e]; exact List.mem_cons_self)⟩
structure NOkJ (K : PySem.W.Frag) (js : List Nat) (σV : L2.St) (N : DSt → Sto → Prop) (G H : Hp) (S : Sto) (M : L2.St → Hp → Prop) : Prop where
  go : ∀ σ' S' G' H' σV', N σ' S' → Wok K G' H' S' → Fr G H S G' H' S' → Sl K G' σV' σ' → Agr js σV σV' → M σV' H'
theorem NOk.j {K : PySem.W.Frag} {js : List Nat} {σV : L2.St} {N : DSt → Sto → Prop} {G H : Hp} {S : Sto} {M : L2.St → Hp → Prop} (n : NOk K N G H S M) : NOkJ K js σV N G H S M := ⟨fun σ' S' G' H' σV' q k f s _ => n.go σ' S' G' H' σV' q k f s⟩
structure EndsOk (K : PySem.W.Frag) (W : WX) (Dd : DEnds) (G H : Hp) (S : Sto) (Dh : Ends) : Prop where
  nx : NOk K Dd.nx G H S Dh.nx
  rt : ∀ d S' G' H' v, Dd.rt d S' → Wok K G' H' S' → Fr G H S G' H' S' → Rep K G' v d → Dh.rt v H'
  bk : NOk K Dd.bk G H S Dh.bk
  ct : NOk K Dd.ct G H S Dh.ct
  ex : ∀ C d σ' S' G' H' σV', Dd.ex C d σ' S' → Wok K G' H' S' → Fr G H S G' H' S' → Sl K G' σV' σ' → W (.ref C) (some d) σV' H'
section
variable {K : PySem.W.Frag} {W : WX}
theorem EndsOk.mono {Dd : DEnds} {G H G1 H1 : Hp} {S S1 : Sto} {Dh : Ends} (e : EndsOk K W Dd G H S Dh) (f : Fr G H S G1 H1 S1) : EndsOk K W Dd G1 H1 S1 Dh :=
  ⟨e.nx.mono f, fun d S' G' H' v q k g r => e.rt d S' G' H' v q k (f.trans g) r, e.bk.mono f, e.ct.mono f, fun C d σ' S' G' H' σV' q k g s => e.ex C d σ' S' G' H' σV' q k (f.trans g) s⟩
theorem EndsOk.wok {Dd : DEnds} {G H : Hp} {S : Sto} {Dh : Ends} {σV : L2.St} {σ : DSt} (e : EndsOk K W Dd G H S Dh) (s : Sl K G σV σ) : WOk K W (fun C d S' => Dd.ex C d σ S') σV G H S :=
  ⟨fun C d S' G' H' q k f => e.ex C d σ S' G' H' σV q k f (s.mono f.g)⟩
end
structure EvS (K : PySem.W.Frag) (W : WX) (t : TS) (r : DTS) : Prop where
  run : ∀ (Dd : DEnds) (G H : Hp) (S : Sto) (σV : L2.St) (σ : DSt) (Dh : Ends), EndsOk K W Dd G H S Dh → Wok K G H S → Sl K G σV σ → r Dd σ S → t Dh σV H
structure EvG (K : PySem.W.Frag) (js : List Nat) (g : TG) (r : DTG) : Prop where
  run : ∀ (G H : Hp) (S : Sto) (σV : L2.St) (σ : DSt) (d : D) (v : V) (N : DSt → Sto → Prop) (M : L2.St → Hp → Prop), Wok K G H S → Sl K G σV σ → Rep K G v d → r d σ S N → NOkJ K js σV N G H S M → g v σV H M
structure EvGs (K : PySem.W.Frag) (js : List Nat) (g : TGs) (r : DTGs) : Prop where
  run : ∀ (G H : Hp) (S : Sto) (σV : L2.St) (σ : DSt) (ds : List D) (vs : List V) (N : DSt → Sto → Prop) (M : L2.St → Hp → Prop), Wok K G H S → Sl K G σV σ → RepL K G vs ds → r ds σ S N → NOkJ K js σV N G H S M → g vs σV H M
def DS (X : Cx) (W : WX) (st : Stmt) (r : DTS) : Prop := ∃ t, PS X st t ∧ EvS X.K W t r
def DSs (X : Cx) (W : WX) (st : List Stmt) (r : DTS) : Prop := ∃ t, PSs X st t ∧ EvS X.K W t r
def DG (X : Cx) (e : Expr) (js : List Nat) (r : DTG) : Prop := ∃ t, PG X e t ∧ EvG X.K js t r
def DGs (X : Cx) (es : List Expr) (js : List Nat) (r : DTGs) : Prop := ∃ t, PGs X es t ∧ EvGs X.K js t r
section
variable {X : Cx} {W : WX} {K : PySem.W.Frag} {a b c e : Expr} {ra rb rc : DTE} {pos : Pos} {st : Stmt} {rest : List Stmt} {r1 r2 : DTS} {rA : DTT} {g : DTG}
/-! ### targets -/
def dgName (i : Nat) : DTG := fun d σ S N => N (σ.set i (some d)) S
theorem dg_name {i : Nat} {x : Str} (hN : X.N.Nodup) (hi : X.N[i]? = some x) (hx : Loc X.env.scope x) (hf : X.fn x = true ∨ X.env.scope.names.lookup x = some .local := by first | exact .inl rfl | exact .inr rfl | assumption) : DG X (.Name x pos) [i] (dgName i) :=
  ⟨_, pg_name hN hi hx hf, ⟨fun G H S σV σ d v N M k s r h n => n.go _ _ _ _ _ h k (.refl _ _ _) (s.set i r) (.set i)⟩⟩
def dgNil : DTGs := fun ds σ S N => ds = [] ∧ N σ S
def dgCons (g : DTG) (q : DTGs) : DTGs := fun ds σ S N => match ds with
  | d :: ds => g d σ S fun σ' S' => q ds σ' S' N
  | [] => False
theorem dgs_nil : DGs X [] [] dgNil := ⟨_, pgs_nil, ⟨fun G H S σV σ ds vs N M k s r h n => by
  obtain ⟨rfl, h⟩ := h
  cases r
  exact ⟨rfl, n.go _ _ _ _ _ h k (.refl _ _ _) s (.refl _ _)⟩⟩⟩
theorem dgs_cons {es : List Expr} {q : DTGs} {js ks : List Nat} (h1 : DG X e js g) (h2 : DGs X es ks q) (hs : (assignEach (e :: es) X.env).map (·.2) = assign e X.env :: (assignEach es X.env).map (·.2) := by rfl) : DGs X (e :: es) (js ++ ks) (dgCons g q) := by
  obtain ⟨t, p1, e1⟩ := h1
  obtain ⟨u, p2, e2⟩ := h2
  refine ⟨_, pgs_cons p1 p2 hs, ⟨fun G H S σV σ ds vs N M k s r h n => ?_⟩⟩
  cases r with
  | nil => exact h.elim
  | cons r1 r2 =>
    refine ⟨_, _, rfl, e1.run G H S σV σ _ _ _ _ k s r1 h ⟨fun σ' S' G' H' σV' q k' f s' ag => ?_⟩⟩
    exact e2.run G' H' S' σV' σ' _ _ _ _ k' s' (r2.mono f.g) q ⟨fun σ2 S2 G2 H2 σV2 q2 k2 f2 s2 ag2 => n.go σ2 S2 G2 H2 σV2 q2 k2 (f.trans f2) s2 (ag.trans ag2)⟩
def dgTup (n : Nat) (q : DTGs) : DTG := fun d σ S N => match d with
  | .tup ds => ds.length = n ∧ q ds σ S N
  | _ => False
theorem dg_tup {es : List Expr} {k n : Nat} {q : DTGs} {js : List Nat} (hc : X.calm = true) (h : DGs X es js q) (hn : (assignEach es X.env).length = n := by rfl) (hst : (assignEach es X.env).findIdx? (·.1) = none := by rfl) : DG X (.Tuple es k pos) js (dgTup n q) := by
  obtain ⟨t, p, e⟩ := h
  refine ⟨_, pg_tup hc p hn hst, ⟨fun G H S σV σ d v N M k s r h n => ?_⟩⟩
  cases d with
  | tup ds =>
    cases r with
    | tup h1 h2 => exact ⟨_, _, rfl, (h1.mono k.ext).sq, by rw [h2.length]; exact h.1, e.run G H S σV σ ds _ N M k s h2 h.2 n⟩
  | _ => exact h.elim
/-! ### statements -/
def dNext : DTS := fun Z σ S => Z.nx σ S
def dSeq (t u : DTS) : DTS := fun Z σ S => t { Z with nx := u Z } σ S
theorem EndsOk.seq {K : PySem.W.Frag} {W : WX} {Dd : DEnds} {G H : Hp} {S : Sto} {Dh : Ends} {u : DTS} {tu : TS} (e : EndsOk K W Dd G H S Dh) (hu : EvS K W tu u) : EndsOk K W { Dd with nx := u Dd } G H S { Dh with nx := tu Dh } :=
  ⟨⟨fun σ' S' G' H' σV' q k f s => hu.run Dd G' H' S' σV' σ' Dh (e.mono f) k s q⟩, e.rt, e.bk, e.ct, e.ex⟩
theorem dss_nil : DSs X W [] dNext := ⟨_, pss_nil, ⟨fun Dd G H S σV σ Dh e k s h => e.nx.go σ S G H σV h k (.refl _ _ _) s⟩⟩
theorem dss_cons (h1 : DS X W st r1) (h2 : DSs X W rest r2) : DSs X W (st :: rest) (dSeq r1 r2) := by
  obtain ⟨t, p, e⟩ := h1
  obtain ⟨u, q, f⟩ := h2
  exact ⟨_, pss_cons p q, ⟨fun Dd G H S σV σ Dh eo k s h => e.run _ G H S σV σ _ (eo.seq f) k s h⟩⟩
theorem dss_one (h1 : DS X W st r1) : DSs X W [st] r1 := let ⟨_, p, e⟩ := h1; ⟨_, pss_one p, e⟩
def dBreak : DTS := fun Z σ S => Z.bk σ S
def dCont : DTS := fun Z σ S => Z.ct σ S
theorem ds_pass : DS X W (.Pass pos) dNext := ⟨_, ps_pass, ⟨fun Dd G H S σV σ Dh e k s h => e.nx.go σ S G H σV h k (.refl _ _ _) s⟩⟩
theorem ds_break : DS X W (.Break pos) dBreak := ⟨_, ps_break, ⟨fun Dd G H S σV σ Dh e k s h => e.bk.go σ S G H σV h k (.refl _ _ _) s⟩⟩
theorem ds_continue : DS X W (.Continue pos) dCont := ⟨_, ps_continue, ⟨fun Dd G H S σV σ Dh e k s h => e.ct.go σ S G H σV h k (.refl _ _ _) s⟩⟩
def dNever : DTS := fun _ _ _ => False
theorem ds_never : DS X W st dNever := ⟨_, ps_never, ⟨fun _ _ _ _ _ _ _ _ _ _ h => h.elim⟩⟩
theorem dss_never {sts : List Stmt} : DSs X W sts dNever := ⟨_, pss_never, ⟨fun _ _ _ _ _ _ _ _ _ _ h => h.elim⟩⟩
def exOf (Z : DEnds) (σ : DSt) : DEr := fun C d S' => Z.ex C d σ S'
def dDrop (r : DTE) : DTS := fun Z σ S => r (exOf Z σ) σ S fun _ S' => Z.nx σ S'
theorem ds_expr (h : DE X W e ra) (hs : swapsWith e none pos.line X.env = pure false := by rfl) : DS X W (.Expr e pos) (dDrop ra) := by
  obtain ⟨t, p, q⟩ := h
  refine ⟨_, ps_expr p hs, ⟨fun Dd G H S σV σ Dh eo k s h => ?_⟩⟩
  exact q.run _ G H S σV σ _ _ (eo.wok s) k s h fun d S' G' H' v hd k' f r => eo.nx.go σ S' G' H' σV hd k' f (s.mono f.g)
def dRet (r : DTE) : DTS := fun Z σ S => r (exOf Z σ) σ S Z.rt
theorem ds_ret (h : DE X W e ra) : DS X W (.Return (some e) pos) (dRet ra) := by
  obtain ⟨t, p, q⟩ := h
  refine ⟨_, ps_ret p, ⟨fun Dd G H S σV σ Dh eo k s h => ?_⟩⟩
  exact q.run _ G H S σV σ _ _ (eo.wok s) k s h fun d S' G' H' v hd k' f r => eo.rt d S' G' H' v hd k' f r
def dRetN : DTS := fun Z σ S => Z.rt .non S
theorem ds_retN : DS X W (.Return none pos) dRetN := ⟨_, ps_retN, ⟨fun Dd G H S σV σ Dh eo k s h => eo.rt .non S G H .non h k (.refl _ _ _) .non⟩⟩
def dIfS (r : DTT) (t u : DTS) : DTS := fun Z σ S => r (exOf Z σ) σ S fun b S' => if b = true then t Z σ S' else u Z σ S'
theorem ds_if {c : Expr} {as bs : List Stmt} (hc : DT X W c rA) (ha : DSs X W as r1) (hb : DSs X W bs r2) : DS X W (.If c as bs pos) (dIfS rA r1 r2) := by
  obtain ⟨tc, pc, ec⟩ := hc
  obtain ⟨ta, pa, ea⟩ := ha
  obtain ⟨tb, pb, eb⟩ := hb
  refine ⟨_, ps_if pc pa pb, ⟨fun Dd G H S σV σ Dh eo k s h => ?_⟩⟩
  refine ec.run _ G H S σV σ _ _ (eo.wok s) k s h fun b S' G' H' hd k' f => ?_
  cases b with
  | true =>
    rw [if_pos rfl] at hd ⊢
    exact ea.run Dd G' H' S' σV σ Dh (eo.mono f) k' (s.mono f.g) hd
  | false =>
    rw [if_neg Bool.false_ne_true] at hd ⊢
    exact eb.run Dd G' H' S' σV σ Dh (eo.mono f) k' (s.mono f.g) hd
def dAsg (r : DTE) (g : DTG) : DTS := fun Z σ S => r (exOf Z σ) σ S fun d S' => g d σ S' Z.nx
theorem ds_asg {tg : Expr} {js : List Nat} (he : DE X W e ra) (hg : DG X tg js g) (hs : swapsWithSole [tg] e pos.line X.env = pure false := by rfl) (hw : swappedStores [tg] e X.env = pure none := by rfl) (h1 : (assignEach [tg] X.env).map (·.2) = [assign tg X.env] := by rfl) : DS X W (.Assign [tg] e pos) (dAsg ra g) := by
  obtain ⟨t, p, q⟩ := he
  obtain ⟨u, p2, q2⟩ := hg
  refine ⟨_, ps_asg p p2 hs hw h1, ⟨fun Dd G H S σV σ Dh eo k s h => ?_⟩⟩
  exact q.run _ G H S σV σ _ _ (eo.wok s) k s h fun d S' G' H' v hd k' f r => q2.run G' H' S' σV σ d v _ _ k' (s.mono f.g) r hd (eo.nx.mono f).j
theorem ds_set {i : Nat} {x : Str} {pos' : Pos} (hN : X.N.Nodup) (hi : X.N[i]? = some x) (hx : Loc X.env.scope x) (he : DE X W e ra) (hs : swapsWith e (some (.Name x pos')) pos.line X.env = pure false := by rfl)
    (hf : X.fn x = true ∨ X.env.scope.names.lookup x = some .local := by first | exact .inl rfl | exact .inr rfl | assumption) : DS X W (.Assign [.Name x pos'] e pos) (dAsg ra (dgName i)) := by
  obtain ⟨t, p, q⟩ := he
  refine ⟨_, ps_set hN hi hx p hs hf, ⟨fun Dd G H S σV σ Dh eo k s h => ?_⟩⟩
  exact q.run _ G H S σV σ _ _ (eo.wok s) k s h fun d S' G' H' v hd k' f r => eo.nx.go _ S' G' H' _ hd k' f ((s.mono f.g).set i r)
/-- a, b = e1, e2 (both local names) -/
def dPar (i j : Nat) (r : DTA) : DTS := fun Z σ S => r (exOf Z σ) σ S fun ds S' => match ds with
  | [x, y] => Z.nx ((σ.set i (some x)).set j (some y)) S'
  | _ => False
theorem ds_par {i j : Nat} {x y : Str} {r : DTA} {px py pt : Pos} {kt k2 pt2} (hc : X.calm = true) (hN : X.N.Nodup) (hi : X.N[i]? = some x) (hj : X.N[j]? = some y) (hij : i ≠ j) (hx : X.env.scope.names.lookup x = some .local) (hy : X.env.scope.names.lookup y = some .local)
    (ha : DA X W [a, b] r) (hw : swappedStores [.Tuple [.Name x px, .Name y py] kt pt] (.Tuple [a, b] k2 pt2) X.env = pure (some [x, y]) := by rfl)
    (hs : swapsWithSole [.Tuple [.Name x px, .Name y py] kt pt] (.Tuple [a, b] k2 pt2) pos.line X.env = pure false := by rfl) : DS X W (.Assign [.Tuple [.Name x px, .Name y py] kt pt] (.Tuple [a, b] k2 pt2) pos) (dPar i j r) := by
  obtain ⟨t, p, q⟩ := ha
  refine ⟨_, ps_par hc hN hi hj hij hx hy p hw hs, ⟨fun Dd G H S σV σ Dh eo k s h => ?_⟩⟩
  refine q.run _ G H S σV σ _ _ (eo.wok s) k s h fun ds S' G' H' vs hd k' f r => ?_
  match ds, vs, r, hd with
  | [d1, d2], [v1, v2], .cons r1 (.cons r2 .nil), hd => exact ⟨v1, v2, rfl, eo.nx.go _ S' G' H' _ hd k' f (((s.mono f.g).set i r1).set j r2)⟩
/-- x op= e -/
structure IpD (K : PySem.W.Frag) (r : TIp) (q : D → D → Sto → DK → Prop) : Prop where
  run : ∀ (G H : Hp) (S : Sto) (x y : D) (v u : V) (Q : DK) (P : VK), Wok K G H S → Rep K G v x → Rep K G u y → q x y S Q →
    (∀ d S' G' H' z, Q d S' → Wok K G' H' S' → Fr G H S G' H' S' → Rep K G' z d → P z H') → r v u H P
def DIp (X : Cx) (op : Operator) (q : D → D → Sto → DK → Prop) : Prop := ∃ r, PIp X op r ∧ IpD X.K r q
def dAug (i : Nat) (r : DTE) (q : D → D → Sto → DK → Prop) : DTS := fun Z σ S => match σ[i]? with
  | some (some x) => r (exOf Z σ) σ S fun y S1 => q x y S1 fun z S2 => Z.nx (σ.set i (some z)) S2
  | _ => False
theorem ds_aug {i : Nat} {x : Str} {op : Operator} {q : D → D → Sto → DK → Prop} {pos' : Pos} (hN : X.N.Nodup) (hi : X.N[i]? = some x) (hx : Loc X.env.scope x) (he : DE X W e ra) (ho : DIp X op q)
    (hf : X.fn x = true ∨ X.env.scope.names.lookup x = some .local := by first | exact .inl rfl | exact .inr rfl | assumption) : DS X W (.AugAssign (.Name x pos') op e pos) (dAug i ra q) := by
  obtain ⟨t, p, ev⟩ := he
  obtain ⟨r, po, eo'⟩ := ho
  refine ⟨_, ps_aug hN hi hx p po hf, ⟨fun Dd G H S σV σ Dh eo k s h => ?_⟩⟩
  unfold dAug at h
  split at h
  · rename_i d hd
    obtain ⟨v, h1, h2⟩ := s.at_ i d hd
    refine ⟨v, h1, ev.run _ G H S σV σ _ _ (eo.wok s) k s h fun y S1 G1 H1 u hy k1 f1 r1 => ?_⟩
    exact eo'.run G1 H1 S1 _ y v u _ _ k1 (h2.mono f1.g) r1 hy fun z S2 G2 H2 w hz k2 f2 r2 => eo.nx.go _ S2 G2 H2 _ hz k2 (f1.trans f2) ((s.mono (f1.trans f2).g).set i r2)
  · exact h.elim
/-- xs[i] = e of a list in the store -/
def dSetIx (ro ri rv : DTE) : DTS := fun Z σ S => rv (exOf Z σ) σ S fun v S1 => ro (exOf Z σ) σ S1 fun o S2 => ri (exOf Z σ) σ S2 fun i S3 => ∃ (p : Addr) (xs : List D) (n : Int) (j : Nat), o = .ref p ∧ i = .int n ∧ S3 p = some (.lst xs) ∧ ixN xs.length n = some j ∧
  Z.nx σ (put S3 p (.lst (xs.set j v)))
theorem ds_setIx {o i : Expr} {ro ri : DTE} {p2 : Pos} (ho : DE X W o ro) (hi : DE X W i ri) (he : DE X W e ra) (hs : swapsWithSole [.Subscript o i p2] e pos.line X.env = pure false := by rfl) (hw : swappedStores [.Subscript o i p2] e X.env = pure none := by rfl)
    (ha : ∀ v, assign (.Subscript o i p2) X.env v = (do
      let ov ← holding [v] (eval o X.env)
      let iv ← holding [v, ov] (eval i X.env)
      standAt p2
      holding [v, ov, iv] (setItem ov iv v)
      release [v, ov, iv] []) := by intro _; rfl) : DS X W (.Assign [.Subscript o i p2] e pos) (dSetIx ro ri ra) := by
  obtain ⟨t, p, q⟩ := he
  obtain ⟨to, po, qo⟩ := ho
  obtain ⟨ti, pi, qi⟩ := hi
  refine ⟨_, ps_asg p (pg_sub po pi set_list ha) hs hw, ⟨fun Dd G H S σV σ Dh eo k s h => ?_⟩⟩
  refine q.run _ G H S σV σ _ _ (eo.wok s) k s h fun d S1 G1 H1 v hd k1 f1 r1 => ?_
  refine qo.run _ G1 H1 S1 σV σ _ _ ((eo.wok s).mono f1) k1 (s.mono f1.g) hd fun d2 S2 G2 H2 v2 hd2 k2 f2 r2 => ?_
  refine qi.run _ G2 H2 S2 σV σ _ _ ((eo.wok s).mono (f1.trans f2)) k2 (s.mono (f1.trans f2).g) hd2 fun d3 S3 G3 H3 v3 hd3 k3 f3 r3 => ?_
  obtain ⟨pa, xs, n, j, rfl, rfl, hS, hj, hn⟩ := hd3
  cases r2
  cases r3
  obtain ⟨_, vs, h1, h2⟩ := k3.sto pa _ hS
  refine ⟨pa, vs, n, j, rfl, rfl, h1, by rw [h2.length]; exact hj, ?_⟩
  obtain ⟨k4, f4⟩ := k3.chS (o := .lst (vs.set j v)) (m := .lst (xs.set j d)) hS ⟨_, upd_same, h2.set (r1.mono (f2.trans f3).g) j⟩
  have ff := ((f1.trans f2).trans f3).trans f4
  exact eo.nx.go _ _ _ _ _ hn k4 ff (s.mono ff.g)
/-- ghost: the list in slot i becomes data ahead of a statement -/
def dFrzS (i : Nat) (r : DTS) : DTS := fun Z σ S => ∃ p xs, σ[i]? = some (some (.ref p)) ∧ S p = some (.lst xs) ∧ r Z (σ.set i (some (.lst xs))) (rem S p)
theorem ds_frzS (i : Nat) (h : DSs X W rest r1) : DSs X W rest (dFrzS i r1) := by
  obtain ⟨t, p, q⟩ := h
  refine ⟨_, p, ⟨fun Dd G H S σV σ Dh eo k s h => ?_⟩⟩
  obtain ⟨pa, xs, hi, hS, hn⟩ := h
  obtain ⟨_, vs, h1, h2⟩ := k.sto pa _ hS
  obtain ⟨k2, f2⟩ := k.frz hS h1
  exact q.run Dd _ H _ σV _ Dh (eo.mono f2) k2 ((s.mono f2.g).retell hi fun v r => by cases r; exact .lst upd_same (h2.mono f2.g)) hn
/-! ### loops -/
def dWhile (rc : DTT) (rb : DTS) : DTS := fun Z σ S => ∃ V : Nat → DSt → Sto → Prop, (∃ m, V m σ S) ∧ ∀ m σ S, V m σ S →
  rc (exOf Z σ) σ S fun b S1 => if b = true then ∃ N : DSt → Sto → Prop, (∀ σ' S', N σ' S' → ∃ m', m' < m ∧ V m' σ' S') ∧ rb { Z with nx := N, ct := N, bk := Z.nx } σ S1 else Z.nx σ S1
theorem ds_while {c : Expr} {body : List Stmt} (hp : PassesOwn (model X.prog X.w) X.A X.env X.xe) (hc : DT X W c rA) (hb : DSs X W body r1) : DS X W (.While c body [] pos) (dWhile rA r1) := by
  obtain ⟨tc, pc, ec⟩ := hc
  obtain ⟨tb, pb, eb⟩ := hb
  refine ⟨_, ps_while hp pc pb, ⟨fun Dd G H S σV σ Dh eo k s h => ?_⟩⟩
  obtain ⟨V, ⟨m0, v0⟩, turn⟩ := h
  refine ⟨fun m σV' H' => ∃ G' S' σ', V m σ' S' ∧ Wok X.K G' H' S' ∧ Fr G H S G' H' S' ∧ Sl X.K G' σV' σ', ⟨m0, G, S, σ, v0, k, .refl _ _ _, s⟩, fun m σV1 H1 hW => ?_⟩
  obtain ⟨G1, S1, σ1, v1, k1, f1, s1⟩ := hW
  have eo1 := eo.mono f1
  refine ec.run _ G1 H1 S1 σV1 σ1 _ _ (eo1.wok s1) k1 s1 (turn m σ1 S1 v1) fun b S2 G2 H2 hd k2 f2 => ?_
  have eo2 := eo1.mono f2
  cases b with
  | true =>
    rw [if_pos rfl] at hd ⊢
    obtain ⟨N, hN, hb⟩ := hd
    refine ⟨fun σV' H' => ∃ G' S' σ', N σ' S' ∧ Wok X.K G' H' S' ∧ Fr G H S G' H' S' ∧ Sl X.K G' σV' σ', fun σV' H' q => ?_, ?_⟩
    · obtain ⟨G', S', σ', n', k', f', s'⟩ := q
      obtain ⟨m', hm, v'⟩ := hN σ' S' n'
      exact ⟨m', hm, G', S', σ', v', k', f', s'⟩
    · have nn : NOk X.K N G2 H2 S2 (fun σV' H' => ∃ G' S' σ', N σ' S' ∧ Wok X.K G' H' S' ∧ Fr G H S G' H' S' ∧ Sl X.K G' σV' σ') := ⟨fun σ' S' G' H' σV' q k' f' s' => ⟨G', S', σ', q, k', (f1.trans f2).trans f', s'⟩⟩
      exact eb.run { Dd with nx := N, ct := N, bk := Dd.nx } G2 H2 S2 σV1 σ1 _ ⟨nn, eo2.rt, eo2.nx, nn, eo2.ex⟩ k2 (s1.mono f2.g) hb
  | false =>
    rw [if_neg Bool.false_ne_true] at hd ⊢
    exact eo2.nx.go σ1 S2 G2 H2 σV1 hd k2 (.refl _ _ _) (s1.mono f2.g)
/-- what a for walks: the items -/
abbrev DTI := DEr → DSt → Sto → (List D → Sto → Prop) → Prop
/-- J walks the items xs from the world (G, H, S) on -/
structure Wlk (K : PySem.W.Frag) (J : It) (xs : List D) (G H : Hp) (S : Sto) (Gd : Hp → Prop) (Y : Nat → Hp → V → Hp → Prop) : Prop where
  walk : Walk J xs.length Gd Y
  stay : ∀ G2 H2 S2, Wok K G2 H2 S2 → Fr G H S G2 H2 S2 → Gd H2
  item : ∀ i G2 H2 S2 H3 v, i < xs.length → Y i H2 v H3 → Wok K G2 H2 S2 → Fr G H S G2 H2 S2 → ∃ G3 d, xs[i]? = some d ∧ Wok K G3 H3 S2 ∧ Fr G2 H2 S2 G3 H3 S2 ∧ Rep K G3 v d
structure EvI (K : PySem.W.Frag) (W : WX) (t : TI) (r : DTI) : Prop where
  run : ∀ (E : DEr) (G H : Hp) (S : Sto) (σV : L2.St) (σ : DSt) (Q : List D → Sto → Prop) (R : It → Hp → Prop), WOk K W E σV G H S → Wok K G H S → Sl K G σV σ → r E σ S Q →
    (∀ xs S' G' H' J Gd Y, Q xs S' → Wok K G' H' S' → Fr G H S G' H' S' → Wlk K J xs G' H' S' Gd Y → R J H') → t σV H R
def DI (X : Cx) (W : WX) (tg iter : Expr) (r : DTI) : Prop := ∃ t, PI X tg iter t ∧ EvI X.K W t r
def dLoop (g : DTG) (rb : DTS) (Z : DEnds) : List D → DSt → Sto → Prop
  | [], σ, S => Z.nx σ S
  | x :: xs, σ, S => g x σ S fun σ' S' => rb { Z with nx := dLoop g rb Z xs, ct := dLoop g rb Z xs, bk := Z.nx } σ' S'
def dFor (ri : DTI) (g : DTG) (rb : DTS) : DTS := fun Z σ S => ri (exOf Z σ) σ S fun xs S1 => dLoop g rb Z xs σ S1
theorem ds_for {tg iter : Expr} {body : List Stmt} {ri : DTI} {js : List Nat} (hp : PassesOwn (model X.prog X.w) X.A X.env X.xe) (hc : X.calm = true) (hi : DI X W tg iter ri) (hg : DG X tg js g) (hb : DSs X W body r1) (hs : ∀ x, foldedSetIterable iter X.env x = pure x := by intro _; rfl) :
    DS X W (.For tg iter body [] pos) (dFor ri g r1) := by
  obtain ⟨ti, pi, ei⟩ := hi
  obtain ⟨tg', pg, eg⟩ := hg
  obtain ⟨tb, pb, eb⟩ := hb
  refine ⟨_, ps_for hp hc pi pg pb hs, ⟨fun Dd G H S σV σ Dh eo k s h => ?_⟩⟩
  refine ei.run _ G H S σV σ _ _ (eo.wok s) k s h fun xs S1 G1 H1 J Gd Y hd k1 f1 wl => ?_
  have eo1 := eo.mono f1
  refine for_it wl.walk (fun i σV' H' => ∃ G' S' σ', dLoop g r1 Dd (xs.drop i) σ' S' ∧ Wok X.K G' H' S' ∧ Fr G1 H1 S1 G' H' S' ∧ Sl X.K G' σV' σ') ⟨G1, S1, σ, hd, k1, .refl _ _ _, s.mono f1.g⟩ (fun i σV' H' _ hP => ?_) (fun i x σV' H' H3 hi hP hY => ?_) fun σV' H' hP => ?_
  · obtain ⟨G', S', σ', _, k', f', _⟩ := hP
    exact wl.stay G' H' S' k' f'
  · obtain ⟨G', S', σ', hl, k', f', s'⟩ := hP
    obtain ⟨G3, d, hx, k3, f3, r3⟩ := wl.item i G' H' S' H3 x hi hY k' f'
    have ed : xs.drop i = d :: xs.drop (i + 1) := by
      rw [List.getElem?_eq_getElem hi] at hx
      cases hx
      exact List.drop_eq_getElem_cons hi
    rw [ed] at hl
    have eo3 := eo1.mono (f'.trans f3)
    have nn : ∀ G2 H2 S2, Fr G1 H1 S1 G2 H2 S2 → NOk X.K (dLoop g r1 Dd (xs.drop (i + 1))) G2 H2 S2 (fun σV' H' => ∃ G' S' σ', dLoop g r1 Dd (xs.drop (i + 1)) σ' S' ∧ Wok X.K G' H' S' ∧ Fr G1 H1 S1 G' H' S' ∧ Sl X.K G' σV' σ') :=
      fun G2 H2 S2 f2 => ⟨fun σ4 S4 G4 H4 σV4 q k4 f4 s4 => ⟨G4, S4, σ4, q, k4, f2.trans f4, s4⟩⟩
    refine eg.run G3 H3 S' σV' σ' d x _ _ k3 (s'.mono f3.g) r3 hl ⟨fun σ4 S4 G4 H4 σV4 q k4 f4 s4 _ => ?_⟩
    have eo4 := eo3.mono f4
    have n4 := nn G4 H4 S4 ((f'.trans f3).trans f4)
    exact eb.run { Dd with nx := dLoop g r1 Dd (xs.drop (i + 1)), ct := dLoop g r1 Dd (xs.drop (i + 1)), bk := Dd.nx } G4 H4 S4 σV4 σ4 _ ⟨n4, eo4.rt, eo4.nx, n4, eo4.ex⟩ k4 s4 q
  · obtain ⟨G', S', σ', hl, k', f', s'⟩ := hP
    rw [List.drop_length] at hl
    exact eo1.nx.go σ' S' G' H' σV' hl k' f' s'
end
end KD

set_option maxRecDepth 100000
set_option maxHeartbeats 4000000
/-! Kd3: what is walked, comprehensions, the rule of a def. -/
namespace KD
open PySem PySem.Spec PyProof.Rows L2
/-! ### readings by data alone -/
def hE (K : PySem.W.Frag) (W : WX) (r : DTE) : TE := fun σV H P => ∃ (E : DEr) (G : Hp) (S : Sto) (σ : DSt) (Q : DK), WOk K W E σV G H S ∧ Wok K G H S ∧ Sl K G σV σ ∧ r E σ S Q ∧
  ∀ d S' G' H' v, Q d S' → Wok K G' H' S' → Fr G H S G' H' S' → Rep K G' v d → P v H'
def hT (K : PySem.W.Frag) (W : WX) (r : DTT) : TT := fun σV H P => ∃ (E : DEr) (G : Hp) (S : Sto) (σ : DSt) (Q : Bool → Sto → Prop), WOk K W E σV G H S ∧ Wok K G H S ∧ Sl K G σV σ ∧ r E σ S Q ∧
  ∀ b S' G' H', Q b S' → Wok K G' H' S' → Fr G H S G' H' S' → P b H'
def hG (K : PySem.W.Frag) (js : List Nat) (r : DTG) : TG := fun v σV H M => ∃ (G : Hp) (S : Sto) (σ : DSt) (d : D) (N : DSt → Sto → Prop), Wok K G H S ∧ Sl K G σV σ ∧ Rep K G v d ∧ r d σ S N ∧ NOkJ K js σV N G H S M
theorem evE (K : PySem.W.Frag) (W : WX) (r : DTE) : EvD K W (hE K W r) r := ⟨fun E G H S σV σ Q P w k s h p => ⟨E, G, S, σ, Q, w, k, s, h, p⟩⟩
theorem evT (K : PySem.W.Frag) (W : WX) (r : DTT) : EvT K W (hT K W r) r := ⟨fun E G H S σV σ Q P w k s h p => ⟨E, G, S, σ, Q, w, k, s, h, p⟩⟩
theorem evG (K : PySem.W.Frag) (js : List Nat) (r : DTG) : EvG K js (hG K js r) r := ⟨fun G H S σV σ d v N M k s q h n => ⟨G, S, σ, d, N, k, s, q, h, n⟩⟩
def DTs (X : Cx) (W : WX) (ifs : List Expr) (r : DTT) : Prop := ∃ t, PTs X ifs t ∧ EvT X.K W t r
section
variable {X : Cx} {W : WX} {K : PySem.W.Frag} {e c : Expr} {re : DTE} {rt : DTT} {g : DTG} {js : List Nat} {pos : Pos} {tg : Expr}
theorem DE.can (h : DE X W e re) : PE X e (hE X.K W re) := by
  obtain ⟨t, p, q⟩ := h
  exact ⟨fun pins s σ H Q I ⟨E, G, S, σ', Q', w, k, sl, hr, f⟩ => p.run pins s σ H Q I (q.run E G H S σ σ' Q' Q w k sl hr f)⟩
theorem DTs.can {ifs : List Expr} (h : DTs X W ifs rt) : PTs X ifs (hT X.K W rt) := by
  obtain ⟨t, p, q⟩ := h
  exact ⟨fun pins s σ H Q I ⟨E, G, S, σ', Q', w, k, sl, hr, f⟩ => p.run pins s σ H Q I (q.run E G H S σ σ' Q' Q w k sl hr f)⟩
theorem DG.can (h : DG X tg js g) : PG X tg (hG X.K js g) := by
  obtain ⟨t, p, q⟩ := h
  exact ⟨fun pins s σ H v u M I r ⟨G, S, σ', d, N, k, sl, rp, hr, n⟩ => p.run pins s σ H v u M I r (q.run G H S σ σ' d v N M k sl rp hr n)⟩
def dYes : DTT := fun _ _ S Q => Q true S
theorem dts_nil : DTs X W [] dYes := ⟨_, pts_nil, ⟨fun E G H S σV σ Q P w k s h p => p true S G H h k (.refl _ _ _)⟩⟩
theorem dts_one (h : DT X W c rt) : DTs X W [c] rt := let ⟨_, p, q⟩ := h; ⟨_, pts_one p, q⟩
end
/-! ### comprehensions -/
def dwipe (σ : DSt) : List Nat → DSt
  | [] => σ
  | v :: vs => (dwipe σ vs).set v none
theorem Sl.wipe {K : PySem.W.Frag} {G : Hp} {σV : L2.St} {σ : DSt} (s : Sl K G σV σ) : ∀ vs : List Nat, Sl K G (L2.wipe σV vs) (dwipe σ vs)
  | [] => s
  | v :: vs => (Sl.wipe s vs).unset v
theorem wipe_get (σ : L2.St) (i : Nat) : ∀ vs : List Nat, (L2.wipe σ vs)[i]? = if i ∈ vs ∧ i < σ.length then some none else σ[i]?
  | [] => by simp [L2.wipe]
  | v :: vs => by
    unfold L2.wipe
    have ih := wipe_get σ i vs
    by_cases h : v = i
    · subst h
      by_cases hl : v < σ.length
      · rw [List.getElem?_set_self (by rw [L2.wipe_length]; exact hl), if_pos ⟨List.mem_cons_self, hl⟩]
      · rw [List.getElem?_eq_none (by rw [List.length_set, L2.wipe_length]; omega), if_neg (fun q => hl q.2), List.getElem?_eq_none (by omega)]
    · rw [List.getElem?_set_ne h, ih]
      have e : i ∈ v :: vs ↔ i ∈ vs := by
        rw [List.mem_cons]
        exact ⟨fun q => q.resolve_left fun z => h z.symm, .inr⟩
      simp only [e]
theorem wipe_agr {σ σ2 : L2.St} {js vs : List Nat} (a : Agr js (L2.wipe σ vs) σ2) (hj : ∀ j ∈ js, j ∈ vs) : L2.wipe σ2 vs = L2.wipe σ vs := by
  apply List.ext_getElem?
  intro i
  have l : σ2.length = σ.length := by rw [a.len, L2.wipe_length]
  rw [wipe_get, wipe_get, l]
  by_cases h : i ∈ vs ∧ i < σ.length
  · rw [if_pos h, if_pos h]
  · rw [if_neg h, if_neg h]
    by_cases hv : i ∈ vs
    · have hl : ¬ i < σ.length := fun q => h ⟨hv, q⟩
      rw [List.getElem?_eq_none (by omega), List.getElem?_eq_none (by omega)]
    · rw [a.at_ i (fun q => hv (hj i q)), wipe_get, if_neg h]
abbrev W0 : WX := fun _ _ _ _ => False
abbrev DE0 : DEr := fun _ _ _ => False
theorem WOk.none {K : PySem.W.Frag} {σV : L2.St} {G H : Hp} {S : Sto} : WOk K W0 DE0 σV G H S := ⟨fun _ _ _ _ _ h => h.elim⟩
def dLcGo (g : DTG) (rt : DTT) (re : DTE) (σ : DSt) (Q : List D → Sto → Prop) : List D → Sto → List D → Prop
  | [], S, acc => Q acc S
  | x :: xs, S, acc => g x σ S fun σ2 S2 => rt DE0 σ2 S2 fun b S3 => if b = true then re DE0 σ2 S3 fun y S4 => acc.length < sizeLine ∧ dLcGo g rt re σ Q xs S4 (acc ++ [y]) else dLcGo g rt re σ Q xs S3 acc
def dLcL (ri : DTI) (g : DTG) (rt : DTT) (re : DTE) (vs : List Nat) (E : DEr) (σ : DSt) (S : Sto) (Q : List D → Sto → Prop) : Prop := ri E σ S fun xs S1 => dLcGo g rt re (dwipe σ vs) Q xs S1 []
def dLc (ri : DTI) (g : DTG) (rt : DTT) (re : DTE) (vs : List Nat) : DTE := fun E σ S Q => dLcL ri g rt re vs E σ S fun acc S2 => Q (.lst acc) S2
/-- the new list will change -/
def dLcM (ri : DTI) (g : DTG) (rt : DTT) (re : DTE) (vs : List Nat) : DTE := fun E σ S Q => dLcL ri g rt re vs E σ S fun acc S2 => ∀ p, S2 p = none → Q (.ref p) (put S2 p (.lst acc))
section
variable {K : PySem.W.Frag} {W : WX}
theorem ev_lcL {ti : TI} {ri : DTI} {g : DTG} {rt : DTT} {re : DTE} {vs js : List Nat} (ei : EvI K W ti ri) (hj : ∀ j ∈ js, j ∈ vs) {E : DEr} {G H : Hp} {S : Sto} {σV : L2.St} {σ : DSt} {Q : List D → Sto → Prop} {P : VK}
    (w : WOk K W E σV G H S) (k : Wok K G H S) (s : Sl K G σV σ) (h : dLcL ri g rt re vs E σ S Q)
    (p : ∀ p acc accV S' G' H', Q acc S' → Wok K G' H' S' → Ex G G' → (∀ a o, H a = some o → G a = none → S a = none → a ≠ p ∧ H' a = some o ∧ G' a = none ∧ S' a = none) → H' p = some (.lst accV) → G' p = none → S' p = none → RepL K G' accV acc → P (.ref p) H') :
    tLc ti (hG K js g) (hT K W0 rt) (hE K W0 re) vs σV H P := by
  refine ei.run E G H S σV σ _ _ w k s h fun xs S1 G1 H1 J Gd Y hd k1 f1 wl D hD => ?_
  have hDa : ∀ a o, H1 a = some o → a ≠ D := fun a o e z => by rw [z, hD] at e; cases e
  refine lc_it wl.walk (fun i H' => ∃ G' S' accV acc, dLcGo g rt re (dwipe σ vs) Q (xs.drop i) S' acc ∧ Wok K G' H' S' ∧ Fr G1 H1 S1 G' H' S' ∧ H' D = some (.lst accV) ∧ G' D = none ∧ S' D = none ∧ RepL K G' accV acc) ?_ (fun i H' _ hP => ?_) (fun i x H' H3 hi hP hY => ?_) fun H' hP => ?_
  · obtain ⟨k2, f2⟩ := k1.newH (o := .lst []) hD
    exact ⟨G1, S1, [], [], hd, k2, f2, upd_same, k1.freeG hD, k1.freeS hD, .nil⟩
  · obtain ⟨G', S', accV, acc, _, k', f', _⟩ := hP
    exact wl.stay G' H' S' k' f'
  · obtain ⟨G', S', accV, acc, hl, k', f', hp, gp, sp, ra⟩ := hP
    obtain ⟨G3, d, hx, k3, f3, r3⟩ := wl.item i G' H' S' H3 x hi hY k' f'
    obtain ⟨hp3, gp3, sp3⟩ := f3.fr D _ hp gp sp
    have ed : xs.drop i = d :: xs.drop (i + 1) := by
      rw [List.getElem?_eq_getElem hi] at hx
      cases hx
      exact List.drop_eq_getElem_cons hi
    rw [ed] at hl
    refine (evG K js g).run G3 H3 S' (L2.wipe σV vs) (dwipe σ vs) d x _ _ k3 ((s.mono ((f1.trans f').trans f3).g).wipe vs) r3 hl ⟨fun σ4 S4 G4 H4 σV4 q k4 f4 s4 ag => ⟨wipe_agr ag hj, ?_⟩⟩
    refine (evT K W0 rt).run DE0 G4 H4 S4 σV4 σ4 _ _ .none k4 s4 q fun b S5 G5 H5 q5 k5 f5 => ?_
    have f35 := (f3.trans f4).trans f5
    cases b with
    | true =>
      rw [if_pos rfl] at q5 ⊢
      refine (evE K W0 re).run DE0 G5 H5 S5 σV4 σ4 _ _ .none k5 (s4.mono f5.g) q5 fun y S6 G6 H6 v q6 k6 f6 r6 => ?_
      have f36 := f35.trans f6
      obtain ⟨hp6, gp6, sp6⟩ := f36.fr D _ hp gp sp
      refine ⟨accV, hp6, by rw [ra.length]; exact q6.1, G6, S6, accV ++ [v], acc ++ [y], q6.2, k6.hid gp6 sp6, ⟨(f'.trans f36).g, fun a o e g s => ?_⟩, upd_same, gp6, sp6, (ra.mono f36.g).append (.one r6)⟩
      obtain ⟨h1, h2, h3⟩ := (f'.trans f36).fr a o e g s
      exact ⟨by rw [upd_ne (hDa a o e)]; exact h1, h2, h3⟩
    | false =>
      rw [if_neg Bool.false_ne_true] at q5 ⊢
      obtain ⟨hp5, gp5, sp5⟩ := f35.fr D _ hp gp sp
      exact ⟨G5, S5, accV, acc, q5, k5, f'.trans f35, hp5, gp5, sp5, ra.mono f35.g⟩
  · obtain ⟨G', S', accV, acc, hl, k', f', hp, gp, sp, ra⟩ := hP
    rw [List.drop_length] at hl
    refine p D acc accV S' G' H' hl k' (f1.trans f').g (fun a o e g s => ?_) hp gp sp ra
    obtain ⟨h1, h2, h3⟩ := f1.fr a o e g s
    obtain ⟨h4, h5, h6⟩ := f'.fr a o h1 h2 h3
    exact ⟨hDa a o h1, h4, h5, h6⟩
theorem ev_lc {ti : TI} {ri : DTI} {g : DTG} {rt : DTT} {re : DTE} {vs js : List Nat} (ei : EvI K W ti ri) (hj : ∀ j ∈ js, j ∈ vs) : EvD K W (tLc ti (hG K js g) (hT K W0 rt) (hE K W0 re) vs) (dLc ri g rt re vs) :=
  ⟨fun E G H S σV σ Q P w k s h p => ev_lcL ei hj w k s h fun q acc accV S' G' H' hq k' e fr hp gp sp ra => by
    have eg : Ex G' (upd G' q (.lst accV)) := Evl.Ex.new gp
    exact p _ S' _ H' _ hq (k'.show hp sp) ⟨e.trans eg, fun a o e g s => let ⟨n, h1, h2, h3⟩ := fr a o e g s; ⟨h1, by rw [upd_ne n]; exact h2, h3⟩⟩ (.lst upd_same (ra.mono eg))⟩
theorem ev_lcM {ti : TI} {ri : DTI} {g : DTG} {rt : DTT} {re : DTE} {vs js : List Nat} (ei : EvI K W ti ri) (hj : ∀ j ∈ js, j ∈ vs) : EvD K W (tLc ti (hG K js g) (hT K W0 rt) (hE K W0 re) vs) (dLcM ri g rt re vs) :=
  ⟨fun E G H S σV σ Q P w k s h p => ev_lcL ei hj w k s h fun q acc accV S' G' H' hq k' e fr hp gp sp ra => by
    refine p _ (put S' q (.lst acc)) G' H' _ (hq q sp) ⟨k'.ext, fun b m hb => ?_⟩ ⟨e, fun a o e g s => let ⟨n, h1, h2, h3⟩ := fr a o e g s; ⟨h1, h2, by rw [put_ne n]; exact h3⟩⟩ (.ref q)
    by_cases c : b = q
    · subst c; rw [put_same] at hb; cases hb; exact ⟨gp, accV, hp, ra⟩
    · rw [put_ne c] at hb; exact k'.sto b m hb⟩
end
section
variable {X : Cx} {W : WX} {elt tg iter : Expr} {ifs : List Expr} {scope : Scope} {own : List (Str × Nat)} {pos : Pos} {ri : DTI} {g : DTG} {rt : DTT} {re : DTE} {js : List Nat}
theorem de_lc (hc : X.calm = true) (hN : X.N.Nodup) (hi : DI X W tg iter ri) {vs : List Nat} (ok : BlkOk X.N X.env.scope scope own)
    (hg : ∀ (s : Shared) (H : Hp) (C : Addr) (cl : List (Str × Addr)) (fp : List Addr), DG (X.blk s H scope (compEnvC scope cl C X.env) fp) tg js g) (ht : ∀ (s : Shared) (H : Hp) (C : Addr) (cl : List (Str × Addr)) (fp : List Addr), DTs (X.blk s H scope (compEnvC scope cl C X.env) fp) W0 ifs rt)
    (he : ∀ (s : Shared) (H : Hp) (C : Addr) (cl : List (Str × Addr)) (fp : List Addr), DE (X.blk s H scope (compEnvC scope cl C X.env) fp) W0 elt re) (hv : own.map (·.2) = vs) (hj : ∀ j ∈ js, j ∈ vs) (hs : ∀ x, foldedSetIterable iter X.env x = pure x := by intro _; rfl) :
    DE X W (.ListComp elt [⟨tg, iter, ifs, 0⟩] scope pos) (dLc ri g rt re vs) := by
  subst hv
  obtain ⟨ti, pi, ei⟩ := hi
  exact ⟨_, pe_lc (te := hE X.K W0 re) (g := hG X.K js g) (tt := hT X.K W0 rt) hc hN pi ok (fun s H C cl fp => (hg s H C cl fp).can) (fun s H C cl fp => (ht s H C cl fp).can) (fun s H C cl fp => (he s H C cl fp).can) hs, ev_lc ei hj⟩
theorem de_lcM (hc : X.calm = true) (hN : X.N.Nodup) (hi : DI X W tg iter ri) {vs : List Nat} (ok : BlkOk X.N X.env.scope scope own)
    (hg : ∀ (s : Shared) (H : Hp) (C : Addr) (cl : List (Str × Addr)) (fp : List Addr), DG (X.blk s H scope (compEnvC scope cl C X.env) fp) tg js g) (ht : ∀ (s : Shared) (H : Hp) (C : Addr) (cl : List (Str × Addr)) (fp : List Addr), DTs (X.blk s H scope (compEnvC scope cl C X.env) fp) W0 ifs rt)
    (he : ∀ (s : Shared) (H : Hp) (C : Addr) (cl : List (Str × Addr)) (fp : List Addr), DE (X.blk s H scope (compEnvC scope cl C X.env) fp) W0 elt re) (hv : own.map (·.2) = vs) (hj : ∀ j ∈ js, j ∈ vs) (hs : ∀ x, foldedSetIterable iter X.env x = pure x := by intro _; rfl) :
    DE X W (.ListComp elt [⟨tg, iter, ifs, 0⟩] scope pos) (dLcM ri g rt re vs) := by
  subst hv
  obtain ⟨ti, pi, ei⟩ := hi
  exact ⟨_, pe_lc (te := hE X.K W0 re) (g := hG X.K js g) (tt := hT X.K W0 rt) hc hN pi ok (fun s H C cl fp => (hg s H C cl fp).can) (fun s H C cl fp => (ht s H C cl fp).can) (fun s H C cl fp => (he s H C cl fp).can) hs, ev_lcM ei hj⟩
/-- y = [..], y a local -/
theorem ds_setLc {i : Nat} {y : Str} {py spos : Pos} (hc : X.calm = true) (hN : X.N.Nodup) (hy : X.N[i]? = some y) (hyl : X.env.scope.names.lookup y = some .local) (hsw : swapsWith (.ListComp elt [⟨tg, iter, ifs, 0⟩] scope pos) (some (.Name y py)) spos.line X.env = pure true) (hi : DI X W tg iter ri) {vs : List Nat} (ok : BlkOk X.N X.env.scope scope own)
    (hg : ∀ (s : Shared) (H : Hp) (C : Addr) (cl : List (Str × Addr)) (fp : List Addr), DG (X.blk s H scope (compEnvC scope cl C X.env) fp) tg js g) (ht : ∀ (s : Shared) (H : Hp) (C : Addr) (cl : List (Str × Addr)) (fp : List Addr), DTs (X.blk s H scope (compEnvC scope cl C X.env) fp) W0 ifs rt)
    (he : ∀ (s : Shared) (H : Hp) (C : Addr) (cl : List (Str × Addr)) (fp : List Addr), DE (X.blk s H scope (compEnvC scope cl C X.env) fp) W0 elt re) (hv : own.map (·.2) = vs) (hj : ∀ j ∈ js, j ∈ vs) (hs : ∀ x, foldedSetIterable iter X.env x = pure x := by intro _; rfl) :
    DS X W (.Assign [.Name y py] (.ListComp elt [⟨tg, iter, ifs, 0⟩] scope pos) spos) (dAsg (dLc ri g rt re vs) (dgName i)) := by
  subst hv
  obtain ⟨ti, pi, ei⟩ := hi
  refine ⟨_, ps_setLc (te := hE X.K W0 re) (g := hG X.K js g) (tt := hT X.K W0 rt) hc hN hy hyl hsw pi ok (fun s H C cl fp => (hg s H C cl fp).can) (fun s H C cl fp => (ht s H C cl fp).can) (fun s H C cl fp => (he s H C cl fp).can) hs, ⟨fun Dd G H S σV σ Dh eo k s h => ?_⟩⟩
  exact (ev_lc ei hj).run _ G H S σV σ _ _ (eo.wok s) k s h fun d S' G' H' v hd k' f r => eo.nx.go _ S' G' H' _ hd k' f ((s.mono f.g).set i r)
theorem ds_setLcM {i : Nat} {y : Str} {py spos : Pos} (hc : X.calm = true) (hN : X.N.Nodup) (hy : X.N[i]? = some y) (hyl : X.env.scope.names.lookup y = some .local) (hsw : swapsWith (.ListComp elt [⟨tg, iter, ifs, 0⟩] scope pos) (some (.Name y py)) spos.line X.env = pure true) (hi : DI X W tg iter ri) {vs : List Nat} (ok : BlkOk X.N X.env.scope scope own)
    (hg : ∀ (s : Shared) (H : Hp) (C : Addr) (cl : List (Str × Addr)) (fp : List Addr), DG (X.blk s H scope (compEnvC scope cl C X.env) fp) tg js g) (ht : ∀ (s : Shared) (H : Hp) (C : Addr) (cl : List (Str × Addr)) (fp : List Addr), DTs (X.blk s H scope (compEnvC scope cl C X.env) fp) W0 ifs rt)
    (he : ∀ (s : Shared) (H : Hp) (C : Addr) (cl : List (Str × Addr)) (fp : List Addr), DE (X.blk s H scope (compEnvC scope cl C X.env) fp) W0 elt re) (hv : own.map (·.2) = vs) (hj : ∀ j ∈ js, j ∈ vs) (hs : ∀ x, foldedSetIterable iter X.env x = pure x := by intro _; rfl) :
    DS X W (.Assign [.Name y py] (.ListComp elt [⟨tg, iter, ifs, 0⟩] scope pos) spos) (dAsg (dLcM ri g rt re vs) (dgName i)) := by
  subst hv
  obtain ⟨ti, pi, ei⟩ := hi
  refine ⟨_, ps_setLc (te := hE X.K W0 re) (g := hG X.K js g) (tt := hT X.K W0 rt) hc hN hy hyl hsw pi ok (fun s H C cl fp => (hg s H C cl fp).can) (fun s H C cl fp => (ht s H C cl fp).can) (fun s H C cl fp => (he s H C cl fp).can) hs, ⟨fun Dd G H S σV σ Dh eo k s h => ?_⟩⟩
  exact (ev_lcM ei hj).run _ G H S σV σ _ _ (eo.wok s) k s h fun d S' G' H' v hd k' f r => eo.nx.go _ S' G' H' _ hd k' f ((s.mono f.g).set i r)
end
/-! ### the rule of a def -/
def dstart (N : List Str) (ds : List D) : DSt := ds.map some ++ List.replicate (N.length - ds.length) none
def dends (Q : DK) (E : DEr) : DEnds := ⟨fun _ S => Q .non S, Q, fun _ _ => False, fun _ _ => False, fun C d _ S => E C d S⟩
theorem sl_start {K : PySem.W.Frag} {G : Hp} {N : List Str} {vs : List V} {ds : List D} (r : RepL K G vs ds) : Sl K G (L2.start N vs) (dstart N ds) := by
  have l := r.length
  refine ⟨by simp [L2.start, dstart, l], fun i d h => ?_⟩
  unfold dstart at h
  unfold L2.start
  by_cases c : i < ds.length
  · rw [List.getElem?_append_left (by simpa using c), List.getElem?_map] at h
    rw [List.getElem?_append_left (by simp [l]; exact c), List.getElem?_map]
    cases q : ds[i]? with
    | none => rw [q] at h; cases h
    | some d' =>
      rw [q] at h; cases h
      obtain ⟨v, h1, h2⟩ := r.get q
      exact ⟨v, by rw [h1]; rfl, h2⟩
  · rw [List.getElem?_append_right (by simp; omega)] at h
    have := List.mem_of_getElem? h
    rw [List.mem_replicate] at this
    cases this.2
section
variable {P : Program} {w : World} {K : PySem.W.Frag} {mg : Str → Option Value} {base : Heap}
theorem okD {x qual : Str} {st : Stmt} {f : Addr} {fd : FuncData} {N ps : List Str} {k : Nat} {sp : DSp} (F : Fun K x qual st f fd) (Sc : FnScope N ps (defScope st)) (len : ∀ ds S Q E, sp ds S Q E → ds.length = ps.length)
    (hbody : ∀ (cdv : Value) (A : Around) (outer : List Env) (s : Shared) (H : Hp) (E : XK), Room k (A.deeper (envOfC qual (defScope st) s.heap.objs.size f cdv)) →
      ∃ r, DSs (cxOf (L2.CX P w) P w K mg base N qual (defScope st) f cdv A outer s H E) (fun cls d _ H' => E cls d H') (defBody st) r ∧ ∀ ds S Q E', sp ds S Q E' → r (dends Q E') (dstart N ds) S) :
    FnOk P w K mg base (L2.CX P w) (k + 1) f fd ps (lift K sp) := by
  refine F.okX Sc (fun vs H Q E h => ?_) fun cdv A outer s H vs Q E hr hsp => ?_
  · obtain ⟨G, S, ds, Qd, Ed, _, r, hs, _⟩ := h
    rw [r.length, len ds S Qd Ed hs]
  · obtain ⟨r, ⟨t, p, ev⟩, hpure⟩ := hbody cdv A outer s H E hr
    obtain ⟨G, S, ds, Qd, Ed, kk, rp, hs, hQ, hE⟩ := hsp
    refine ⟨t, p, ev.run (dends Qd Ed) G H S (L2.start N vs) (dstart N ds) _ ⟨⟨fun σ' S' G' H' σV' q k' f s' => hQ .non S' G' H' .non q k' f .non⟩, fun d S' G' H' v q k' f r' => hQ d S' G' H' v q k' f r', ⟨fun _ _ _ _ _ q => q.elim⟩, ⟨fun _ _ _ _ _ q => q.elim⟩, fun C d σ' S' G' H' σV' q k' f s' => hE C d S' G' H' q k' f⟩ kk (sl_start rp) (hpure ds S Qd Ed hs)⟩
end
end KD

set_option maxRecDepth 100000
set_option maxHeartbeats 4000000
/-! Kd4: operators, comparisons, subscripts, slices, built-ins. -/
namespace KD
open PySem PySem.Spec PyProof.Rows L2
section
variable {X : Cx} {W : WX} {K : PySem.W.Frag} {a b c e : Expr} {ra rb rc : DTE} {pos : Pos}
/-! ### ints -/
def dI0 (g : Int → Int → D) : D → D → Sto → DK → Prop := fun x y S Q => match x, y with
  | .int i, .int j => Q (g i j) S
  | _, _ => False
def dI (C : Int → Int → Prop) (g : Int → Int → D) : D → D → Sto → DK → Prop := fun x y S Q => match x, y with
  | .int i, .int j => C i j ∧ Q (g i j) S
  | _, _ => False
theorem rv_I {C : Int → Int → Prop} {g : Int → Int → V} {g' : Int → Int → D} (hg : ∀ i j G, Rep K G (g i j) (g' i j)) : RvD K (rI C g) (dI C g') := ⟨fun G H S x y v u Q P k r1 r2 h p => by
  unfold dI at h
  split at h
  · cases r1; cases r2
    exact ⟨_, _, rfl, rfl, h.1, p _ S G H _ h.2 k (.refl _ _ _) (hg _ _ G)⟩
  · exact h.elim⟩
theorem rv_I0 {g : Int → Int → V} {g' : Int → Int → D} (hg : ∀ i j G, Rep K G (g i j) (g' i j)) : RvD K (rI0 g) (dI0 g') := ⟨fun G H S x y v u Q P k r1 r2 h p => by
  unfold dI0 at h
  split at h
  · cases r1; cases r2
    exact ⟨_, _, rfl, rfl, p _ S G H _ h k (.refl _ _ _) (hg _ _ G)⟩
  · exact h.elim⟩
theorem op_mulK : OpR X (binaryOp .Mult) (rI IntMulOk fun i j => .int (i * j)) := opI fun _ _ _ _ _ _ _ hc q => mul_int q hc
def dSub := dI0 fun i j => .int (i - j)
theorem dop_sub : DOp X (binaryOp .Sub) dSub := ⟨_, op_sub, rv_I0 fun _ _ _ => .int _⟩
def dMod := dI (fun _ j => 0 < j) fun i j => .int (i % j)
theorem dop_mod : DOp X (binaryOp .Mod) dMod := ⟨_, op_mod, rv_I fun _ _ _ => .int _⟩
def dFdiv := dI CDivW fun i j => .int (i / j)
theorem dop_fdiv : DOp X (binaryOp .FloorDiv) dFdiv := ⟨_, op_fdivW, rv_I fun _ _ _ => .int _⟩
def dPow := dI CPow fun i j => .int (i ^ j.toNat)
theorem dop_pow : DOp X (binaryOp .Pow) dPow := ⟨_, op_pow, rv_I fun _ _ _ => .int _⟩
def dXor := dI0 fun i j => .int (Builtin.bitXor i j)
theorem dop_xor : DOp X (binaryOp .BitXor) dXor := ⟨_, op_xor, rv_I0 fun _ _ _ => .int _⟩
def dMulI := dI IntMulOk fun i j => .int (i * j)
theorem dop_mulI : DOp X (binaryOp .Mult) dMulI := ⟨_, op_mulK, rv_I fun _ _ _ => .int _⟩
def dAddI := dI0 fun i j => .int (i + j)
theorem dop_addI : DOp X (binaryOp .Add) dAddI := ⟨_, op_add, rv_I0 fun _ _ _ => .int _⟩
def dLt := dI0 fun i j => .bl (decide (i < j))
theorem dop_lt : DOp X (compareOp .Lt) dLt := ⟨_, op_lt, rv_I0 fun _ _ _ => .bl _⟩
def dLe := dI0 fun i j => .bl (decide (i ≤ j))
theorem dop_le : DOp X (compareOp .LtE) dLe := ⟨_, op_le, rv_I0 fun _ _ _ => .bl _⟩
def dGt := dI0 fun i j => .bl (decide (j < i))
theorem dop_gt : DOp X (compareOp .Gt) dGt := ⟨_, op_gt, rv_I0 fun _ _ _ => .bl _⟩
def dGe := dI0 fun i j => .bl (decide (j ≤ i))
theorem dop_ge : DOp X (compareOp .GtE) dGe := ⟨_, op_ge, rv_I0 fun _ _ _ => .bl _⟩
/-! ### + of anything, * of a sequence -/
def dAdd : D → D → Sto → DK → Prop := fun x y S Q => match vw S x, vw S y with
  | .int i, .int j => Q (.int (i + j)) S
  | .str i, .str j => i.length + j.length ≤ sizeLine ∧ Q (.str (i ++ j)) S
  | .lst xs, .lst ys => xs.length + ys.length ≤ sizeLine ∧ Q (.lst (xs ++ ys)) S
  | .tup xs, .tup ys => xs.length + ys.length ≤ sizeLine ∧ Q (.tup (xs ++ ys)) S
  | _, _ => False
theorem dop_add : DOp X (binaryOp .Add) dAdd := ⟨_, op_add.or (op_add_str.or (op_cat.or op_catA)), ⟨fun G H S x y v u Q P k r1 r2 h p => by
  unfold dAdd at h
  split at h
  · rename_i h1 h2
    rw [int_of r1 h1, int_of r2 h2]
    exact .inl ⟨_, _, rfl, rfl, p _ S G H _ h k (.refl _ _ _) (.int _)⟩
  · rename_i h1 h2
    rw [str_of r1 h1, str_of r2 h2]
    exact .inr (.inl ⟨_, _, rfl, rfl, h.1, p _ S G H _ h.2 k (.refl _ _ _) (.str _)⟩)
  · rename_i h1 h2
    obtain ⟨a1, vs, e1, q1, l1⟩ := seq_of k r1 h1
    obtain ⟨a2, us, e2, q2, l2⟩ := seq_of k r2 h2
    refine .inr (.inr (.inl ⟨a1, a2, vs, us, e1, e2, q1, q2, by rw [l1.length, l2.length]; exact h.1, fun q hq => ?_⟩))
    obtain ⟨k2, f2⟩ := k.newG (o := .lst (vs ++ us)) hq
    exact p _ S _ _ _ h.2 k2 f2 (.lst upd_same ((l1.append l2).mono f2.g))
  · rename_i h1 h2
    obtain ⟨a1, vs, e1, q1, l1, g1⟩ := tup_of k r1 h1
    obtain ⟨a2, us, e2, q2, l2, g2⟩ := tup_of k r2 h2
    refine .inr (.inr (.inr ⟨a1, a2, vs, us, e1, e2, q1.sq, q2.sq, by rw [l1.length, l2.length]; exact h.1, fun z => ?_, fun z1 z2 => ?_, fun _ _ q hq => ?_⟩))
    · subst z; cases l1
      exact p _ S G H _ h.2 k (.refl _ _ _) (.tup g2 l2)
    · subst z2; cases l2
      have h2 := h.2
      rw [List.append_nil] at h2
      exact p _ S G H _ h2 k (.refl _ _ _) (.tup g1 l1)
    · obtain ⟨k2, f2⟩ := k.newG (o := .tup (vs ++ us)) hq
      exact p _ S _ _ _ h.2 k2 f2 (.tup (.inl upd_same) ((l1.append l2).mono f2.g))
  · exact h.elim⟩⟩
theorem repl_rep {G : Hp} {vs : List V} {xs : List D} (h : RepL K G vs xs) : ∀ n : Nat, RepL K G (List.replicate n vs).flatten (List.replicate n xs).flatten
  | 0 => .nil
  | n + 1 => by
    rw [List.replicate_succ, List.replicate_succ, List.flatten_cons, List.flatten_cons]
    exact h.append (repl_rep h n)
def dRep : D → D → Sto → DK → Prop := fun x y S Q => match vw S x, y with
  | .lst xs, .int k => -(2 ^ 63) ≤ k ∧ k < 2 ^ 63 ∧ xs.length * k.toNat ≤ sizeLine ∧ Q (.lst (List.replicate k.toNat xs).flatten) S
  | .tup xs, .int k => xs ≠ [] ∧ 2 ≤ k ∧ k ≤ 1000 ∧ xs.length ≤ 1000 ∧ Q (.tup (List.replicate k.toNat xs).flatten) S
  | _, _ => False
theorem dop_rep : DOp X (binaryOp .Mult) dRep := ⟨_, op_rep.or op_repT, ⟨fun G H S x y v u Q P k r1 r2 h p => by
  unfold dRep at h
  split at h
  · rename_i h1
    cases r2
    obtain ⟨a1, vs, e1, q1, l1⟩ := seq_of k r1 h1
    refine .inl ⟨a1, _, vs, e1, rfl, q1, h.1, h.2.1, by rw [l1.length]; exact h.2.2.1, fun q hq => ?_⟩
    obtain ⟨k2, f2⟩ := k.newG (o := .lst (List.replicate _ vs).flatten) hq
    exact p _ S _ _ _ h.2.2.2 k2 f2 (.lst upd_same ((repl_rep l1 _).mono f2.g))
  · rename_i h1
    cases r2
    obtain ⟨a1, vs, e1, q1, l1, g1⟩ := tup_of k r1 h1
    obtain ⟨z1, z2, z3, z4, z5⟩ := h
    refine .inr ⟨a1, _, vs, e1, rfl, q1.sq, fun z => ?_, z2, z3, by rw [l1.length]; exact z4, fun q hq => ?_⟩
    · subst z; cases l1; exact z1 rfl
    · obtain ⟨k2, f2⟩ := k.newG (o := .tup (List.replicate _ vs).flatten) hq
      exact p _ S _ _ _ z5 k2 f2 (.tup (.inl upd_same) ((repl_rep l1 _).mono f2.g))
  · exact h.elim⟩⟩
/-! ### == -/
inductive Sc where
  | non | bl (b : Bool) | int (i : Int) | str (x : Str)
  deriving DecidableEq
def scOf : D → Option Sc
  | .non => some .non | .bl b => some (.bl b) | .int i => some (.int i) | .str x => some (.str x)
  | _ => none
def Sc.v : Sc → V
  | .non => .non | .bl b => .bl b | .int i => .int i | .str x => .str x
theorem sc_rep {G : Hp} {v : V} {d : D} {s : Sc} (r : Rep K G v d) (h : scOf d = some s) : v = s.v := by
  cases d <;> simp only [scOf, reduceCtorEq, Option.some.injEq] at h <;> (subst h; cases r; rfl)
theorem sc_dec (s t : Sc) : decide (s.v = t.v) = decide (s = t) := by
  by_cases h : s = t
  · subst h; simp
  · have : s.v ≠ t.v := fun e => h (by cases s <;> cases t <;> simp [Sc.v] at e <;> first | rfl | (subst e; rfl))
    simp [h, this]
/-- of scalars, no bool against an int -/
def dEqS : D → D → Sto → DK → Prop := fun x y S Q => match scOf x, scOf y with
  | some s, some t => scal s.v t.v = true ∧ Q (.bl (decide (s = t))) S
  | _, _ => False
def dNeS : D → D → Sto → DK → Prop := fun x y S Q => match scOf x, scOf y with
  | some s, some t => scal s.v t.v = true ∧ Q (.bl (!decide (s = t))) S
  | _, _ => False
theorem dop_eqS : DOp X (compareOp .Eq) dEqS := ⟨_, op_eq, ⟨fun G H S x y v u Q P k r1 r2 h p => by
  unfold dEqS at h
  split at h
  · rename_i h1 h2
    rw [sc_rep r1 h1, sc_rep r2 h2]
    exact ⟨h.1, by rw [sc_dec]; exact p _ S G H _ h.2 k (.refl _ _ _) (.bl _)⟩
  · exact h.elim⟩⟩
theorem dop_neS : DOp X (compareOp .NotEq) dNeS := ⟨_, op_ne, ⟨fun G H S x y v u Q P k r1 r2 h p => by
  unfold dNeS at h
  split at h
  · rename_i h1 h2
    rw [sc_rep r1 h1, sc_rep r2 h2]
    exact ⟨h.1, by rw [sc_dec]; exact p _ S G H _ h.2 k (.refl _ _ _) (.bl _)⟩
  · exact h.elim⟩⟩
/-- of two ints -/
def dEqI := dI0 fun i j => .bl (decide (i = j))
def dNeI := dI0 fun i j => .bl (!decide (i = j))
theorem dop_eqI : DOp X (compareOp .Eq) dEqI := ⟨_, op_eq, ⟨fun G H S x y v u Q P k r1 r2 h p => by
  unfold dEqI dI0 at h
  split at h
  · cases r1; cases r2
    refine ⟨rfl, ?_⟩
    rw [dec_int, Bool.beq_eq_decide_eq]
    exact p _ S G H _ h k (.refl _ _ _) (.bl _)
  · exact h.elim⟩⟩
theorem dop_neI : DOp X (compareOp .NotEq) dNeI := ⟨_, op_ne, ⟨fun G H S x y v u Q P k r1 r2 h p => by
  unfold dNeI dI0 at h
  split at h
  · cases r1; cases r2
    refine ⟨rfl, ?_⟩
    rw [dec_int, Bool.beq_eq_decide_eq]
    exact p _ S G H _ h k (.refl _ _ _) (.bl _)
  · exact h.elim⟩⟩
/-! of data -/
mutual
def toPy : D → Option PyData
  | .non => some .none
  | .bl b => some (.bool b)
  | .int i => some (.int i)
  | .str x => some (.str x)
  | .lst xs => (toPyL xs).map .list
  | .tup xs => (toPyL xs).map .tuple
  | _ => none
def toPyL : List D → Option (List PyData)
  | [] => some []
  | d :: ds => match toPy d, toPyL ds with
    | some p, some ps => some (p :: ps)
    | _, _ => none
end
mutual
theorem dp_of {G H : Hp} (e : Ex G H) : ∀ {d : D} {v : V} {p : PyData}, Rep K G v d → toPy d = some p → Dp K H v p
  | .non, _, _, r, h => by simp only [toPy, Option.some.injEq] at h; subst h; cases r; exact .non
  | .bl b, _, _, r, h => by simp only [toPy, Option.some.injEq] at h; subst h; cases r; exact .bl b
  | .int i, _, _, r, h => by simp only [toPy, Option.some.injEq] at h; subst h; cases r; exact .int i
  | .str x, _, _, r, h => by simp only [toPy, Option.some.injEq] at h; subst h; cases r; exact .str x
  | .lst xs, _, _, r, h => by
    simp only [toPy, Option.map_eq_some_iff] at h
    obtain ⟨ps, h1, rfl⟩ := h
    cases r with
    | lst q l => exact .lst (.of (e _ _ q)) (dp_ofL e l h1)
  | .tup xs, _, _, r, h => by
    simp only [toPy, Option.map_eq_some_iff] at h
    obtain ⟨ps, h1, rfl⟩ := h
    cases r with
    | tup q l => exact .tup (q.mono e).sq (dp_ofL e l h1)
  | .dic _, _, _, _, h => by simp [toPy] at h
  | .dit _, _, _, _, h => by simp [toPy] at h
  | .ref _, _, _, _, h => by simp [toPy] at h
  | .scr _, _, _, _, h => by simp [toPy] at h
  | .ty _, _, _, _, h => by simp [toPy] at h
theorem dp_ofL {G H : Hp} (e : Ex G H) : ∀ {ds : List D} {vs : List V} {ps : List PyData}, RepL K G vs ds → toPyL ds = some ps → DpAll K H vs ps
  | [], _, _, r, h => by simp only [toPyL, Option.some.injEq] at h; subst h; cases r; exact .nil
  | d :: ds, _, _, r, h => by
    simp only [toPyL] at h
    split at h
    · rename_i h1 h2
      simp only [Option.some.injEq] at h
      subst h
      cases r with
      | cons r1 r2 => exact .cons (dp_of e r1 h1) (dp_ofL e r2 h2)
    · cases h
end
theorem dp_vw {G H : Hp} {S : Sto} {d : D} {v : V} {p : PyData} (k : Wok K G H S) (r : Rep K G v d) (h : toPy (vw S d) = some p) : Dp K H v p := by
  unfold vw at h
  split at h
  · rename_i q
    split at h
    · rename_i xs hs
      simp only [toPy, Option.map_eq_some_iff] at h
      obtain ⟨ps, h1, rfl⟩ := h
      cases r
      obtain ⟨_, vs, h2, h3⟩ := k.sto q _ hs
      exact .lst (.of h2) (dp_ofL k.ext h3 h1)
    · simp [toPy] at h
    · simp [toPy] at h
    · simp [toPy] at h
  · exact dp_of k.ext r h
def dEq : D → D → Sto → DK → Prop := fun x y S Q => ∃ p q, toPy (vw S x) = some p ∧ toPy (vw S y) = some q ∧ SeqAt.shaped p = true ∧ SeqAt.shaped q = true ∧ Q (.bl (PyData.eqv p q)) S
def dNe : D → D → Sto → DK → Prop := fun x y S Q => ∃ p q, toPy (vw S x) = some p ∧ toPy (vw S y) = some q ∧ SeqAt.shaped p = true ∧ SeqAt.shaped q = true ∧ Q (.bl (!PyData.eqv p q)) S
theorem dop_eq (hu : X.A.units + 64 < cLine) : DOp X (compareOp .Eq) dEq := ⟨_, op_eqD hu, ⟨fun G H S x y v u Q P k r1 r2 ⟨p, q, h1, h2, h3, h4, h5⟩ f => ⟨p, q, dp_vw k r1 h1, dp_vw k r2 h2, h3, h4, f _ S G H _ h5 k (.refl _ _ _) (.bl _)⟩⟩⟩
theorem dop_ne (hu : X.A.units + 64 < cLine) : DOp X (compareOp .NotEq) dNe := ⟨_, op_neD hu, ⟨fun G H S x y v u Q P k r1 r2 ⟨p, q, h1, h2, h3, h4, h5⟩ f => ⟨p, q, dp_vw k r1 h1, dp_vw k r2 h2, h3, h4, f _ S G H _ h5 k (.refl _ _ _) (.bl _)⟩⟩⟩
/-! ### is None -/
def isNon : D → Bool
  | .non => true
  | _ => false
theorem non_rep {G : Hp} {v : V} {d : D} (r : Rep K G v d) : decide (v = .non) = isNon d := by cases r <;> rfl
def dIsN (ra : DTE) : DTE := fun E σ S Q => ra E σ S fun d S' => Q (.bl (isNon d)) S'
def dNotN (ra : DTE) : DTE := fun E σ S Q => ra E σ S fun d S' => Q (.bl (!isNon d)) S'
theorem de_isN {j pos'} (ha : DE X W a ra) : DE X W (.Compare a [.Is] [.Constant .none j pos'] pos) (dIsN ra) := by
  obtain ⟨t, p, q⟩ := ha
  exact ⟨_, pe_cmp (pc_isN p), ⟨fun E G H S σV σ Q P w k s h f => q.run E G H S σV σ _ _ w k s h fun d S' G' H' v hd k' g r => by
    rw [non_rep r]; exact f _ S' G' H' _ hd k' g (.bl _)⟩⟩
theorem de_notN {j pos'} (ha : DE X W a ra) : DE X W (.Compare a [.IsNot] [.Constant .none j pos'] pos) (dNotN ra) := by
  obtain ⟨t, p, q⟩ := ha
  exact ⟨_, pe_cmp (pc_notN p), ⟨fun E G H S σV σ Q P w k s h f => q.run E G H S σV σ _ _ w k s h fun d S' G' H' v hd k' g r => by
    rw [non_rep r]; exact f _ S' G' H' _ hd k' g (.bl _)⟩⟩
/-! ### chains -/
theorem de_chain {op op' : CmpOp} {q q' : D → D → Sto → DK → Prop} (ho : DOp X (compareOp op) q) (ho' : DOp X (compareOp op') q') (ha : DE X W a ra) (hb : DE X W b rb) (hc : DE X W c rc)
    (hm : lastMarks [op, op'] [b, c] = false := by rfl) : DE X W (.Compare a [op, op'] [b, c] pos) (dChain q q' ra rb rc) := by
  obtain ⟨ta, pa, ea⟩ := ha
  obtain ⟨tb, pb, eb⟩ := hb
  obtain ⟨tc, pc, ec⟩ := hc
  obtain ⟨r, o, eo⟩ := ho
  obtain ⟨r', o', eo'⟩ := ho'
  refine ⟨_, pe_chain o o' pa pb pc hm, ⟨fun E G H S σV σ Q P w k s h p => ?_⟩⟩
  refine ea.run E G H S σV σ _ _ w k s h fun x S1 G1 H1 v h1 k1 f1 r1 => ?_
  refine eb.run E G1 H1 S1 σV σ _ _ (w.mono f1) k1 (s.mono f1.g) h1 fun y S2 G2 H2 u h2 k2 f2 r2 => ?_
  have f12 := f1.trans f2
  refine eo.run G2 H2 S2 x y v u _ _ k2 (r1.mono f2.g) r2 h2 fun d S3 G3 H3 z h3 k3 f3 r3 => ?_
  have f13 := f12.trans f3
  cases d with
  | bl m =>
    cases r3
    refine ⟨m, rfl, ?_⟩
    cases m with
    | true =>
      rw [if_pos rfl]
      have h3 : rc E σ S3 fun z S4 => q' y z S4 Q := h3
      refine ec.run E G3 H3 S3 σV σ _ _ (w.mono f13) k3 (s.mono f13.g) h3 fun z S4 G4 H4 t h4 k4 f4 r4 => ?_
      exact eo'.run G4 H4 S4 y z u t _ _ k4 (r2.mono (f3.trans f4).g) r4 h4 fun d' S5 G5 H5 z' h5 k5 f5 r5 => p d' S5 G5 H5 z' h5 k5 ((f13.trans f4).trans f5) r5
    | false =>
      rw [if_neg Bool.false_ne_true]
      exact p _ S3 G3 H3 _ h3 k3 f13 (.bl _)
  | _ => exact h3.elim
/-! ### subscripts -/
def dIxS : D → D → Sto → DK → Prop := fun x y S Q => match vw S x, y with
  | .lst xs, .int i => ∃ d, atI xs i = some d ∧ Q d S
  | .tup xs, .int i => ∃ d, atI xs i = some d ∧ Q d S
  | .scr ns, .int i => ∃ n, atI ns i = some n ∧ Q (.int n) S
  | .str z, .int i => z.length ≤ sizeLine ∧ ∃ c, atI z.cps.toList i = some c ∧ Q (.str ⟨#[c]⟩) S
  | _, _ => False
theorem atI_rep {G : Hp} {vs : List V} {xs : List D} {i : Int} {d : D} (l : RepL K G vs xs) (h : atI xs i = some d) : ∃ v, atI vs i = some v ∧ Rep K G v d := by
  unfold atI at h ⊢
  rw [l.length]
  cases e : ixN xs.length i with
  | none => rw [e] at h; cases h
  | some j =>
    rw [e] at h
    obtain ⟨v, h1, h2⟩ := l.get (i := j) (by simpa using h)
    exact ⟨v, by simpa using h1, h2⟩
theorem scr_of {G : Hp} {S : Sto} {v : V} {d : D} {ns : List Int} (r : Rep K G v d) (h : vw S d = .scr ns) : ∃ a, v = .ref a ∧ SqL K G a (ns.map V.int) := by
  unfold vw at h
  split at h
  · split at h <;> cases h
  · subst h
    cases r with
    | scr h => exact ⟨_, rfl, h⟩
theorem atI_map {ns : List Int} {i : Int} {n : Int} (h : atI ns i = some n) : atI (ns.map V.int) i = some (.int n) := by
  unfold atI at h ⊢
  rw [List.length_map]
  cases e : ixN ns.length i with
  | none => rw [e] at h; cases h
  | some j =>
    rw [e] at h
    have h : ns[j]? = some n := h
    show (ns.map V.int)[j]? = _
    rw [List.getElem?_map, h]; rfl
theorem dix_seq : DIx X dIxS := ⟨_, ix_seq, ⟨fun G H S x y v u Q P k r1 r2 h p => by
  unfold dIxS at h
  split at h
  · rename_i h1
    obtain ⟨d, h2, h3⟩ := h
    cases r2
    obtain ⟨a1, vs, e1, q1, l1⟩ := seq_of k r1 h1
    obtain ⟨v', h4, h5⟩ := atI_rep l1 h2
    exact .inl ⟨a1, vs, _, v', e1, rfl, .of q1, h4, p _ S G H _ h3 k (.refl _ _ _) h5⟩
  · rename_i h1
    obtain ⟨d, h2, h3⟩ := h
    cases r2
    obtain ⟨a1, vs, e1, q1, l1, _⟩ := tup_of k r1 h1
    obtain ⟨v', h4, h5⟩ := atI_rep l1 h2
    exact .inr (.inl ⟨a1, vs, _, v', e1, rfl, q1.sq, h4, p _ S G H _ h3 k (.refl _ _ _) h5⟩)
  · rename_i h1
    obtain ⟨d, h2, h3⟩ := h
    cases r2
    obtain ⟨a1, e1, q1⟩ := scr_of r1 h1
    exact .inl ⟨a1, _, _, _, e1, rfl, Evl.ex_l k.ext q1, atI_map h2, p _ S G H _ h3 k (.refl _ _ _) (.int _)⟩
  · rename_i h1
    obtain ⟨h0, c, h2, h3⟩ := h
    cases r2
    rw [str_of r1 h1]
    exact .inr (.inr ⟨_, _, _, rfl, rfl, h0, h2, p _ S G H _ h3 k (.refl _ _ _) (.str _)⟩)
  · exact h.elim⟩⟩
/-! ### slices -/
abbrev DTO := DEr → DSt → Sto → (Option Int → Sto → Prop) → Prop
structure EvO (K : PySem.W.Frag) (W : WX) (t : TO) (r : DTO) : Prop where
  run : ∀ (E : DEr) (G H : Hp) (S : Sto) (σV : L2.St) (σ : DSt) (Q : Option Int → Sto → Prop) (P : Option Int → Hp → Prop), WOk K W E σV G H S → Wok K G H S → Sl K G σV σ → r E σ S Q →
    (∀ b S' G' H', Q b S' → Wok K G' H' S' → Fr G H S G' H' S' → P b H') → t σV H P
def DO (X : Cx) (W : WX) (e : Option Expr) (r : DTO) : Prop := ∃ t, PO X e t ∧ EvO X.K W t r
def dNoPart : DTO := fun _ _ S Q => Q none S
def dPart (r : DTE) : DTO := fun E σ S Q => r E σ S fun d S' => match d with
  | .int i => Q (some i) S'
  | _ => False
theorem do_none : DO X W none dNoPart := ⟨_, po_none, ⟨fun E G H S σV σ Q P w k s h p => p _ S G H h k (.refl _ _ _)⟩⟩
theorem do_some (ha : DE X W a ra) : DO X W (some a) (dPart ra) := by
  obtain ⟨t, p, q⟩ := ha
  refine ⟨_, po_some p, ⟨fun E G H S σV σ Q P w k s h f => q.run E G H S σV σ _ _ w k s h fun d S' G' H' v hd k' g r => ?_⟩⟩
  cases d with
  | int i => cases r; exact ⟨i, rfl, f _ S' G' H' hd k' g⟩
  | _ => exact hd.elim
def cutD (xs : List D) (lo hi : Option Int) : List D := (xs.drop (HT.sIx xs.length 0 lo)).take (HT.sIx xs.length xs.length hi - HT.sIx xs.length 0 lo)
theorem cut_rep {G : Hp} {vs : List V} {xs : List D} (l : RepL K G vs xs) (lo hi : Option Int) : RepL K G (cutV vs lo hi) (cutD xs lo hi) := by
  unfold cutV cutD
  rw [l.length]
  exact (l.drop _).take _
theorem cut_whole {xs : List D} {lo hi : Option Int} (h : HT.sIx xs.length 0 lo = 0 ∧ HT.sIx xs.length xs.length hi = xs.length) : cutD xs lo hi = xs := by
  unfold cutD
  rw [h.1, h.2]
  simp
def dSlQ : D → Option Int → Option Int → Sto → DK → Prop := fun x lo hi S Q => match vw S x with
  | .lst xs => Q (.lst (cutD xs lo hi)) S
  | .tup xs => Q (.tup (cutD xs lo hi)) S
  | .str z => z.length ≤ sizeLine ∧ Q (.str (cutS z lo hi)) S
  | _ => False
def dSl (re : DTE) (rl rh : DTO) : DTE := fun E σ S Q => re E σ S fun x S1 => rl E σ S1 fun l S2 => rh E σ S2 fun u S3 => dSlQ x l u S3 Q
theorem de_slice {lo hi : Option Expr} {rl rh : DTO} {p2 : Pos} (he : DE X W e ra) (hl : DO X W lo rl) (hh : DO X W hi rh) : DE X W (.Subscript e (.Slice lo hi none p2) pos) (dSl ra rl rh) := by
  obtain ⟨t, p, q⟩ := he
  obtain ⟨tl, pl, ql⟩ := hl
  obtain ⟨th, ph, qh⟩ := hh
  refine ⟨_, pe_slice (sl_list.or (sl_tupA.or sl_str)) p pl ph, ⟨fun E G H S σV σ Q P w k s h f => ?_⟩⟩
  refine q.run E G H S σV σ _ _ w k s h fun x S1 G1 H1 v h1 k1 f1 r1 => ?_
  refine ql.run E G1 H1 S1 σV σ _ _ (w.mono f1) k1 (s.mono f1.g) h1 fun l S2 G2 H2 h2 k2 f2 => ?_
  have f12 := f1.trans f2
  refine qh.run E G2 H2 S2 σV σ _ _ (w.mono f12) k2 (s.mono f12.g) h2 fun u S3 G3 H3 h3 k3 f3 => ?_
  have f13 := f12.trans f3
  have r3 := r1.mono (f2.trans f3).g
  unfold dSlQ at h3
  split at h3
  · rename_i xs hx
    obtain ⟨a1, vs, e1, q1, l1⟩ := seq_of k3 r3 hx
    refine .inl ⟨a1, vs, e1, .of q1, fun n hn => ?_⟩
    obtain ⟨k4, f4⟩ := k3.newG (o := .lst (cutV vs l u)) hn
    exact f _ S3 _ _ _ h3 k4 (f13.trans f4) (.lst upd_same ((cut_rep l1 l u).mono f4.g))
  · rename_i xs hx
    obtain ⟨a1, vs, e1, q1, l1, g1⟩ := tup_of k3 r3 hx
    refine .inr (.inl ⟨a1, vs, e1, q1.sq, fun z => ?_, fun _ n hn => ?_⟩)
    · rw [l1.length] at z
      rw [cut_whole z] at h3
      exact f _ S3 _ _ _ h3 k3 f13 (.tup g1 l1)
    · obtain ⟨k4, f4⟩ := k3.newG (o := .tup (cutV vs l u)) hn
      exact f _ S3 _ _ _ h3 k4 (f13.trans f4) (.tup (.inl upd_same) ((cut_rep l1 l u).mono f4.g))
  · rename_i z hx
    rw [str_of r3 hx]
    exact .inr (.inr ⟨_, rfl, h3.1, f _ S3 _ _ _ h3.2 k3 f13 (.str _)⟩)
  · exact h3.elim
end
end KD

set_option maxRecDepth 100000
set_option maxHeartbeats 4000000
/-! KdE: enumerate and zip over lists, tuples and texts in any mix. -/
namespace PySem
set_option maxHeartbeats 1000000 in
theorem meets_enumerate_newB1 {v : Value} {o : Obj} {H : Heap → Prop} (B : Begins v o H) :
    Meets (Builtin.«enumerate.__new__» ⟨[.type "enumerate", v], []⟩) (fun _ R s => H s.heap ∧
      R (.ok (.ret (.ref (s.heap.push o).objs.size))) { s with heap := (s.heap.push o).push { cls := .type "enumerate", data := .fields #[.none, .bool false, .ref s.heap.objs.size, rawInt 0, .none, .none] } }) :=
  .of_wp fun prog w A R s h => by
    obtain ⟨hp, g, d, tk, os⟩ := s; obtain ⟨h1, h⟩ := h
    have hsub := sub_enumerate
    have q1 : ∀ {A' : Around} {E : Value → Shared → Prop} {Q : Value → Shared → Prop}, Q (.ref hp.objs.size) ⟨hp.push o, g, d, tk, os⟩ → wpAny (model prog w) A' (pyIter v) Q E ⟨hp, g, d, tk, os⟩ :=
      fun q => B.iter prog w _ _ ⟨hp, g, d, tk, os⟩ _ h1 q
    wp_walk using q1
    refine wpAny_stack_any fun st => wpAny_pure ?_
    split
    · rename_i c _ _ _ _ _
      cases (c == Value.type "enumerate")
      · wp_walk using q1
        exact ⟨_, rfl, h⟩
      · wp_walk using q1
        exact ⟨_, rfl, h⟩
    · wp_walk using q1
      exact ⟨_, rfl, h⟩
theorem enum1_begins {prog : Program} {w : World} {A : Around} {E : Value → Shared → Prop} {s : Shared} {v : Value} {o : Obj} {H : Heap → Prop} {Q : Value → Shared → Prop} (B : Begins v o H) (h1 : H s.heap)
    (h : ∀ h', IsEnum h' (s.heap.objs.size + 1) s.heap.objs.size 0 .none → h'.get? s.heap.objs.size = some o → h'.objs.size = s.heap.objs.size + 2 →
      (∀ b o, s.heap.get? b = some o → h'.get? b = some o) → Q (.ref (s.heap.objs.size + 1)) { s with heap := h' }) :
    wpAny (model prog w) A (call (.type "enumerate") [v]) Q E s := by
  refine callType_new F.called_enumerate (by decide) (F.typeCall_enumerate_1 _) (F.newCall_enumerate_1 _) (fun obj => F.args_object_init_2 obj _) F.entry_enumerate_new
    (meets_enumerate_newB1 B) ⟨h1, ?_⟩
  have hz : (s.heap.push o).objs.size = s.heap.objs.size + 1 := Heap.size_push ..
  show _ ∧ _
  rw [hz]
  have he : IsEnum ((s.heap.push o).push { cls := .type "enumerate", data := .fields #[.none, .bool false, .ref s.heap.objs.size, rawInt 0, .none, .none] }) (s.heap.objs.size + 1) s.heap.objs.size 0 .none := by
    have := Heap.get?_push_size (s.heap.push o) (o := { cls := .type "enumerate", data := .fields #[.none, .bool false, .ref s.heap.objs.size, rawInt 0, .none, .none] }) rfl
    rw [hz] at this; exact this
  refine ⟨⟨_, he, rfl⟩, h _ he (Heap.get?_push_of_some _ (Heap.get?_push_size _ B.free)) (by rw [Heap.size_push, hz]) fun b o x => Heap.get?_push_of_some _ (Heap.get?_push_of_some _ x)⟩
end PySem
namespace KD
open PySem PySem.Spec PyProof.Rows L2
/-- what an inner iterator walks -/
inductive SrcK where
  | lst (a : Addr) (vs : List V) | tup (a : Addr) (vs : List V) | str (z : Str)
def SrcK.n : SrcK → Nat
  | .lst _ vs => vs.length | .tup _ vs => vs.length | .str z => z.cps.size
def SrcK.get : SrcK → Nat → Option V
  | .lst _ vs, i => vs[i]? | .tup _ vs, i => vs[i]? | .str z, i => z.cps[i]?.map fun c => .str ⟨#[c]⟩
def SrcK.gd (K : PySem.W.Frag) : SrcK → Hp → Prop
  | .lst a vs, H => SqL K H a vs | .tup a vs, H => SqT K H a vs | .str _, _ => True
def SrcK.v : SrcK → V
  | .lst a _ => .ref a | .tup a _ => .ref a | .str z => .str z
/-- the inner iterator at it, at turn i -/
def SrcK.tn (k : SrcK) (it : Addr) (i : Nat) (h : Heap) : Prop := match k with
  | .lst a _ => h.IsListIter it a i
  | .tup a _ => h.IsTupleIter it a i
  | .str z => ∃ t, h.IsStrIter it (strIterType z) z t i
theorem SrcK.tn_obj {k : SrcK} {it : Addr} {i : Nat} {h : Heap} (t : k.tn it i h) : ∃ o, h.get? it = some o ∧ (∀ v, o.data ≠ .cell v) ∧ o.cls ≠ .type "list" ∧ o.cls ≠ .type "tuple" ∧ o.cls ≠ .type "enumerate" ∧ o.cls ≠ .type "zip" := by
  cases k with
  | lst a vs =>
    obtain ⟨o, ho, hc, hd⟩ := t
    exact ⟨o, ho, (by intro v q; rw [hd] at q; cases q), by rw [hc]; decide, by rw [hc]; decide, by rw [hc]; decide, by rw [hc]; decide⟩
  | tup a vs =>
    obtain ⟨o, ho, hc, hd⟩ := t
    exact ⟨o, ho, (by intro v q; rw [hd] at q; cases q), by rw [hc]; decide, by rw [hc]; decide, by rw [hc]; decide, by rw [hc]; decide⟩
  | str z =>
    obtain ⟨t, o, ho, hc, hd⟩ := t
    have e : strIterType z = "str_ascii_iterator" ∨ strIterType z = "str_iterator" := by unfold strIterType; split; exact .inl rfl; exact .inr rfl
    refine ⟨o, ho, (by intro v q; rw [hd] at q; cases q), ?_, ?_, ?_, ?_⟩ <;> (rcases e with e | e <;> rw [hc, e] <;> decide)
theorem SrcK.tn_keep {k : SrcK} {it : Addr} {i : Nat} {h h' : Heap} (t : k.tn it i h) (q : ∀ o, h.get? it = some o → h'.get? it = some o) : k.tn it i h' := by
  cases k with
  | lst a vs => exact Heap.IsListIter.at t q
  | tup a vs => exact Heap.IsTupleIter.at t q
  | str z => obtain ⟨t, o, ho, r⟩ := t; exact ⟨t, o, q o ho, r⟩
section
variable {X : Cx} {pins : List (Addr × Obj)} {σ : L2.St} {H : Hp} {s : Shared}
theorem SrcK.draws (k : SrcK) {A : Around} {it : Addr} {i : Nat} (I : Inv X pins σ H s) (g : k.gd X.K H) (t : k.tn it i s.heap) (hh : A.handled = none) :
    ∃ (fp : List Addr) (P : Nat → Value → Prop) (St : Nat → Heap → Prop), Draws X.prog X.w A it fp k.n P St ∧ St i s.heap ∧ (∀ j h, St j h → k.tn it j h) ∧ it ∈ fp ∧
      (∀ b ∈ fp, b = it ∨ ∃ o, s.heap.get? b = some o ∧ (o.cls = .type "list" ∨ o.cls = .type "tuple") ∧ ((H b).isSome = true ∨ X.K.lookup b = some o)) ∧ (∀ j x, P j x → ∃ v, k.get j = some v ∧ RelV v x) := by
  obtain ⟨o, ho, _, n1, n2, _⟩ := (SrcK.tn_obj t)
  cases k with
  | lst a vs =>
    obtain ⟨its, rv, p, hz⟩ := I.list g
    obtain ⟨oa, hoa, hca, _⟩ := id p.isList
    have ne : a ≠ it := fun e => by rw [e, ho] at hoa; cases hoa; exact n1 hca
    refine ⟨[it, a], fun i v => its.toArray[i]? = some v, fun i h => h.IsListIter it a i ∧ h.IsList a its.toArray, (by have := Draws.list (prog := X.prog) (w := X.w) hh it a ne its.toArray; rw [List.size_toArray, ← rv.length] at this; exact this), ⟨t, p.isList⟩, fun j h q => q.1, by simp, fun b hb => ?_, fun j x hp => ?_⟩
    · rcases (by simpa using hb : b = it ∨ b = a) with e | e
      · exact .inl e
      · refine .inr ⟨oa, by rw [e]; exact hoa, .inl hca, ?_⟩
        rw [e]
        rcases g with (g | ⟨_, g⟩) | ⟨ok, _, _, g, _⟩
        · exact .inl (by rw [g]; rfl)
        · exact .inl (by rw [g]; rfl)
        · have := I.kIn _ _ g
          rw [hoa] at this; cases this
          exact .inr g
    · have hp : its[j]? = some x := by simpa using hp
      cases e : vs[j]? with
      | none => rw [rv.none_of e] at hp; cases hp
      | some v =>
        obtain ⟨u, h1, h2⟩ := rv.get e
        rw [h1] at hp; cases hp
        exact ⟨v, e, h2⟩
  | tup a vs =>
    obtain ⟨its, rv, p, hz⟩ := I.tuple g
    obtain ⟨oa, hoa, hca, _⟩ := id p
    have ne : a ≠ it := fun e => by rw [e, ho] at hoa; cases hoa; exact n2 hca
    refine ⟨[it, a], fun i v => its.toArray[i]? = some v, fun i h => h.IsTupleIter it a i ∧ h.IsTuple a its.toArray, (by have := Draws.tuple (prog := X.prog) (w := X.w) hh it a ne its.toArray; rw [List.size_toArray, ← rv.length] at this; exact this), ⟨t, p⟩, fun j h q => q.1, by simp, fun b hb => ?_, fun j x hp => ?_⟩
    · rcases (by simpa using hb : b = it ∨ b = a) with e | e
      · exact .inl e
      · refine .inr ⟨oa, by rw [e]; exact hoa, .inr hca, ?_⟩
        rw [e]
        rcases g with (g | ⟨_, g⟩) | ⟨ok, _, _, g, _⟩
        · exact .inl (by rw [g]; rfl)
        · exact .inl (by rw [g]; rfl)
        · have := I.kIn _ _ g
          rw [hoa] at this; cases this
          exact .inr g
    · have hp : its[j]? = some x := by simpa using hp
      cases e : vs[j]? with
      | none => rw [rv.none_of e] at hp; cases hp
      | some v =>
        obtain ⟨u, h1, h2⟩ := rv.get e
        rw [h1] at hp; cases hp
        exact ⟨v, e, h2⟩
  | str z =>
    obtain ⟨tk, t⟩ := t
    refine ⟨_, _, _, Draws.text hh it z tk, t, fun j h q => ⟨tk, q⟩, by simp, fun b hb => .inl (by simpa using hb), fun j x hp => ?_⟩
    obtain ⟨c, u, h1, h2⟩ := hp
    refine ⟨.str ⟨#[c]⟩, ?_, ⟨u, h2⟩⟩
    show z.cps[j]?.map _ = _
    rw [h1]; rfl
theorem SrcK.begins (k : SrcK) {u : Value} (I : Inv X pins σ H s) (g : k.gd X.K H) (r : RelV k.v u) : ∃ (o : Obj) (B : Heap → Prop), Begins u o B ∧ B s.heap ∧ ∀ it h, h.get? it = some o → k.tn it 0 h := by
  cases k with
  | lst a vs =>
    obtain ⟨its, rv, p, hz⟩ := I.list g
    obtain rfl : u = .ref a := r
    exact ⟨_, _, begins_list a its.toArray, p.isList, fun it h e => ⟨_, e, rfl, rfl⟩⟩
  | tup a vs =>
    obtain ⟨its, rv, p, hz⟩ := I.tuple g
    obtain rfl : u = .ref a := r
    exact ⟨_, _, begins_tuple a its.toArray, p, fun it h e => ⟨_, e, rfl, rfl⟩⟩
  | str z =>
    obtain ⟨t, rfl⟩ := r
    exact ⟨_, _, begins_text z t, trivial, fun it h e => ⟨t, _, e, rfl, rfl⟩⟩
theorem fp_far {fp : List Addr} {b c : Addr} (I : Inv X pins σ H s) (hb : FpOk X pins H b) (hc : b ≠ c) (hf : ∀ q ∈ fp, q = c ∨ ∃ o, s.heap.get? q = some o ∧ (o.cls = .type "list" ∨ o.cls = .type "tuple") ∧ ((H q).isSome = true ∨ X.K.lookup q = some o)) : b ∉ fp := fun hm => by
  rcases hf b hm with e | ⟨o, ho, _, e | e⟩
  · exact hc e
  · rw [hb.1] at e; cases e
  · have hbase := I.ok.mod.kin b o e
    rcases hb.2.2.2.1 with z | z
    · exact I.ok.noex b o hbase z
    · have := Nat.lt_of_lt_of_le (Heap.lt_size hbase) I.ok.bsz
      exact absurd (Nat.lt_of_lt_of_le this z) (Nat.lt_irrefl _)
end
/-- enumerate(..) -/
def IteK (K : PySem.W.Frag) (k : SrcK) : It :=
  ⟨fun i H => k.gd K H ∧ i < k.n, fun i H v H' => ∃ T x, v = .ref T ∧ H T = none ∧ H' = upd H T (.tup [.int (i : Nat), x]) ∧ k.get i = some x, fun i H => k.gd K H ∧ i = k.n⟩
theorem turn_enumK {P : Program} {w : World} {K : PySem.W.Frag} {elts : List Expr} {kk : Nat} {tpos : Pos} (k : SrcK) (e it : Addr) :
    Turn P w K (.Tuple elts kk tpos) (IteK K k) [e, it] e (fun i h => (∃ old, IsEnum h e it ((i : Nat) : Int) old) ∧ k.tn it i h ∧ e ≠ it) where
  mem := by simp
  obj := fun i h st b hb => by
    obtain ⟨⟨old, he⟩, ht, _⟩ := st
    have e' : b = e ∨ b = it := by simpa using hb
    rcases e' with z | z
    · rw [z]; exact ⟨_, he, fun v q => nomatch q⟩
    · obtain ⟨o, ho, hd, _⟩ := (SrcK.tn_obj ht)
      rw [z]; exact ⟨o, ho, hd⟩
  keep := fun i h h' st q => let ⟨⟨old, he⟩, hi, hne⟩ := st; ⟨⟨old, q e (by simp) _ he⟩, SrcK.tn_keep hi fun o z => q it (by simp) o z, hne⟩
  item := by
    intro X hP hw hK hc i pins s σ H E I hf st hg
    subst hP hw hK
    obtain ⟨⟨old, he⟩, hit, hne⟩ := st
    obtain ⟨hgd, hlt⟩ := hg
    have hh : X.A.in1.handled = none := I.ok.hd hc
    obtain ⟨fp, PP, St, Dr, hSt, hS1, hifp, hfp, hPP⟩ := k.draws (A := X.A.in1) I hgd hit hh
    have hef : e ∉ fp := fp_far I (hf e (by simp)) hne hfp
    have hel : e < s.heap.objs.size := Heap.lt_size he
    have hil : it < s.heap.objs.size := by obtain ⟨_, q, _⟩ := (SrcK.tn_obj hit); exact Heap.lt_size q
    refine wpAny_pyNext_enum_itemD Dr he hSt hlt hne hef fun x h' tk hP ho hs' hT hsz hk => ?_
    obtain ⟨v, hv, rv⟩ := hPP i x hP
    refine ⟨_, rfl, wpAny_letOwnedTupleGo_enum (s := { s with heap := h', toks := tk + 1 }) ho fun h'' he' sb => ?_⟩
    have hT2 : h''.get? s.heap.objs.size = some { cls := .type "tuple", data := .seq #[.int i tk, x] } := (sb.2 _ (Nat.ne_of_gt hel)).trans hT
    have new : ObjOk X.prog X.w (upd H s.heap.objs.size (.tup [.int (i : Nat), v])) h'' s.heap.objs.size (.tup [.int (i : Nat), v]) :=
      ⟨by show 2 ≤ sizeLine; decide, [.int i tk, x], .cons ⟨_, rfl⟩ (.cons rv .nil), ⟨_, hT2, rfl, _, rfl⟩⟩
    have I1 : Inv X pins σ (upd H s.heap.objs.size (.tup [.int (i : Nat), v])) { s with heap := h'', toks := tk + 1 } :=
      I.turnedNew (ch := [e, it]) (fun b ob hb q => (sb.2 b (fun z => hb (by simp [z]))).trans (hk b ob (fun z => hb (by simp [z])) (fun z => hb (by simp [z])) q)) hf (Nat.le_refl _) new
    refine ⟨.ref s.heap.objs.size, _, I1, rfl, ⟨_, v, rfl, I.hok.fresh (Nat.le_refl _), rfl, hv⟩, ⟨⟨x, ?_⟩, SrcK.tn_keep (hS1 _ _ hs') fun o q => (sb.2 it (Ne.symm hne)).trans q, hne⟩, fun b hb => ?_⟩
    · have e1 : ((i + 1 : Nat) : Int) = (i : Int) + 1 := by omega
      rw [e1]; exact he'
    · have hb' : b < s.heap.objs.size := by
        have e' : b = e ∨ b = it := by simpa using hb
        rcases e' with z | z
        · rw [z]; exact hel
        · rw [z]; exact hil
      rw [upd_ne (Nat.ne_of_lt hb')]
      exact (hf b hb).1
  done := by
    intro X hP hw hK hc i pins s σ H E I hf st hg
    subst hP hw hK
    obtain ⟨⟨old, he⟩, hit, hne⟩ := st
    obtain ⟨hgd, rfl⟩ := hg
    have hh : X.A.in1.handled = none := I.ok.hd hc
    obtain ⟨fp, PP, St, Dr, hSt, hS1, hifp, hfp, hPP⟩ := k.draws (A := X.A.in1) I hgd hit hh
    obtain ⟨f0, f1, f2, f3, f4, f5⟩ := hf it (by simp)
    exact wpAny_pyNext_enum_endD Dr he hSt fun h' eb => ⟨rfl, I.turned (t' := s.toks) (fun b o hb q => eb b o hb q) f0 f1 f3 f4 f5⟩
  self := fun A i s Q E st h => let ⟨⟨_, he⟩, _⟩ := st; wpAny_pyIter_enum he h
theorem walk_enumK {K : PySem.W.Frag} (k : SrcK) : Walk (IteK K k) k.n (fun H => k.gd K H) (YPair (fun i => some (.int (i : Nat))) k.get) :=
  ⟨fun i _ hi q => ⟨q, hi⟩, fun _ q => ⟨q, rfl⟩, fun i H v H' _ q ⟨T, x, h1, h2, h3, h4⟩ => ⟨T, .int (i : Nat), x, h1, h2, h3, rfl, h4⟩⟩
def iEnumK (K : PySem.W.Frag) (ta : TA) : TI := fun σ H R => ta σ H fun vs H1 => ∃ k : SrcK, vs = [k.v] ∧ k.gd K H1 ∧ R (IteK K k) H1
theorem pi_enumK {X : Cx} {e : Expr} {ta : TA} {p pos tpos : Pos} {elts : List Expr} {kk : Nat} (hg : Gl X "enumerate") (hm : X.mg "enumerate" = none) (ha : PA X [e] ta) (hs : starEach [e] X.env = [(false, eval e X.env)] := by rfl) :
    PI X (.Tuple elts kk tpos) (.Call (.Name "enumerate" p) [e] [] pos) (iEnumK X.K ta) := by
  refine ⟨fun pins s σ H R I h => ?_⟩
  refine Call_ (ld_blt I hg hm boot_enumerate (PyProof.Rows.callWith_type1 (thn (ha.run pos pins s σ H _ I h) fun us s1 ⟨vs, H1, I1, r1, q1⟩ => ?_) hs rfl))
  obtain ⟨k, ex, hq, q⟩ := q1
  subst ex
  cases r1 with
  | cons r rr =>
    cases rr
    obtain ⟨o, B, Bg, hB, htn⟩ := k.begins I1 hq r
    refine enum1_begins Bg hB fun h' he hit hsz hk => wpAny_pyIter_enum he ?_
    have I2 : Inv X pins σ H1 { s1 with heap := h' } := I1.kept (t' := s1.toks) hk
    refine ⟨s1.heap.objs.size + 1, [s1.heap.objs.size + 1, s1.heap.objs.size], _, _, H1, rfl, I2, turn_enumK k (s1.heap.objs.size + 1) s1.heap.objs.size, ⟨⟨.none, he⟩, htn _ _ hit, Nat.succ_ne_self _⟩, fun b hb => ?_, q⟩
    have e' : b = s1.heap.objs.size + 1 ∨ b = s1.heap.objs.size := by simpa using hb
    have hle : s1.heap.objs.size ≤ b := by
      rcases e' with z | z
      · rw [z]; exact Nat.le_add_right _ _
      · rw [z]; exact Nat.le_refl _
    exact I1.fpOk hle (I1.hok.fresh hle)
end KD

set_option maxRecDepth 100000
set_option maxHeartbeats 4000000
/-! KdZ: zip over two sources of any kind. -/
namespace KD
open PySem PySem.Spec PyProof.Rows L2
structure ZSep (z TI TO i1 i2 : Addr) : Prop where
  a1 : TI ≠ z
  a2 : TO ≠ z
  a3 : TI ≠ TO
  a4 : TI ≠ i1
  a5 : TI ≠ i2
  a6 : z ≠ i1
  a7 : z ≠ i2
  a8 : TO ≠ i1
  a9 : TO ≠ i2
  b1 : i1 ≠ i2
def ItzK (K : PySem.W.Frag) (k l : SrcK) : It :=
  ⟨fun i H => (k.gd K H ∧ l.gd K H) ∧ i < k.n ∧ i < l.n, fun i H v H' => ∃ T x y, v = .ref T ∧ H T = none ∧ H' = upd H T (.tup [x, y]) ∧ k.get i = some x ∧ l.get i = some y, fun i H => (k.gd K H ∧ l.gd K H) ∧ i ≤ k.n ∧ i ≤ l.n ∧ (i = k.n ∨ i = l.n)⟩
def ZTn (k l : SrcK) (z TI TO i1 i2 : Addr) (i : Nat) (h : Heap) : Prop := IsZip h z TI TO .none ∧ IsTupOf2 h TI (.ref i1) (.ref i2) ∧ (∃ x y, IsTupOf2 h TO x y) ∧ k.tn i1 i h ∧ l.tn i2 i h
section
variable {X : Cx} {pins : List (Addr × Obj)} {σ : L2.St} {H : Hp} {s : Shared}
theorem zsep2 {z TI TO i1 i2 : Addr} {fp1 fp2 : List Addr} (D : ZSep z TI TO i1 i2) (I : Inv X pins σ H s) (hf : ∀ b ∈ [z, TI, TO, i1, i2], FpOk X pins H b)
    (m1 : i1 ∈ fp1) (m2 : i2 ∈ fp2) (h1 : ∀ q ∈ fp1, q = i1 ∨ ∃ o, s.heap.get? q = some o ∧ (o.cls = .type "list" ∨ o.cls = .type "tuple") ∧ ((H q).isSome = true ∨ X.K.lookup q = some o))
    (h2 : ∀ q ∈ fp2, q = i2 ∨ ∃ o, s.heap.get? q = some o ∧ (o.cls = .type "list" ∨ o.cls = .type "tuple") ∧ ((H q).isSome = true ∨ X.K.lookup q = some o)) : ZipSep2 z TI TO i1 i2 fp1 fp2 :=
  ⟨D.a1, D.a2, D.a3, D.a4, m1, fp_far I (hf z (by simp)) D.a6 h1, fp_far I (hf TO (by simp)) D.a8 h1, D.a5, m2, fp_far I (hf z (by simp)) D.a7 h2, fp_far I (hf TO (by simp)) D.a9 h2, fp_far I (hf i1 (by simp)) D.b1 h2, fp_far I (hf i2 (by simp)) (Ne.symm D.b1) h1⟩
end
theorem turn_zipK {P : Program} {w : World} {K : PySem.W.Frag} {elts : List Expr} {kk : Nat} {tpos : Pos} (k l : SrcK) {z TI TO i1 i2 : Addr} (D : ZSep z TI TO i1 i2) :
    Turn P w K (.Tuple elts kk tpos) (ItzK K k l) [z, TI, TO, i1, i2] z (ZTn k l z TI TO i1 i2) where
  mem := by simp
  obj := fun i h st c hc => by
    obtain ⟨hz, hTI, ⟨x, y, hTO⟩, t1, t2⟩ := st
    obtain ⟨o1, e1, d1, _⟩ := SrcK.tn_obj t1
    obtain ⟨o2, e2, d2, _⟩ := SrcK.tn_obj t2
    have e' : c = z ∨ c = TI ∨ c = TO ∨ c = i1 ∨ c = i2 := by simpa using hc
    rcases e' with q | q | q | q | q
    · rw [q]; exact ⟨_, hz, fun v q => nomatch q⟩
    · rw [q]; exact ⟨_, hTI, fun v q => nomatch q⟩
    · rw [q]; exact ⟨_, hTO, fun v q => nomatch q⟩
    · rw [q]; exact ⟨o1, e1, d1⟩
    · rw [q]; exact ⟨o2, e2, d2⟩
  keep := fun i h h' st q => by
    obtain ⟨hz, hTI, ⟨x, y, hTO⟩, t1, t2⟩ := st
    exact ⟨q z (by simp) _ hz, q TI (by simp) _ hTI, ⟨x, y, q TO (by simp) _ hTO⟩, SrcK.tn_keep t1 fun o e => q i1 (by simp) o e, SrcK.tn_keep t2 fun o e => q i2 (by simp) o e⟩
  item := by
    intro X hP hw hK hc i pins s σ H E I hf st hg
    subst hP hw hK
    obtain ⟨hz, hTI, ⟨x0, y0, hTO⟩, t1, t2⟩ := st
    obtain ⟨⟨g1, g2⟩, lt1, lt2⟩ := hg
    have hh : X.A.in1.handled = none := I.ok.hd hc
    obtain ⟨fp1, P1, S1, D1, st1, q1, m1, f1, p1⟩ := k.draws (A := X.A.in1) I g1 t1 hh
    obtain ⟨fp2, P2, S2, D2, st2, q2, m2, f2, p2⟩ := l.draws (A := X.A.in1) I g2 t2 hh
    have hzl : z < s.heap.objs.size := Heap.lt_size hz
    refine wpAny_pyNext_zipD2_item (zsep2 D I hf m1 m2 f1 f2) D1 D2 hz hTI hTO st1 st2 lt1 lt2 fun u u2 h' tk hp1 hp2 z' TO' st1' st2' hT hsz hk => ?_
    obtain ⟨x, hx, ru⟩ := p1 i u hp1
    obtain ⟨y, hy, ru2⟩ := p2 i u2 hp2
    refine ⟨_, rfl, wpAny_letOwnedTupleGo_zip (s := { s with heap := h', toks := tk }) z' fun h'' z'' sb => ?_⟩
    have hT2 : h''.get? s.heap.objs.size = some { cls := .type "tuple", data := .seq #[u, u2] } := (sb.2 _ (Nat.ne_of_gt hzl)).trans hT
    have new : ObjOk X.prog X.w (upd H s.heap.objs.size (.tup [x, y])) h'' s.heap.objs.size (.tup [x, y]) :=
      ⟨by show 2 ≤ sizeLine; decide, [u, u2], .cons ru (.cons ru2 .nil), ⟨_, hT2, rfl, _, rfl⟩⟩
    have I1 : Inv X pins σ (upd H s.heap.objs.size (.tup [x, y])) { s with heap := h'', toks := tk } :=
      I.turnedNew (t' := tk) (ch := [z, TI, TO, i1, i2]) (fun c o hb q => (sb.2 c (fun q' => hb (by simp [q']))).trans (hk c o (fun q' => hb (by simp [q'])) (fun q' => hb (by simp [q'])) (fun q' => hb (by simp [q'])) (fun q' => hb (by simp [q'])) q)) hf (Nat.le_refl _) new
    refine ⟨.ref s.heap.objs.size, _, I1, rfl, ⟨_, x, y, rfl, I.hok.fresh (Nat.le_refl _), rfl, hx, hy⟩, ⟨z'', ?_, ⟨u, u2, ?_⟩, ?_, ?_⟩, fun c hcm => ?_⟩
    · exact (sb.2 _ D.a1).trans (hk _ _ D.a1 D.a3 D.a4 D.a5 hTI)
    · exact (sb.2 _ D.a2).trans TO'
    · exact SrcK.tn_keep (q1 _ _ st1') fun o q => (sb.2 _ (Ne.symm D.a6)).trans q
    · exact SrcK.tn_keep (q2 _ _ st2') fun o q => (sb.2 _ (Ne.symm D.a7)).trans q
    · have hlt : c < s.heap.objs.size := by
        have e' : c = z ∨ c = TI ∨ c = TO ∨ c = i1 ∨ c = i2 := by simpa using hcm
        rcases e' with q | q | q | q | q
        · rw [q]; exact hzl
        · rw [q]; exact Heap.lt_size hTI
        · rw [q]; exact Heap.lt_size hTO
        · rw [q]; obtain ⟨_, e1, _⟩ := SrcK.tn_obj t1; exact Heap.lt_size e1
        · rw [q]; obtain ⟨_, e2, _⟩ := SrcK.tn_obj t2; exact Heap.lt_size e2
      rw [upd_ne (Nat.ne_of_lt hlt)]
      exact (hf c hcm).1
  done := by
    intro X hP hw hK hc i pins s σ H E I hf st hg
    subst hP hw hK
    obtain ⟨hz, hTI, ⟨x0, y0, hTO⟩, t1, t2⟩ := st
    obtain ⟨⟨g1, g2⟩, le1, le2, hend⟩ := hg
    have hh : X.A.in1.handled = none := I.ok.hd hc
    obtain ⟨fp1, P1, S1, D1, st1, q1, m1, f1, p1⟩ := k.draws (A := X.A.in1) I g1 t1 hh
    obtain ⟨fp2, P2, S2, D2, st2, q2, m2, f2, p2⟩ := l.draws (A := X.A.in1) I g2 t2 hh
    exact wpAny_pyNext_zipD2_end (zsep2 D I hf m1 m2 f1 f2) D1 D2 hz hTI hTO st1 st2 le1 le2 hend fun h' tk hk => ⟨rfl, I.turnedL (t' := tk) (ch := [z, TI, TO, i1, i2]) (fun c o hb q =>
      hk c o (fun q' => hb (by simp [q'])) (fun q' => hb (by simp [q'])) (fun q' => hb (by simp [q'])) (fun q' => hb (by simp [q'])) q) hf⟩
  self := fun A i s Q E st h => wpAny_pyIter_zip st.1 h
theorem walk_zipK {K : PySem.W.Frag} (k l : SrcK) : Walk (ItzK K k l) (min k.n l.n) (fun H => k.gd K H ∧ l.gd K H) (YPair k.get l.get) :=
  ⟨fun i _ hi q => ⟨q, by omega, by omega⟩, fun _ q => ⟨q, by omega, by omega, by omega⟩, fun i H v H' _ q y => y⟩
def iZipK (K : PySem.W.Frag) (ta : TA) : TI := fun σ H R => ta σ H fun vs H1 => ∃ k l : SrcK, vs = [k.v, l.v] ∧ (k.gd K H1 ∧ l.gd K H1) ∧ R (ItzK K k l) H1
theorem zsep_new {N : Nat} : ZSep (N + 4) (N + 2) (N + 3) N (N + 1) :=
  ⟨Nat.ne_of_lt (by omega), Nat.ne_of_lt (by omega), Nat.ne_of_lt (by omega), Nat.ne_of_gt (by omega), Nat.ne_of_gt (by omega), Nat.ne_of_gt (by omega), Nat.ne_of_gt (by omega), Nat.ne_of_gt (by omega), Nat.ne_of_gt (by omega), Nat.ne_of_lt (by omega)⟩
theorem pi_zipK {X : Cx} {e e2 : Expr} {ta : TA} {p pos tpos : Pos} {elts : List Expr} {kk : Nat} (hg : Gl X "zip") (hm : X.mg "zip" = none) (ha : PA X [e, e2] ta)
    (hs : starEach [e, e2] X.env = (false, eval e X.env) :: starEach [e2] X.env := by rfl) (hpl : (backTo pos (starEach [e2] X.env)).any (·.1) = false := by rfl) :
    PI X (.Tuple elts kk tpos) (.Call (.Name "zip" p) [e, e2] [] pos) (iZipK X.K ta) := by
  refine ⟨fun pins s σ H R I h => ?_⟩
  refine Call_ (ld_blt I hg hm PyProof.Rows.boot_zip (PyProof.Rows.callWith_type1 (thn (ha.run pos pins s σ H _ I h) fun us s1 ⟨vs, H1, I1, r1, q1⟩ => ?_) hs hpl))
  obtain ⟨k, l, ex, ⟨g1, g2⟩, q⟩ := q1
  subst ex
  cases r1 with
  | cons r rr =>
    cases rr with
    | cons r' rr =>
      cases rr
      obtain ⟨o1, B1, Bg1, hB1, tn1⟩ := k.begins I1 g1 r
      obtain ⟨o2, B2, Bg2, hB2, tn2⟩ := l.begins I1 g2 r'
      refine zip_begins2 Bg1 Bg2 hB1 hB2 fun h' hz hTI hTO h1 h2 hsz hk => wpAny_pyIter_zip hz ?_
      have I2 : Inv X pins σ H1 { s1 with heap := h' } := I1.kept (t' := s1.toks) hk
      refine ⟨s1.heap.objs.size + 4, [s1.heap.objs.size + 4, s1.heap.objs.size + 2, s1.heap.objs.size + 3, s1.heap.objs.size, s1.heap.objs.size + 1], _, _, H1, rfl, I2, turn_zipK k l zsep_new, ⟨hz, hTI, ⟨_, _, hTO⟩, tn1 _ _ h1, tn2 _ _ h2⟩, fun c hcm => ?_, q⟩
      have e' : c = s1.heap.objs.size + 4 ∨ c = s1.heap.objs.size + 2 ∨ c = s1.heap.objs.size + 3 ∨ c = s1.heap.objs.size ∨ c = s1.heap.objs.size + 1 := by simpa using hcm
      have hle : s1.heap.objs.size ≤ c := by
        rcases e' with z | z | z | z | z
        · rw [z]; exact Nat.le_add_right _ _
        · rw [z]; exact Nat.le_add_right _ _
        · rw [z]; exact Nat.le_add_right _ _
        · rw [z]; exact Nat.le_refl _
        · rw [z]; exact Nat.le_add_right _ _
      exact I1.fpOk hle (I1.hok.fresh hle)
end KD

set_option maxRecDepth 100000
set_option maxHeartbeats 4000000
/-! Kd5: walks as data, built-ins by name, isinstance, in, methods of built-in types, raise. -/
namespace KD
open PySem PySem.Spec PyProof.Rows L2
/-! ### sources -/
def signs (z : Str) : List D := z.cps.toList.map fun c => .str ⟨#[c]⟩
/-- the items of a datum that is walked -/
def itemsOf : D → Option (List D)
  | .lst xs => some xs
  | .tup xs => some xs
  | .str z => some (signs z)
  | .scr ns => some (ns.map .int)
  | _ => none
/-- how a datum is walked: its source, and its items stand for the source's -/
structure SrcD (K : PySem.W.Frag) (G : Hp) (v : V) (k : SrcK) (xs : List D) : Prop where
  v : k.v = v
  gd : ∀ H, Ex G H → k.gd K H
  n : k.n = xs.length
  get : ∀ i w, k.get i = some w → ∃ d, xs[i]? = some d ∧ Rep K G w d
section
variable {K : PySem.W.Frag} {G : Hp}
theorem src_of {v : V} {d : D} {xs : List D} (r : Rep K G v d) (h : itemsOf d = some xs) : ∃ k, SrcD K G v k xs := by
  cases d with
  | lst ys =>
    simp only [itemsOf, Option.some.injEq] at h; subst h
    cases r with
    | @lst a vs _ h1 h2 => exact ⟨.lst a vs, rfl, fun H e => .of (e _ _ h1), h2.length, fun i w hw => h2.get' hw⟩
  | tup ys =>
    simp only [itemsOf, Option.some.injEq] at h; subst h
    cases r with
    | @tup a vs _ h1 h2 => exact ⟨.tup a vs, rfl, fun H e => (h1.mono e).sq, h2.length, fun i w hw => h2.get' hw⟩
  | str z =>
    simp only [itemsOf, Option.some.injEq] at h; subst h
    cases r
    refine ⟨.str z, rfl, fun H e => trivial, by simp [SrcK.n, signs], fun i w hw => ?_⟩
    have hw : z.cps[i]?.map (fun c => V.str ⟨#[c]⟩) = some w := hw
    cases e : z.cps[i]? with
    | none => rw [e] at hw; cases hw
    | some c =>
      rw [e] at hw; cases hw
      refine ⟨.str ⟨#[c]⟩, ?_, .str _⟩
      unfold signs
      rw [List.getElem?_map, Array.getElem?_toList, e]; rfl
  | scr ns =>
    simp only [itemsOf, Option.some.injEq] at h; subst h
    cases r with
    | @scr a _ h1 =>
      refine ⟨.lst a (ns.map V.int), rfl, fun H e => Evl.ex_l e h1, by simp [SrcK.n], fun i w hw => ?_⟩
      have hw : (ns.map V.int)[i]? = some w := hw
      rw [List.getElem?_map] at hw
      cases e : ns[i]? with
      | none => rw [e] at hw; cases hw
      | some c =>
        rw [e] at hw; cases hw
        exact ⟨.int c, by rw [List.getElem?_map, e]; rfl, .int _⟩
  | _ => simp [itemsOf] at h
theorem src_mono {G' : Hp} {v : V} {k : SrcK} {xs : List D} (s : SrcD K G v k xs) (e : Ex G G') : SrcD K G' v k xs :=
  ⟨s.v, fun H e' => s.gd H (e.trans e'), s.n, fun i w h => let ⟨d, h1, h2⟩ := s.get i w h; ⟨d, h1, h2.mono e⟩⟩
theorem wlk_pair {H : Hp} {S : Sto} {J : It} {n : Nat} {Gd : Hp → Prop} {f g : Nat → Option V} {xs : List D} (wk : Walk J n Gd (YPair f g)) (hn : n = xs.length) (hG : ∀ H, Ex G H → Gd H)
    (hx : ∀ i a b, f i = some a → g i = some b → ∃ x y, xs[i]? = some (.tup [x, y]) ∧ Rep K G a x ∧ Rep K G b y) : Wlk K J xs G H S Gd (YPair f g) := by
  subst hn
  refine ⟨wk, fun G2 H2 S2 k2 f2 => hG H2 (f2.g.trans k2.ext), fun i G2 H2 S2 H3 v hi hY k2 f2 => ?_⟩
  obtain ⟨T, a, b, rfl, hT, rfl, ha, hb⟩ := hY
  obtain ⟨x, y, hxy, ra, rb⟩ := hx i a b ha hb
  obtain ⟨k3, f3⟩ := k2.newG (o := .tup [a, b]) hT
  exact ⟨_, _, hxy, k3, f3, .tup (.inl upd_same) (.cons (ra.mono (f2.trans f3).g) (.cons (rb.mono (f2.trans f3).g) .nil))⟩
/-- the walk of one source -/
def SrcK.J (K : PySem.W.Frag) : SrcK → It
  | .lst a _ => Itl K a | .tup a _ => Itt K a | .str z => Its z
theorem SrcK.walk (k : SrcK) : Walk (k.J K) k.n (fun H => k.gd K H) (fun i H x H' => H' = H ∧ k.get i = some x) := by
  cases k with
  | lst a vs => exact walk_list
  | tup a vs => exact walk_tup
  | str z =>
    exact (walk_str (z := z)).mono (fun _ _ => trivial) fun i H x H' _ _ ⟨h1, c, h2, h3⟩ => ⟨h1, by show z.cps[i]?.map _ = _; rw [h2, h3]; rfl⟩
theorem wlk_src {H : Hp} {S : Sto} {v : V} {k : SrcK} {xs : List D} (s : SrcD K G v k xs) : Wlk K (k.J K) xs G H S (fun H => k.gd K H) (fun i H x H' => H' = H ∧ k.get i = some x) := by
  refine ⟨by rw [← s.n]; exact k.walk, fun G2 H2 S2 k2 f2 => s.gd H2 (f2.g.trans k2.ext), fun i G2 H2 S2 H3 w hi hY k2 f2 => ?_⟩
  obtain ⟨rfl, hw⟩ := hY
  obtain ⟨d, h1, h2⟩ := s.get i w hw
  exact ⟨G2, d, h1, k2, .refl _ _ _, h2.mono f2.g⟩
end
section
variable {X : Cx} {W : WX} {K : PySem.W.Frag} {a b c e : Expr} {ra rb rc : DTE} {pos : Pos} {tg : Expr}
/-! ### walks -/
theorem pi_src {e : Expr} {tl : TE} (hl : PE X e tl) : PI X tg e (fun σ H R => tl σ H fun x H1 => ∃ k : SrcK, x = k.v ∧ k.gd X.K H1 ∧ R (k.J X.K) H1) := by
  refine ⟨fun pins s σ H R I h => ?_⟩
  refine thn (hl.run pins s σ H _ I h) fun v s1 ⟨x, H1, I1, r1, k, hx, hq, q⟩ => ?_
  subst hx
  cases k with
  | lst a vs =>
    obtain rfl : v = .ref a := r1
    obtain ⟨its, rv, p, hz⟩ := I1.list hq
    refine wpAny_pyIter_list p.isList ?_
    refine ⟨s1.heap.objs.size, [s1.heap.objs.size], _, _, H1, rfl, I1.kept (t' := s1.toks) fun b o e => Heap.get?_push_of_some _ e, turn_list a _, ⟨_, Heap.get?_push_size _ rfl, rfl, rfl⟩, fun b hb => ?_, q⟩
    have e : b = s1.heap.objs.size := by simpa using hb
    subst e
    exact I1.fpOk (Nat.le_refl _) (I1.hok.fresh (Nat.le_refl _))
  | tup a vs =>
    obtain rfl : v = .ref a := r1
    obtain ⟨its, rv, p, hz⟩ := I1.tuple hq
    refine wpAny_pyIter_tuple (show s1.heap.IsTuple a its.toArray from p) ?_
    refine ⟨s1.heap.objs.size, [s1.heap.objs.size], _, _, H1, rfl, I1.kept (t' := s1.toks) fun b o e => Heap.get?_push_of_some _ e, turn_tuple a _, ⟨_, Heap.get?_push_size _ rfl, rfl, rfl⟩, fun b hb => ?_, q⟩
    have e : b = s1.heap.objs.size := by simpa using hb
    subst e
    exact I1.fpOk (Nat.le_refl _) (I1.hok.fresh (Nat.le_refl _))
  | str z =>
    obtain ⟨t, rfl⟩ := r1
    cases ha : z.cps.all (· < 128)
    · exact wpAny_pyIter_wide ha (pi_one (tk := s1.toks) I1 _ (turn_str _ z t "str_iterator" (.inr rfl)) ⟨_, Heap.get?_push_size _ rfl, rfl, rfl⟩ q)
    · exact wpAny_pyIter_ascii ha (pi_one (tk := s1.toks) I1 _ (turn_str _ z t "str_ascii_iterator" (.inl rfl)) ⟨_, Heap.get?_push_size _ rfl, rfl, rfl⟩ q)
def dItems (r : DTE) : DTI := fun E σ S Q => r E σ S fun d S' => match itemsOf d with
  | some xs => Q xs S'
  | none => False
theorem di_seq (h : DE X W e ra) : DI X W tg e (dItems ra) := by
  obtain ⟨t, p, q⟩ := h
  refine ⟨_, pi_src p, ⟨fun E G H S σV σ Q R w k s h f => ?_⟩⟩
  refine q.run E G H S σV σ _ _ w k s h fun d S' G' H' v hd k' g r => ?_
  split at hd
  · rename_i xs hx
    obtain ⟨kk, sk⟩ := src_of r hx
    exact ⟨kk, sk.v.symm, sk.gd _ k'.ext, f xs S' G' H' _ _ _ hd k' g (wlk_src sk)⟩
  · exact hd.elim
def rangeD (lo : Int) (n : Nat) : List D := (List.range n).map fun i => .int (lo + (i : Nat))
theorem wlk_range {G H : Hp} {S : Sto} (lo : Int) (n : Nat) : Wlk K (Itr lo n) (rangeD lo n) G H S (fun _ => True) (YFn fun i => .int (lo + i)) := by
  refine ⟨by have := walk_range (lo := lo) (n := n); simpa [rangeD] using this, fun _ _ _ _ _ => trivial, fun i G2 H2 S2 H3 v hi hY k2 f2 => ?_⟩
  obtain ⟨rfl, rfl⟩ := hY
  refine ⟨G2, .int (lo + i), ?_, k2, .refl _ _ _, .int _⟩
  have hi : i < n := by simpa [rangeD] using hi
  simp [rangeD, hi]
def dRange1 (r : DTA) : DTI := fun E σ S Q => r E σ S fun ds S' => match ds with
  | [.int j] => -(2 ^ 62) ≤ j ∧ j < 2 ^ 62 ∧ Q (rangeD 0 j.toNat) S'
  | _ => False
theorem di_range1 {r : DTA} {p : Pos} (hg : Gl X "range") (hm : X.mg "range" = none) (ha : DA X W [a] r) (hs : starEach [a] X.env = [(false, eval a X.env)] := by rfl) : DI X W tg (.Call (.Name "range" p) [a] [] pos) (dRange1 r) := by
  obtain ⟨t, p, q⟩ := ha
  refine ⟨_, pi_range1 hg hm p hs, ⟨fun E G H S σV σ Q R w k s h f => ?_⟩⟩
  refine q.run E G H S σV σ _ _ w k s h fun ds S' G' H' vs hd k' g r => ?_
  match ds, vs, r, hd with
  | [.int j], _, .cons (.int _) .nil, hd => exact ⟨j, rfl, hd.1, hd.2.1, f _ S' G' H' _ _ _ hd.2.2 k' g (wlk_range 0 j.toNat)⟩
def dRange2 (r : DTA) : DTI := fun E σ S Q => r E σ S fun ds S' => match ds with
  | [.int i, .int j] => (-(2 ^ 62) ≤ i ∧ i < 2 ^ 62 ∧ -(2 ^ 62) ≤ j ∧ j < 2 ^ 62) ∧ Q (rangeD i (j - i).toNat) S'
  | _ => False
theorem di_range2 {r : DTA} {p : Pos} (hg : Gl X "range") (hm : X.mg "range" = none) (ha : DA X W [a, b] r) (hs : starEach [a, b] X.env = [(false, eval a X.env), (false, eval b X.env)] := by rfl) (hs2 : starEach [b] X.env = [(false, eval b X.env)] := by rfl) :
    DI X W tg (.Call (.Name "range" p) [a, b] [] pos) (dRange2 r) := by
  obtain ⟨t, p, q⟩ := ha
  refine ⟨_, pi_range2 hg hm p hs hs2, ⟨fun E G H S σV σ Q R w k s h f => ?_⟩⟩
  refine q.run E G H S σV σ _ _ w k s h fun ds S' G' H' vs hd k' g r => ?_
  match ds, vs, r, hd with
  | [.int i, .int j], _, .cons (.int _) (.cons (.int _) .nil), hd => exact ⟨i, j, rfl, hd.1, f _ S' G' H' _ _ _ hd.2 k' g (wlk_range i _)⟩
def enumD (xs : List D) : List D := (List.range xs.length).map fun i => .tup [.int (i : Nat), xs.getD i .non]
theorem enumD_get {xs : List D} {i : Nat} {d : D} (h : xs[i]? = some d) : (enumD xs)[i]? = some (.tup [.int (i : Nat), d]) := by
  obtain ⟨hi, e⟩ := List.getElem?_eq_some_iff.mp h
  simp [enumD, hi, e]
def dEnum (r : DTA) : DTI := fun E σ S Q => r E σ S fun ds S' => match ds with
  | [d] => match itemsOf d with
    | some xs => Q (enumD xs) S'
    | none => False
  | _ => False
theorem di_enum {r : DTA} {p tpos : Pos} {elts : List Expr} {kk : Nat} (hg : Gl X "enumerate") (hm : X.mg "enumerate" = none) (ha : DA X W [e] r) (hs : starEach [e] X.env = [(false, eval e X.env)] := by rfl) :
    DI X W (.Tuple elts kk tpos) (.Call (.Name "enumerate" p) [e] [] pos) (dEnum r) := by
  obtain ⟨t, p, q⟩ := ha
  refine ⟨_, pi_enumK hg hm p hs, ⟨fun E G H S σV σ Q R w k s h f => ?_⟩⟩
  refine q.run E G H S σV σ _ _ w k s h fun ds S' G' H' vs hd k' g r => ?_
  match ds, vs, r, hd with
  | [d], _, .cons r1 .nil, hd =>
    simp only at hd
    split at hd
    · rename_i xs hx
      obtain ⟨kk, sk⟩ := src_of r1 hx
      refine ⟨kk, by rw [sk.v], sk.gd _ k'.ext, f _ S' G' H' _ _ _ hd k' g (wlk_pair (walk_enumK kk) (by rw [sk.n]; simp [enumD]) sk.gd fun i a b ha hb => ?_)⟩
      cases ha
      obtain ⟨d, h1, h2⟩ := sk.get i b hb
      exact ⟨_, d, enumD_get h1, .int _, h2⟩
    · exact hd.elim
def zipD : List D → List D → List D
  | x :: xs, y :: ys => .tup [x, y] :: zipD xs ys
  | _, _ => []
theorem zipD_len : ∀ xs ys : List D, (zipD xs ys).length = min xs.length ys.length
  | [], _ => by simp [zipD]
  | _ :: _, [] => by simp [zipD]
  | x :: xs, y :: ys => by simp [zipD, zipD_len xs ys]
theorem zipD_get : ∀ {xs ys : List D} {i : Nat} {x y : D}, xs[i]? = some x → ys[i]? = some y → (zipD xs ys)[i]? = some (.tup [x, y])
  | [], _, i, _, _, h, _ => by simp at h
  | _ :: _, [], i, _, _, _, h => by simp at h
  | a :: xs, b :: ys, 0, _, _, h, h' => by simp at h h'; subst h h'; rfl
  | a :: xs, b :: ys, i + 1, _, _, h, h' => by
    have := zipD_get (xs := xs) (ys := ys) (i := i) (by simpa using h) (by simpa using h')
    simpa [zipD] using this
def dZip (r : DTA) : DTI := fun E σ S Q => r E σ S fun ds S' => match ds with
  | [d, d2] => match itemsOf d, itemsOf d2 with
    | some xs, some ys => Q (zipD xs ys) S'
    | _, _ => False
  | _ => False
theorem di_zip {r : DTA} {p tpos : Pos} {elts : List Expr} {kk : Nat} {e2 : Expr} (hg : Gl X "zip") (hm : X.mg "zip" = none) (ha : DA X W [e, e2] r)
    (hs : starEach [e, e2] X.env = (false, eval e X.env) :: starEach [e2] X.env := by rfl) (hpl : (backTo pos (starEach [e2] X.env)).any (·.1) = false := by rfl) :
    DI X W (.Tuple elts kk tpos) (.Call (.Name "zip" p) [e, e2] [] pos) (dZip r) := by
  obtain ⟨t, p, q⟩ := ha
  refine ⟨_, pi_zipK hg hm p hs hpl, ⟨fun E G H S σV σ Q R w k s h f => ?_⟩⟩
  refine q.run E G H S σV σ _ _ w k s h fun ds S' G' H' vs hd k' g r => ?_
  match ds, vs, r, hd with
  | [d, d2], _, .cons r1 (.cons r2 .nil), hd =>
    simp only at hd
    split at hd
    · rename_i xs ys hx hy
      obtain ⟨k1, s1⟩ := src_of r1 hx
      obtain ⟨k2, s2⟩ := src_of r2 hy
      refine ⟨k1, k2, by rw [s1.v, s2.v], ⟨s1.gd _ k'.ext, s2.gd _ k'.ext⟩, f _ S' G' H' _ _ _ hd k' g (wlk_pair (walk_zipK k1 k2) (by rw [s1.n, s2.n, zipD_len]) (fun H e => ⟨s1.gd H e, s2.gd H e⟩) fun i a b ha hb => ?_)⟩
      obtain ⟨x, h1, h2⟩ := s1.get i a ha
      obtain ⟨y, h3, h4⟩ := s2.get i b hb
      exact ⟨x, y, zipD_get h1 h3, h2, h4⟩
    · exact hd.elim
/-! ### built-ins by name -/
def dLen : List D → Sto → DK → Prop := fun ds S Q => match ds with
  | [d] => match vw S d with
    | .lst xs => Q (.int xs.length) S
    | .tup xs => Q (.int xs.length) S
    | .scr ns => Q (.int ns.length) S
    | .str z => z.length ≤ sizeLine ∧ Q (.int z.length) S
    | _ => False
  | _ => False
theorem one_of {G : Hp} {vs : List V} {d : D} (r : RepL K G vs [d]) : ∃ v, vs = [v] ∧ Rep K G v d := by
  match vs, r with
  | [v], .cons h .nil => exact ⟨v, rfl, h⟩
theorem dc_len : DC X (.builtin "len") dLen := ⟨_, call_len, ⟨fun G H S xs vs Q P k r h p => by
  unfold dLen at h
  split at h
  · rename_i d
    obtain ⟨v, rfl, r1⟩ := one_of r
    split at h
    · rename_i xs hx
      obtain ⟨a1, us, e1, q1, l1⟩ := seq_of k r1 hx
      refine ⟨v, xs.length, rfl, ?_, p _ S G H _ h k (.refl _ _ _) (.int _)⟩
      rw [e1]; exact .inl ⟨us, .of q1, l1.length.symm⟩
    · rename_i xs hx
      obtain ⟨a1, us, e1, q1, l1, _⟩ := tup_of k r1 hx
      refine ⟨v, xs.length, rfl, ?_, p _ S G H _ h k (.refl _ _ _) (.int _)⟩
      rw [e1]; exact .inr ⟨us, q1.sq, l1.length.symm⟩
    · rename_i ns hx
      obtain ⟨a1, e1, q1⟩ := scr_of r1 hx
      refine ⟨v, ns.length, rfl, ?_, p _ S G H _ h k (.refl _ _ _) (.int _)⟩
      rw [e1]; exact .inl ⟨_, Evl.ex_l k.ext q1, by simp⟩
    · rename_i z hx
      refine ⟨v, z.length, rfl, ?_, p _ S G H _ h.2 k (.refl _ _ _) (.int _)⟩
      rw [str_of r1 hx]; exact ⟨h.1, rfl⟩
    · exact h.elim
  · exact h.elim⟩⟩
/-- list(x): data -/
def dList1 : List D → Sto → DK → Prop := fun ds S Q => match ds with
  | [d] => match vw S d with
    | .lst xs => Q (.lst xs) S
    | .tup xs => Q (.lst xs) S
    | _ => False
  | _ => False
theorem dc_list : DC X (.type "list") dList1 := ⟨_, call_list_of, ⟨fun G H S xs vs Q P k r h p => by
  unfold dList1 at h
  split at h
  · rename_i d
    obtain ⟨v, rfl, r1⟩ := one_of r
    split at h
    · rename_i xs hx
      obtain ⟨a1, us, e1, q1, l1⟩ := seq_of k r1 hx
      refine ⟨a1, us, by rw [e1], .inl (.of q1), fun n hn => ?_⟩
      obtain ⟨k2, f2⟩ := k.newG (o := .lst us) hn
      exact p _ S _ _ _ h k2 f2 (.lst upd_same (l1.mono f2.g))
    · rename_i xs hx
      obtain ⟨a1, us, e1, q1, l1, _⟩ := tup_of k r1 hx
      refine ⟨a1, us, by rw [e1], .inr q1.sq, fun n hn => ?_⟩
      obtain ⟨k2, f2⟩ := k.newG (o := .lst us) hn
      exact p _ S _ _ _ h k2 f2 (.lst upd_same (l1.mono f2.g))
    · exact h.elim
  · exact h.elim⟩⟩
/-- list(x): it will change -/
def dListM : List D → Sto → DK → Prop := fun ds S Q => match ds with
  | [d] => match vw S d with
    | .lst xs => ∀ p, S p = none → Q (.ref p) (put S p (.lst xs))
    | .tup xs => ∀ p, S p = none → Q (.ref p) (put S p (.lst xs))
    | _ => False
  | _ => False
theorem dc_listM : DC X (.type "list") dListM := ⟨_, call_list_of, ⟨fun G H S xs vs Q P k r h p => by
  unfold dListM at h
  split at h
  · rename_i d
    obtain ⟨v, rfl, r1⟩ := one_of r
    split at h
    · rename_i xs hx
      obtain ⟨a1, us, e1, q1, l1⟩ := seq_of k r1 hx
      refine ⟨a1, us, by rw [e1], .inl (.of q1), fun n hn => ?_⟩
      obtain ⟨k2, f2⟩ := k.newS (o := .lst us) (m := .lst xs) hn ⟨us, upd_same, l1⟩
      exact p _ _ _ _ _ (h n (k.freeS hn)) k2 f2 (.ref n)
    · rename_i xs hx
      obtain ⟨a1, us, e1, q1, l1, _⟩ := tup_of k r1 hx
      refine ⟨a1, us, by rw [e1], .inr q1.sq, fun n hn => ?_⟩
      obtain ⟨k2, f2⟩ := k.newS (o := .lst us) (m := .lst xs) hn ⟨us, upd_same, l1⟩
      exact p _ _ _ _ _ (h n (k.freeS hn)) k2 f2 (.ref n)
    · exact h.elim
  · exact h.elim⟩⟩
def dTuple1 : List D → Sto → DK → Prop := fun ds S Q => match ds with
  | [d] => match vw S d with
    | .lst xs => Q (.tup xs) S
    | .tup xs => Q (.tup xs) S
    | _ => False
  | _ => False
theorem dc_tuple : DC X (.type "tuple") dTuple1 := ⟨_, call_tuple_of, ⟨fun G H S xs vs Q P k r h p => by
  unfold dTuple1 at h
  split at h
  · rename_i d
    obtain ⟨v, rfl, r1⟩ := one_of r
    split at h
    · rename_i xs hx
      obtain ⟨a1, us, e1, q1, l1⟩ := seq_of k r1 hx
      refine ⟨a1, us, by rw [e1], .inl ⟨.of q1, fun n hn => ?_⟩⟩
      obtain ⟨k2, f2⟩ := k.newG (o := .tup us) hn
      exact p _ S _ _ _ h k2 f2 (.tup (.inl upd_same) (l1.mono f2.g))
    · rename_i xs hx
      obtain ⟨a1, us, e1, q1, l1, g1⟩ := tup_of k r1 hx
      exact ⟨a1, us, by rw [e1], .inr ⟨q1.sq, p _ S G H _ h k (.refl _ _ _) (.tup g1 l1)⟩⟩
    · exact h.elim
  · exact h.elim⟩⟩
def dInt1 : List D → Sto → DK → Prop := fun ds S Q => match ds with
  | [.int i] => Q (.int i) S
  | [.bl b] => Q (.int (if b then 1 else 0)) S
  | _ => False
theorem dc_int : DC X (.type "int") dInt1 := ⟨_, call_int1, ⟨fun G H S xs vs Q P k r h p => by
  unfold dInt1 at h
  split at h
  · obtain ⟨v, rfl, r1⟩ := one_of r
    cases r1
    exact .inl ⟨_, rfl, p _ S G H _ h k (.refl _ _ _) (.int _)⟩
  · obtain ⟨v, rfl, r1⟩ := one_of r
    cases r1
    exact .inr ⟨_, rfl, p _ S G H _ h k (.refl _ _ _) (.int _)⟩
  · exact h.elim⟩⟩
theorem two_of {G : Hp} {vs : List V} {d d' : D} (r : RepL K G vs [d, d']) : ∃ v v', vs = [v, v'] ∧ Rep K G v d ∧ Rep K G v' d' := by
  match vs, r with
  | [v, v'], .cons h (.cons h' .nil) => exact ⟨v, v', rfl, h, h'⟩
def dMax2 : List D → Sto → DK → Prop := fun ds S Q => match ds with
  | [.int i, .int j] => Q (.int (if j > i then j else i)) S
  | _ => False
theorem dc_max2 (hc : X.calm = true) : DC X (.builtin "max") dMax2 := ⟨_, call_max2 hc, ⟨fun G H S xs vs Q P k r h p => by
  unfold dMax2 at h
  split at h
  · obtain ⟨v, v', rfl, r1, r2⟩ := two_of r
    cases r1; cases r2
    exact ⟨_, _, rfl, p _ S G H _ h k (.refl _ _ _) (.int _)⟩
  · exact h.elim⟩⟩
def dMin2 : List D → Sto → DK → Prop := fun ds S Q => match ds with
  | [.int i, .int j] => Q (.int (if j < i then j else i)) S
  | _ => False
theorem dc_min2 (hc : X.calm = true) : DC X (.builtin "min") dMin2 := ⟨_, call_min2 hc, ⟨fun G H S xs vs Q P k r h p => by
  unfold dMin2 at h
  split at h
  · obtain ⟨v, v', rfl, r1, r2⟩ := two_of r
    cases r1; cases r2
    exact ⟨_, _, rfl, p _ S G H _ h k (.refl _ _ _) (.int _)⟩
  · exact h.elim⟩⟩
/-- a list of ints, of bools -/
def intsOf : List D → Option (List Int)
  | [] => some []
  | .int i :: r => (intsOf r).map (i :: ·)
  | _ => none
theorem ints_rep {G : Hp} : ∀ {ds : List D} {ns : List Int} {vs : List V}, RepL K G vs ds → intsOf ds = some ns → vs = ns.map V.int
  | [], ns, _, r, h => by simp only [intsOf, Option.some.injEq] at h; subst h; cases r; rfl
  | d :: ds, ns, _, r, h => by
    cases r with
    | cons r1 r2 =>
      cases d <;> simp only [intsOf, reduceCtorEq, Option.map_eq_some_iff] at h
      obtain ⟨ms, h1, rfl⟩ := h
      cases r1
      rw [ints_rep r2 h1]; rfl
def blsOf : List D → Option (List Bool)
  | [] => some []
  | .bl i :: r => (blsOf r).map (i :: ·)
  | _ => none
theorem bls_rep {G : Hp} : ∀ {ds : List D} {ns : List Bool} {vs : List V}, RepL K G vs ds → blsOf ds = some ns → vs = ns.map V.bl
  | [], ns, _, r, h => by simp only [blsOf, Option.some.injEq] at h; subst h; cases r; rfl
  | d :: ds, ns, _, r, h => by
    cases r with
    | cons r1 r2 =>
      cases d <;> simp only [blsOf, reduceCtorEq, Option.map_eq_some_iff] at h
      obtain ⟨ms, h1, rfl⟩ := h
      cases r1
      rw [bls_rep r2 h1]; rfl
def dSum : List D → Sto → DK → Prop := fun ds S Q => match ds with
  | [d] => match vw S d with
    | .lst xs => ∃ ns, intsOf xs = some ns ∧ Q (.int ns.sum) S
    | _ => False
  | _ => False
theorem dc_sum (hc : X.calm = true) : DC X (.builtin "sum") dSum := ⟨_, cr_sum hc, ⟨fun G H S xs vs Q P k r h p => by
  unfold dSum at h
  split at h
  · obtain ⟨v, rfl, r1⟩ := one_of r
    split at h
    · rename_i xs hx
      obtain ⟨ns, h1, h2⟩ := h
      obtain ⟨a1, us, e1, q1, l1⟩ := seq_of k r1 hx
      refine ⟨a1, ns, by rw [e1], ?_, p _ S G H _ h2 k (.refl _ _ _) (.int _)⟩
      rw [← ints_rep l1 h1]; exact .of q1
    · exact h.elim
  · exact h.elim⟩⟩
def dAllB (f : List Bool → Bool) : List D → Sto → DK → Prop := fun ds S Q => match ds with
  | [d] => match vw S d with
    | .lst xs => ∃ ns, blsOf xs = some ns ∧ Q (.bl (f ns)) S
    | _ => False
  | _ => False
def dAll := dAllB fun bs => bs.all id
def dAny := dAllB fun bs => bs.any id
theorem dc_all (hc : X.calm = true) : DC X (.builtin "all") dAll := ⟨_, cr_all hc, ⟨fun G H S xs vs Q P k r h p => by
  unfold dAll dAllB at h
  split at h
  · obtain ⟨v, rfl, r1⟩ := one_of r
    split at h
    · rename_i xs hx
      obtain ⟨ns, h1, h2⟩ := h
      obtain ⟨a1, us, e1, q1, l1⟩ := seq_of k r1 hx
      refine ⟨a1, ns, by rw [e1], ?_, p _ S G H _ h2 k (.refl _ _ _) (.bl _)⟩
      rw [← bls_rep l1 h1]; exact .of q1
    · exact h.elim
  · exact h.elim⟩⟩
theorem dc_any (hc : X.calm = true) : DC X (.builtin "any") dAny := ⟨_, cr_any hc, ⟨fun G H S xs vs Q P k r h p => by
  unfold dAny dAllB at h
  split at h
  · obtain ⟨v, rfl, r1⟩ := one_of r
    split at h
    · rename_i xs hx
      obtain ⟨ns, h1, h2⟩ := h
      obtain ⟨a1, us, e1, q1, l1⟩ := seq_of k r1 hx
      refine ⟨a1, ns, by rw [e1], ?_, p _ S G H _ h2 k (.refl _ _ _) (.bl _)⟩
      rw [← bls_rep l1 h1]; exact .of q1
    · exact h.elim
  · exact h.elim⟩⟩
def dOrd : List D → Sto → DK → Prop := fun ds S Q => match ds with
  | [.str x] => x.length = 1 ∧ Q (.int (x.cps.getD 0 0 : Nat)) S
  | _ => False
theorem dc_ord : DC X (.builtin "ord") dOrd := ⟨_, call_ord, ⟨fun G H S xs vs Q P k r h p => by
  unfold dOrd at h
  split at h
  · obtain ⟨v, rfl, r1⟩ := one_of r
    cases r1
    exact ⟨_, rfl, h.1, p _ S G H _ h.2 k (.refl _ _ _) (.int _)⟩
  · exact h.elim⟩⟩
/-! ### isinstance -/
def tyN : D → Option String
  | .non => some "NoneType" | .bl _ => some "bool" | .int _ => some "int" | .str _ => some "str"
  | .lst _ => some "list" | .tup _ => some "tuple" | .dic _ => some "dict"
  | _ => none
theorem ty_vw {G H : Hp} {S : Sto} {v : V} {d : D} {n : String} (k : Wok K G H S) (r : Rep K G v d) (h : tyN (vw S d) = some n) : TyX K H v (.type n) := by
  unfold vw at h
  split at h
  · split at h
    · rename_i p _ xs hs
      simp only [tyN, Option.some.injEq] at h; subst h
      cases r
      obtain ⟨_, vs, h1, _⟩ := k.sto _ _ hs
      exact .base (.lst h1)
    · rename_i p _ xs hs
      simp only [tyN, Option.some.injEq] at h; subst h
      cases r
      obtain ⟨_, vs, h1, _⟩ := k.sto _ _ hs
      exact .base (.dK h1)
    · simp [tyN] at h
    · simp [tyN] at h
  · cases r with
    | non => simp only [tyN, Option.some.injEq] at h; subst h; exact .base .non
    | bl b => simp only [tyN, Option.some.injEq] at h; subst h; exact .base (.bl b)
    | int i => simp only [tyN, Option.some.injEq] at h; subst h; exact .base (.int i)
    | str x => simp only [tyN, Option.some.injEq] at h; subst h; exact .base (.str x)
    | ref a => simp [tyN] at h
    | ty n => simp [tyN] at h
    | lst h1 _ => simp only [tyN, Option.some.injEq] at h; subst h; exact .base (.lst (k.ext _ _ h1))
    | tup h1 _ =>
      simp only [tyN, Option.some.injEq] at h; subst h
      rcases h1 with h1 | ⟨o, _, _, h1, h2, _⟩
      · exact .base (.tup (k.ext _ _ h1))
      · exact .kTuple h1 h2
    | scr h1 => simp [tyN] at h
    | dic h1 _ => simp only [tyN, Option.some.injEq] at h; subst h; exact .fDict (k.ext _ _ h1)
    | dit h1 _ => simp [tyN] at h
/-- isinstance of the built-in types that data have -/
def isaT (a b : String) : Option Bool :=
  if b = "int" then some (a = "int" || a = "bool") else if b = "bool" then some (a = "bool") else if b = "str" then some (a = "str") else if b = "list" then some (a = "list")
  else if b = "tuple" then some (a = "tuple") else if b = "dict" then some (a = "dict") else none
theorem isa_kit {d : D} {a b : String} {r : Bool} (ha : tyN d = some a) (h : isaT a b = some r) : PySem.W.kitOne K (.type a) (.type b) = some r := by
  refine kit_ty ?_
  have key : ∀ a ∈ ["NoneType", "bool", "int", "str", "list", "tuple", "dict"], ∀ b ∈ ["int", "bool", "str", "list", "tuple", "dict"], kitB a b = isaT a b := by decide +kernel
  have h1 : a ∈ ["NoneType", "bool", "int", "str", "list", "tuple", "dict"] := by
    cases d <;> simp only [tyN, reduceCtorEq, Option.some.injEq] at ha <;> (subst ha; decide)
  have h2 : b ∈ ["int", "bool", "str", "list", "tuple", "dict"] := by
    unfold isaT at h
    repeat' split at h
    all_goals first | (rename_i e; subst e; decide) | (rename_i e _; subst e; decide) | (cases h)
  rw [key a h1 b h2]; exact h
def isaAny (a : String) : List D → Option Bool
  | [] => some false
  | .ty b :: r => match isaT a b, isaAny a r with
    | some x, some y => some (x || y)
    | _, _ => none
  | _ => none
def dIsi : List D → Sto → DK → Prop := fun ds S Q => match ds with
  | [d, .ty b] => match tyN (vw S d) with
    | some a => match isaT a b with
      | some r => Q (.bl r) S
      | none => False
    | none => False
  | [d, .tup cs] => match tyN (vw S d) with
    | some a => match isaAny a cs with
      | some r => Q (.bl r) S
      | none => False
    | none => False
  | _ => False
theorem isa_any {d : D} {a : String} (ha : tyN d = some a) {G : Hp} : ∀ {cs : List D} {r : Bool} {vs : List V}, RepL K G vs cs → isaAny a cs = some r → ∃ us, Paired ClsV vs us ∧ PySem.W.kitAny K (.type a) us = some r
  | [], r, _, rp, h => by
    simp only [isaAny, Option.some.injEq] at h; subst h; cases rp
    exact ⟨[], .nil, kitAny_nil⟩
  | c :: cs, r, _, rp, h => by
    cases rp with
    | cons r1 r2 =>
      cases c with
      | ty b =>
        simp only [isaAny] at h
        split at h
        · rename_i x y hx hy
          simp only [Option.some.injEq] at h; subst h
          cases r1
          obtain ⟨us, h1, h2⟩ := isa_any ha r2 hy
          refine ⟨_ :: us, .cons (.ty b) h1, kitAny_cons (isa_kit ha hx) (fun e => ?_) fun e => ?_⟩
          · subst e; simpa using h2
          · subst e; rfl
        · cases h
      | _ => simp [isaAny] at h
theorem dc_isi : DC X (.builtin "isinstance") dIsi := ⟨_, call_isi.or (call_isiT.or call_isiK), ⟨fun G H S xs vs Q P k r h p => by
  unfold dIsi at h
  split at h
  · obtain ⟨v, v', rfl, r1, r2⟩ := two_of r
    split at h
    · rename_i a ha
      split at h
      · rename_i b hb
        cases r2
        exact .inl ⟨_, _, _, _, b, rfl, .ty _, ty_vw k r1 ha, isa_kit ha hb, p _ S G H _ h k (.refl _ _ _) (.bl _)⟩
      · exact h.elim
    · exact h.elim
  · obtain ⟨v, v', rfl, r1, r2⟩ := two_of r
    split at h
    · rename_i a ha
      split at h
      · rename_i b hb
        cases r2 with
        | tup h1 h2 =>
          obtain ⟨us, q1, q2⟩ := isa_any ha h2 hb
          rcases h1 with h1 | h1
          · exact .inr (.inl ⟨v, _, _, _, us, b, rfl, k.ext _ _ h1, q1, ty_vw k r1 ha, q2, p _ S G H _ h k (.refl _ _ _) (.bl _)⟩)
          · obtain ⟨⟨c, dd, dt, sl⟩, its, n, h3, h4, h5, _, h6⟩ := h1
            simp only at h4 h5
            subst h4 h5
            have e := ClsV.all q1 h6
            refine .inr (.inr ⟨v, _, dd, us, n, sl, _, b, rfl, ?_, ty_vw k r1 ha, q2, p _ S G H _ h k (.refl _ _ _) (.bl _)⟩)
            rw [h3, ← e]
      · exact h.elim
    · exact h.elim
  · exact h.elim⟩⟩
theorem de_ty {x : Str} {n : String} {pos : Pos} (hg : Gl X x) (hm : X.mg x = none) (hv : bootBuiltins x = some (.type n)) (hn : x ≠ "__name__" := by decide) (hd : (x == ("__debug__" : Str)) = false := by decide) : DE X W (.Name x pos) (dC (.ty n)) :=
  ⟨_, pe_bltn (v := .ty n) hg hm hv rfl hn hd, ev_c fun _ => .ty n⟩
end
end KD

set_option maxRecDepth 100000
set_option maxHeartbeats 4000000
/-! Kd6: in, methods of built-in types, raise of own errors. -/
namespace KD
open PySem PySem.Spec PyProof.Rows L2
section
variable {X : Cx} {W : WX} {K : PySem.W.Frag} {a b c e : Expr} {ra rb rc : DTE} {pos : Pos} {tg : Expr}
/-! ### in -/
def flatD : D → Bool
  | .non => true | .bl _ => true | .int _ => true | .str _ => true
  | _ => false
def eqF : D → D → Bool
  | .non, .non => true
  | .bl a, .bl b => a == b
  | .bl a, .int b => (if a then 1 else 0) == b
  | .int a, .bl b => a == (if b then 1 else 0)
  | .int a, .int b => a == b
  | .str a, .str b => a == b
  | _, _ => false
theorem flat_rep {G : Hp} {v : V} {d : D} (r : Rep K G v d) (h : flatD d = true) : flatV v = true := by cases r <;> first | rfl | (simp [flatD] at h)
theorem eqF_rep {G : Hp} {v w : V} {d f : D} (r : Rep K G v d) (q : Rep K G w f) (h : flatD d = true) (h' : flatD f = true) : eqV v w = eqF d f := by
  cases r <;> first | (simp [flatD] at h; done) | (cases q <;> first | rfl | (simp [flatD] at h'))
theorem flat_all {G : Hp} : ∀ {vs : List V} {xs : List D}, RepL K G vs xs → xs.all flatD = true → vs.all flatV = true
  | [], _, r, h => by cases r; rfl
  | v :: vs, _, r, h => by
    cases r with
    | cons r1 r2 =>
      simp only [List.all_cons, Bool.and_eq_true] at h ⊢
      exact ⟨flat_rep r1 h.1, flat_all r2 h.2⟩
def inF (x : D) (xs : List D) : Bool := xs.any fun y => eqF y x
theorem inF_rep {G : Hp} {v : V} {x : D} (rx : Rep K G v x) (hx : flatD x = true) : ∀ {vs : List V} {xs : List D}, RepL K G vs xs → xs.all flatD = true → inV v vs = inF x xs
  | [], _, r, h => by cases r; rfl
  | w :: vs, _, r, h => by
    cases r with
    | cons r1 r2 =>
      simp only [List.all_cons, Bool.and_eq_true] at h
      show (eqV w v || inV v vs) = (eqF _ x || inF x _)
      rw [eqF_rep r1 rx h.1 hx, inF_rep rx hx r2 h.2]
def inStr (x z : Str) : Bool := !(Builtin.Str.occurrences z x 0 z.length 1).isEmpty
def dInB (neg : Bool) : D → D → Sto → DK → Prop := fun x y S Q => match vw S y with
  | .lst xs => flatD x = true ∧ xs.all flatD = true ∧ Q (.bl (if neg then !inF x xs else inF x xs)) S
  | .tup xs => flatD x = true ∧ xs.all flatD = true ∧ Q (.bl (if neg then !inF x xs else inF x xs)) S
  | .str z => match x with
    | .str s => Q (.bl (if neg then !inStr s z else inStr s z)) S
    | _ => False
  | _ => False
def dIn := dInB false
def dNotIn := dInB true
theorem rv_in {neg : Bool} {r : R2} (h1 : ∀ x y H Q, rIn X.K neg x y H Q → r x y H Q) (h2 : ∀ i j H (Q : VK), Q (.bl (if neg then !inStr i j else inStr i j)) H → r (.str i) (.str j) H Q) : RvD X.K r (dInB neg) := ⟨fun G H S x y v u Q P k r1 r2 h p => by
  unfold dInB at h
  split at h
  · rename_i xs hx
    obtain ⟨a1, us, e1, q1, l1⟩ := seq_of k r2 hx
    refine h1 _ _ _ _ ⟨a1, us, e1, .inl (.of q1), flat_rep r1 h.1, flat_all l1 h.2.1, ?_⟩
    rw [inF_rep r1 h.1 l1 h.2.1]
    exact p _ S G H _ h.2.2 k (.refl _ _ _) (.bl _)
  · rename_i xs hx
    obtain ⟨a1, us, e1, q1, l1, _⟩ := tup_of k r2 hx
    refine h1 _ _ _ _ ⟨a1, us, e1, .inr q1.sq, flat_rep r1 h.1, flat_all l1 h.2.1, ?_⟩
    rw [inF_rep r1 h.1 l1 h.2.1]
    exact p _ S G H _ h.2.2 k (.refl _ _ _) (.bl _)
  · rename_i z hz
    split at h
    · cases r1
      rw [str_of r2 hz]
      exact h2 _ _ _ _ (p _ S G H _ h k (.refl _ _ _) (.bl _))
    · exact h.elim
  · exact h.elim⟩
theorem dop_in : DOp X (compareOp .In) dIn := ⟨_, op_in_seq.or op_in_str, rv_in (fun _ _ _ _ h => .inl h) fun i j H Q h => .inr ⟨i, j, rfl, rfl, h⟩⟩
theorem dop_notIn : DOp X (compareOp .NotIn) dNotIn := ⟨_, op_notIn_seq.or op_notIn_str, rv_in (fun _ _ _ _ h => .inl h) fun i j H Q h => .inr ⟨i, j, rfl, rfl, by simpa [inStr] using h⟩⟩
/-! ### methods of built-in types -/
structure RmD (K : PySem.W.Frag) (r : V → List V → Hp → VK → Prop) (q : D → List D → Sto → DK → Prop) : Prop where
  run : ∀ (G H : Hp) (S : Sto) (x : D) (ys : List D) (v : V) (vs : List V) (Q : DK) (P : VK), Wok K G H S → Rep K G v x → RepL K G vs ys → q x ys S Q →
    (∀ d S' G' H' z, Q d S' → Wok K G' H' S' → Fr G H S G' H' S' → Rep K G' z d → P z H') → r v vs H P
def DM1 (X : Cx) (id : String) (q : D → List D → Sto → DK → Prop) : Prop := ∃ r, MtR X id r ∧ RmD X.K r q
def isTy (T : String) : D → Bool
  | .lst _ => T == "list"
  | .str _ => T == "str"
  | _ => false
theorem tyV_of {G H : Hp} {S : Sto} {v : V} {d : D} {T : String} (k : Wok K G H S) (r : Rep K G v d) (h : isTy T (vw S d) = true) : tyV K T v H := by
  cases e : vw S d with
  | lst xs =>
    rw [e] at h
    obtain ⟨a1, us, e1, q1, l1⟩ := seq_of k r e
    rw [e1]
    exact .inl ⟨by simpa [isTy] using h, us, .of q1⟩
  | str z =>
    rw [e] at h
    rw [str_of r e]
    show T = "str"
    simpa [isTy] using h
  | _ => rw [e] at h; simp [isTy] at h
def dBM (T : String) (q : D → List D → Sto → DK → Prop) (ro : DTE) (r : DTA) : DTE := fun E σ S Q => ro E σ S fun x S1 => isTy T (vw S1 x) = true ∧ r E σ S1 fun ys S2 => q x ys S2 Q
def dBM0 (T : String) (q : D → List D → Sto → DK → Prop) (ro : DTE) : DTE := fun E σ S Q => ro E σ S fun x S1 => isTy T (vw S1 x) = true ∧ q x [] S1 Q
theorem de_bm {o : Expr} {es : List Expr} {ro : DTE} {r : DTA} {q : D → List D → Sto → DK → Prop} {name : Str} {apos cpos : Pos} {T id : String} (pa : PlainAttrs T) (slot : Slot T name id) (hty : typeOf (.builtin id) = pure (.type "method_descriptor")) (hm : DM1 X id q) (ho : DE X W o ro) (ha : DA X W (e :: es) r)
    (hbase : attributeBase o name X.env (eval o X.env) = eval o X.env := by rfl)
    (hfew : ((backTo cpos (starEach (e :: es) X.env)).all (fun x => !x.1) && (backToKw cpos (keywordEach [] X.env)).all (fun x => x.1.isSome)
      && decide ((e :: es).length + ([] : List Keyword).length + (if ([] : List Keyword).isEmpty then 0 else 1) < 30)) = true := by rfl)
    (hline : (apos.endLine == cpos.line) = true := by rfl) (hs : starEach (e :: es) X.env = (false, eval e X.env) :: starEach es X.env := by rfl) (hplain : (backTo cpos (starEach es X.env)).any (·.1) = false := by rfl) :
    DE X W (.Call (.Attribute o name apos) (e :: es) [] cpos) (dBM T q ro r) := by
  obtain ⟨to, po, eo⟩ := ho
  obtain ⟨t, p, ea⟩ := ha
  obtain ⟨rm, m, em⟩ := hm
  refine ⟨_, pe_bm pa slot hty m po p hbase hfew hline hs hplain, ⟨fun E G H S σV σ Q P w k s h f => ?_⟩⟩
  refine eo.run E G H S σV σ _ _ w k s h fun x S1 G1 H1 v h1 k1 f1 r1 => ⟨tyV_of k1 r1 h1.1, ?_⟩
  refine ea.run E G1 H1 S1 σV σ _ _ (w.mono f1) k1 (s.mono f1.g) h1.2 fun ys S2 G2 H2 vs h2 k2 f2 r2 => ?_
  exact em.run G2 H2 S2 x ys v vs Q P k2 (r1.mono f2.g) r2 h2 fun d S3 G3 H3 z h3 k3 f3 r3 => f d S3 G3 H3 z h3 k3 ((f1.trans f2).trans f3) r3
theorem de_bm0 {o : Expr} {ro : DTE} {q : D → List D → Sto → DK → Prop} {name : Str} {apos cpos : Pos} {T id : String} (pa : PlainAttrs T) (slot : Slot T name id) (hty : typeOf (.builtin id) = pure (.type "method_descriptor")) (hm : DM1 X id q) (ho : DE X W o ro)
    (hbase : attributeBase o name X.env (eval o X.env) = eval o X.env := by rfl) (hline : (apos.endLine == cpos.line) = true := by rfl) : DE X W (.Call (.Attribute o name apos) [] [] cpos) (dBM0 T q ro) := by
  obtain ⟨to, po, eo⟩ := ho
  obtain ⟨rm, m, em⟩ := hm
  refine ⟨_, pe_bm0 pa slot hty m po hbase hline, ⟨fun E G H S σV σ Q P w k s h f => ?_⟩⟩
  refine eo.run E G H S σV σ _ _ w k s h fun x S1 G1 H1 v h1 k1 f1 r1 => ⟨tyV_of k1 r1 h1.1, ?_⟩
  exact em.run G1 H1 S1 x [] v [] Q P k1 r1 .nil h1.2 fun d S3 G3 H3 z h3 k3 f3 r3 => f d S3 G3 H3 z h3 k3 (f1.trans f3) r3
def dAppend : D → List D → Sto → DK → Prop := fun x ys S Q => match x, ys with
  | .ref p, [y] => ∃ xs, S p = some (.lst xs) ∧ xs.length < sizeLine ∧ Q .non (put S p (.lst (xs ++ [y])))
  | _, _ => False
theorem dm_append : DM1 X "list.append" dAppend := ⟨_, mt_append, ⟨fun G H S x ys v vs Q P k r1 r2 h p => by
  unfold dAppend at h
  split at h
  · obtain ⟨xs, h1, h2, h3⟩ := h
    obtain ⟨y, rfl, ry⟩ := one_of r2
    cases r1
    obtain ⟨_, us, q1, q2⟩ := k.sto _ _ h1
    refine ⟨_, us, y, rfl, rfl, q1, by rw [q2.length]; exact h2, ?_⟩
    obtain ⟨k2, f2⟩ := k.chS (o := .lst (us ++ [y])) (m := .lst (xs ++ [_])) h1 ⟨_, upd_same, q2.append (.one ry)⟩
    exact p _ _ _ _ _ h3 k2 f2 .non
  · exact h.elim⟩⟩
/-- l.append(e) as the generator writes it -/
theorem de_append {o : Expr} {ro re : DTE} {apos cpos : Pos} (ho : DE X W o ro) (he : DE X W e re) (hbase : attributeBase o "append" X.env (eval o X.env) = eval o X.env := by rfl)
    (hfew : ((backTo cpos (starEach [e] X.env)).all (fun x => !x.1) && (backToKw cpos (keywordEach [] X.env)).all (fun x => x.1.isSome)
      && decide (([e] : List Expr).length + ([] : List Keyword).length + (if ([] : List Keyword).isEmpty then 0 else 1) < 30)) = true := by rfl)
    (hline : (apos.endLine == cpos.line) = true := by rfl) (hs : starEach [e] X.env = (false, eval e X.env) :: starEach [] X.env := by rfl) (hplain : (backTo cpos (starEach [] X.env)).any (·.1) = false := by rfl) :
    DE X W (.Call (.Attribute o "append" apos) [e] [] cpos) (dBM "list" dAppend ro (dCons re dNil)) :=
  de_bm PySem.F.plainAttrs_list PySem.F.slot_list_append PySem.F.type_list_append dm_append ho (da_cons he da_nil hs) hbase hfew hline hs hplain
end
/-! ### own errors -/
/-- what the module tells of an own error's class C whose __init__ at fI stores its arguments under the names ns -/
def spInit1 (K : PySem.W.Frag) (n : Str) : Sp := fun vs H Q _ => ∃ (a C : Addr) (y : V), vs = [.ref a, y] ∧ OexC K C ∧ PySem.W.findIn K (.ref C) n = some none ∧ H a = some (exo a C none) ∧ ∀ d, H d = none → d ≠ a → Q .non (upd (upd H d (exd d [(n, y)])) a (exo a C (some d)))
structure ErrC (K : PySem.W.Frag) (mg : Str → Option Value) (P : Program) (w : World) (base : Heap) (x : Str) (C : Addr) (n : Str) (ds : List Value) (dvs : List V) : Prop where
  gC : mg x = some (.ref C)
  oex : OexC K C
  hno : PySem.W.findIn K (.ref C) n = some none
  fn : ∃ (fI : Addr) (fd : FuncData) (ps : List Str), PySem.W.findIn K (.ref C) "__init__" = some (some (.ref fI)) ∧ PySem.W.typeIn K (.ref fI) = some (.type "function") ∧ FnOk P w K mg base (L2.CX P w) 1 fI fd ps (spInit1 K n) ∧ Binds K fd ps ds ∧ Vals dvs ds
section
variable {X : Cx} {W : WX} {K : PySem.W.Frag} {e : Expr} {re : DTE} {pos : Pos}
def dRaise1 (C : Addr) (n : Str) (r : DTA) : DTS := fun Z σ S => r (exOf Z σ) σ S fun ds S' => match ds with
  | [y] => ∀ d, S' d = none → Z.ex C d σ (put S' d (.xd [(n, y)]))
  | _ => False
/-- raise C(e) -/
theorem ds_raise1 {x : Str} {C : Addr} {n : Str} {p p2 : Pos} {r : DTA} (hc : X.calm = true) (tk : Takes X W) (E : ErrC X.K X.mg X.prog X.w X.base x C n [] []) (hr : Room 2 X.A) (hg : Gl X x) (ha : DA X W [e] r) (hdb : (x == ("__debug__" : Str)) = false := by decide)
    (he : starEach [e] X.env = (false, eval e X.env) :: starEach [] X.env := by rfl) (hpl : (backTo pos (starEach [] X.env)).any (·.1) = false := by rfl) :
    DS X W (.Raise (some (.Call (.Name x p) [e] [] pos)) none p2) (dRaise1 C n r) := by
  obtain ⟨t, pa, ea⟩ := ha
  obtain ⟨fI, fd, ps, h1, h2, F1, hb, hv⟩ := E.fn
  cases hv
  refine ⟨_, ps_raise hc tk (pmk_oex E.oex h1 h2 F1 hr hb .nil passL hg E.gC pa hdb he hpl), ⟨fun Dd G H S σV σ Dh eo k s h => ?_⟩⟩
  refine ea.run _ G H S σV σ _ _ (eo.wok s) k s h fun ds S' G' H' vs hd k' f r => ?_
  match ds, vs, r, hd with
  | [y], [v], .cons r1 .nil, hd =>
    refine ⟨by show 1 ≤ 1000; decide, fun a ha => ?_⟩
    refine ⟨a, C, v, rfl, E.oex, E.hno, upd_same, fun d hd' hne => ⟨rfl, d, [(n, v)], upd_same, ?_, ?_, ?_⟩⟩
    · rw [upd_ne hne, upd_same]
    · rw [upd_ne hne] at hd'; exact hd'
    · rw [upd_ne hne] at hd'
      have e : upd (del (upd (upd (upd H' a (exo a C none)) d (exd d [(n, v)])) a (exo a C (some d))) a) d (.xd [(n, v)]) = upd H' d (.xd [(n, v)]) := by
        funext b
        by_cases h1 : b = d
        · subst h1; rw [upd_same, upd_same]
        · rw [upd_ne h1, upd_ne h1]
          by_cases h2 : b = a
          · subst h2; rw [del_same, ha]
          · rw [del_ne h2, upd_ne h2, upd_ne h1, upd_ne h2]
      rw [e]
      obtain ⟨k2, f2⟩ := k'.newS (o := .xd [(n, v)]) (m := .xd [(n, y)]) hd' ⟨_, upd_same, .cons ⟨rfl, r1⟩ .nil⟩
      exact eo.ex C d σ _ _ _ σV (hd d (k'.freeS hd')) k2 (f.trans f2) (s.mono (f.trans f2).g)
end
end KD

set_option maxRecDepth 100000
set_option maxHeartbeats 4000000
/-! Kd7: joined operators, calls of defs by what they have, own errors' __init__, a law's end. -/
namespace KD
open PySem PySem.Spec PyProof.Rows L2
section
variable {X : Cx} {W : WX} {K : PySem.W.Frag} {a b c e : Expr} {ra rb rc : DTE} {pos : Pos} {tg : Expr}
/-! ### * of anything, - of one, == of anything -/
def dMul : D → D → Sto → DK → Prop := fun x y S Q => match vw S x, y with
  | .int i, .int j => IntMulOk i j ∧ Q (.int (i * j)) S
  | .lst xs, .int k => -(2 ^ 63) ≤ k ∧ k < 2 ^ 63 ∧ xs.length * k.toNat ≤ sizeLine ∧ Q (.lst (List.replicate k.toNat xs).flatten) S
  | .tup xs, .int k => xs ≠ [] ∧ 2 ≤ k ∧ k ≤ 1000 ∧ xs.length ≤ 1000 ∧ Q (.tup (List.replicate k.toNat xs).flatten) S
  | _, _ => False
theorem rvd_or {r r' : R2} {q q' q2 : D → D → Sto → DK → Prop} (h : RvD K r q) (h' : RvD K r' q') (hq : ∀ x y S Q, q2 x y S Q → q x y S Q ∨ q' x y S Q) : RvD K (fun x y H Q => r x y H Q ∨ r' x y H Q) q2 := ⟨fun G H S x y v u Q P k r1 r2 z p => by
  rcases hq x y S Q z with z | z
  · exact .inl (h.run G H S x y v u Q P k r1 r2 z p)
  · exact .inr (h'.run G H S x y v u Q P k r1 r2 z p)⟩
theorem DOp.or {f : Value → Value → Sem Value} {q q' q2 : D → D → Sto → DK → Prop} (h : DOp X f q) (h' : DOp X f q') (hq : ∀ x y S Q, q2 x y S Q → q x y S Q ∨ q' x y S Q) : DOp X f q2 := by
  obtain ⟨r, o, e⟩ := h
  obtain ⟨r', o', e'⟩ := h'
  exact ⟨_, o.or o', rvd_or e e' hq⟩
theorem vw_int {S : Sto} {d : D} {i : Int} (h : vw S d = .int i) : d = .int i := by
  unfold vw at h
  split at h
  · split at h <;> cases h
  · exact h
theorem dop_mul : DOp X (binaryOp .Mult) dMul := dop_mulI.or dop_rep fun x y S Q h => by
  unfold dMul at h
  split at h
  · rename_i h1
    rw [vw_int h1]
    exact .inl h
  · rename_i h1
    refine .inr ?_
    unfold dRep
    rw [h1]; exact h
  · rename_i h1
    refine .inr ?_
    unfold dRep
    rw [h1]; exact h
  · exact h.elim
def dUn (g : Int → Int) (ra : DTE) : DTE := fun E σ S Q => ra E σ S fun d S' => match d with
  | .int i => Q (.int (g i)) S'
  | _ => False
theorem de_neg (ha : DE X W a ra) : DE X W (.UnaryOp .USub a pos) (dUn (fun i => -i) ra) := by
  obtain ⟨t, p, q⟩ := ha
  refine ⟨_, pe_un un_neg p, ⟨fun E G H S σV σ Q P w k s h f => q.run E G H S σV σ _ _ w k s h fun d S' G' H' v hd k' g r => ?_⟩⟩
  cases d with
  | int i => cases r; exact ⟨i, rfl, f _ S' G' H' _ hd k' g (.int _)⟩
  | _ => exact hd.elim
theorem flat_py {d : D} (h : flatD d = true) : ∃ p, toPy d = some p ∧ SeqAt.EqAt = SeqAt.EqAt := by cases d <;> first | (simp [flatD] at h; done) | exact ⟨_, rfl, rfl⟩
/-- == of lists that lengths decide -/
def dEqLen (neg : Bool) : D → D → Sto → DK → Prop := fun x y S Q => ∃ xs ys, vw S x = .lst xs ∧ vw S y = .lst ys ∧ ((xs.length ≠ ys.length ∧ Q (.bl neg) S) ∨ (xs = [] ∧ ys = [] ∧ Q (.bl (!neg)) S))
def rEqLen (K : PySem.W.Frag) (neg : Bool) : R2 := fun x y H Q => ∃ a b vs us, x = .ref a ∧ y = .ref b ∧ SqL K H a vs ∧ SqL K H b us ∧ ((vs.length ≠ us.length ∧ Q (.bl neg) H) ∨ (vs = [] ∧ us = [] ∧ Q (.bl (!neg)) H))
theorem rv_eqLen {neg : Bool} : RvD K (rEqLen K neg) (dEqLen neg) := ⟨fun G H S x y v u Q P k r1 r2 h p => by
  obtain ⟨xs, ys, h1, h2, h3⟩ := h
  obtain ⟨a, vs, rfl, q1, l1⟩ := seq_of k r1 h1
  obtain ⟨b, us, rfl, q2, l2⟩ := seq_of k r2 h2
  refine ⟨a, b, vs, us, rfl, rfl, .of q1, .of q2, ?_⟩
  rcases h3 with ⟨e, q⟩ | ⟨e1, e2, q⟩
  · exact .inl ⟨by rw [l1.length, l2.length]; exact e, p _ S G H _ q k (.refl _ _ _) (.bl _)⟩
  · subst e1 e2
    cases l1; cases l2
    exact .inr ⟨rfl, rfl, p _ S G H _ q k (.refl _ _ _) (.bl _)⟩⟩
theorem dop_eqLen (hu : X.A.units + 64 < cLine) : DOp X (compareOp .Eq) (dEqLen false) := ⟨_, fun pins s σ H x y v u Q I rx ry h => by
  obtain ⟨a, b, vs, us, rfl, rfl, h1, h2, h3⟩ := h
  obtain rfl : v = Value.ref a := rx
  obtain rfl : u = Value.ref b := ry
  obtain ⟨its, rv, pl, hz⟩ := I.list h1
  obtain ⟨its2, rv2, pl2, hz2⟩ := I.list h2
  rcases h3 with ⟨e, q⟩ | ⟨e1, e2, q⟩
  · exact SeqAt.eq_list_lengthsAt pl.isList pl2.isList (by simp only [List.size_toArray, bne_iff_ne, ne_eq]; rw [← rv.length, ← rv2.length]; exact e) (by omega) ⟨.bl false, H, I, rfl, q⟩
  · subst e1 e2
    cases rv; cases rv2
    exact SeqAt.eq_listAt (e := fun _ => true) pl.isList pl2.isList rfl (by omega) (fun j h1 => absurd h1 (by simp)) ⟨.bl true, H, I, rfl, q⟩, rv_eqLen⟩
theorem dop_neLen (hu : X.A.units + 64 < cLine) : DOp X (compareOp .NotEq) (dEqLen true) := ⟨_, fun pins s σ H x y v u Q I rx ry h => by
  obtain ⟨a, b, vs, us, rfl, rfl, h1, h2, h3⟩ := h
  obtain rfl : v = Value.ref a := rx
  obtain rfl : u = Value.ref b := ry
  obtain ⟨its, rv, pl, hz⟩ := I.list h1
  obtain ⟨its2, rv2, pl2, hz2⟩ := I.list h2
  rcases h3 with ⟨e, q⟩ | ⟨e1, e2, q⟩
  · exact SeqAt.RcNeAt.lists_lengths pl.isList pl2.isList (by simp only [List.size_toArray, bne_iff_ne, ne_eq]; rw [← rv.length, ← rv2.length]; exact e) (by omega) _ _ _ _ ⟨.bl true, H, I, rfl, q⟩
  · subst e1 e2
    cases rv; cases rv2
    exact SeqAt.RcNeAt.lists (e := fun _ => true) pl.isList pl2.isList rfl (by omega) (fun j h1 => absurd h1 (by simp)) _ _ _ _ ⟨.bl false, H, I, rfl, q⟩, rv_eqLen⟩
/-- == of scalars by eqF, of others by data -/
def dEqG : D → D → Sto → DK → Prop := fun x y S Q => match flatD x, flatD y with
  | true, true => Q (.bl (eqF x y)) S
  | _, _ => dEq x y S Q ∨ dEqLen false x y S Q
def dNeG : D → D → Sto → DK → Prop := fun x y S Q => match flatD x, flatD y with
  | true, true => Q (.bl (!eqF x y)) S
  | _, _ => dNe x y S Q ∨ dEqLen true x y S Q
theorem eqF_sc {x y : D} {s t : Sc} (hx : scOf x = some s) (hy : scOf y = some t) (h : scal s.v t.v = true) : decide (s = t) = eqF x y := by
  cases x <;> simp only [scOf, reduceCtorEq, Option.some.injEq] at hx <;> cases y <;> simp only [scOf, reduceCtorEq, Option.some.injEq] at hy <;> subst hx hy <;> first | (simp [Sc.v, scal] at h; done) | (rw [Bool.eq_iff_iff]; simp [eqF]; done)
theorem flat_sc {x : D} (h : flatD x = true) : ∃ s, scOf x = some s := by cases x <;> first | exact ⟨_, rfl⟩ | (simp [flatD] at h)
theorem eqF_bi {x y : D} {s t : Sc} (hx : scOf x = some s) (hy : scOf y = some t) (h : ¬ scal s.v t.v = true) : ∃ p q, toPy x = some p ∧ toPy y = some q ∧ SeqAt.shaped p = true ∧ SeqAt.shaped q = true ∧ PyData.eqv p q = eqF x y := by
  cases x <;> simp only [scOf, reduceCtorEq, Option.some.injEq] at hx <;> cases y <;> simp only [scOf, reduceCtorEq, Option.some.injEq] at hy <;> subst hx hy <;> first
    | (simp [Sc.v, scal] at h; done)
    | exact ⟨_, _, rfl, rfl, by simp [SeqAt.shaped, PyData.canLay0, PyData.depth], by simp [SeqAt.shaped, PyData.canLay0, PyData.depth], rfl⟩
theorem vw_flat {S : Sto} {x : D} (h : flatD x = true) : vw S x = x := by cases x <;> first | rfl | (simp [flatD] at h)
theorem dop_eqG (hu : X.A.units + 64 < cLine) : DOp X (compareOp .Eq) dEqG := (dop_eqS).or ((dop_eq hu).or (dop_eqLen hu) (q2 := fun x y S Q => dEq x y S Q ∨ dEqLen false x y S Q) fun _ _ _ _ h => h) fun x y S Q h => by
  unfold dEqG at h
  split at h
  · rename_i h1 h2
    obtain ⟨s, hs⟩ := flat_sc h1
    obtain ⟨t, ht⟩ := flat_sc h2
    by_cases c : scal s.v t.v = true
    · refine .inl ?_
      unfold dEqS
      rw [hs, ht]
      refine ⟨c, ?_⟩
      rw [eqF_sc hs ht c]; exact h
    · refine .inr (.inl ?_)
      obtain ⟨p, q, a1, a2, a3, a4, a5⟩ := eqF_bi hs ht c
      exact ⟨p, q, by rw [vw_flat h1]; exact a1, by rw [vw_flat h2]; exact a2, a3, a4, by rw [a5]; exact h⟩
  · exact .inr h
theorem dop_neG (hu : X.A.units + 64 < cLine) : DOp X (compareOp .NotEq) dNeG := (dop_neS).or ((dop_ne hu).or (dop_neLen hu) (q2 := fun x y S Q => dNe x y S Q ∨ dEqLen true x y S Q) fun _ _ _ _ h => h) fun x y S Q h => by
  unfold dNeG at h
  split at h
  · rename_i h1 h2
    obtain ⟨s, hs⟩ := flat_sc h1
    obtain ⟨t, ht⟩ := flat_sc h2
    by_cases c : scal s.v t.v = true
    · refine .inl ?_
      unfold dNeS
      rw [hs, ht]
      refine ⟨c, ?_⟩
      rw [eqF_sc hs ht c]; exact h
    · refine .inr (.inl ?_)
      obtain ⟨p, q, a1, a2, a3, a4, a5⟩ := eqF_bi hs ht c
      exact ⟨p, q, by rw [vw_flat h1]; exact a1, by rw [vw_flat h2]; exact a2, a3, a4, by rw [a5]; exact h⟩
  · exact .inr h
/-! ### a chain as a test -/
theorem ev_chain {ta tb tc : TE} {r r' : R2} {q q' : D → D → Sto → DK → Prop} (ea : EvD K W ta ra) (eb : EvD K W tb rb) (ec : EvD K W tc rc) (eo : RvD K r q) (eo' : RvD K r' q') : EvD K W (tChain r r' ta tb tc) (dChain q q' ra rb rc) := by
  refine ⟨fun E G H S σV σ Q P w k s h p => ?_⟩
  refine ea.run E G H S σV σ _ _ w k s h fun x S1 G1 H1 v h1 k1 f1 r1 => ?_
  refine eb.run E G1 H1 S1 σV σ _ _ (w.mono f1) k1 (s.mono f1.g) h1 fun y S2 G2 H2 u h2 k2 f2 r2 => ?_
  have f12 := f1.trans f2
  refine eo.run G2 H2 S2 x y v u _ _ k2 (r1.mono f2.g) r2 h2 fun d S3 G3 H3 z h3 k3 f3 r3 => ?_
  have f13 := f12.trans f3
  cases d with
  | bl m =>
    cases r3
    refine ⟨m, rfl, ?_⟩
    cases m with
    | true =>
      rw [if_pos rfl]
      have h3 : rc E σ S3 fun z S4 => q' y z S4 Q := h3
      refine ec.run E G3 H3 S3 σV σ _ _ (w.mono f13) k3 (s.mono f13.g) h3 fun z S4 G4 H4 t h4 k4 f4 r4 => ?_
      exact eo'.run G4 H4 S4 y z u t _ _ k4 (r2.mono (f3.trans f4).g) r4 h4 fun d' S5 G5 H5 z' h5 k5 f5 r5 => p d' S5 G5 H5 z' h5 k5 ((f13.trans f4).trans f5) r5
    | false =>
      rw [if_neg Bool.false_ne_true]
      exact p _ S3 G3 H3 _ h3 k3 f13 (.bl _)
  | _ => exact h3.elim
theorem dt_chain {op op' : CmpOp} {q q' : D → D → Sto → DK → Prop} (ho : DOp X (compareOp op) q) (ho' : DOp X (compareOp op') q') (ha : DE X W a ra) (hb : DE X W b rb) (hc : DE X W c rc)
    (hm : lastMarks [op, op'] [b, c] = false := by with_unfolding_all rfl) : DT X W (.Compare a [op, op'] [b, c] pos) (dTest (dChain q q' ra rb rc)) := by
  obtain ⟨ta, pa, ea⟩ := ha
  obtain ⟨tb, pb, eb⟩ := hb
  obtain ⟨tc, pc, ec⟩ := hc
  obtain ⟨r, o, eo⟩ := ho
  obtain ⟨r', o', eo'⟩ := ho'
  exact ⟨_, pt_chain o o' pa pb pc hm, evt_test (ev_chain ea eb ec eo eo')⟩
theorem de_chain' {op op' : CmpOp} {q q' : D → D → Sto → DK → Prop} (ho : DOp X (compareOp op) q) (ho' : DOp X (compareOp op') q') (ha : DE X W a ra) (hb : DE X W b rb) (hc : DE X W c rc)
    (hm : lastMarks [op, op'] [b, c] = false := by with_unfolding_all rfl) : DE X W (.Compare a [op, op'] [b, c] pos) (dChain q q' ra rb rc) := by
  obtain ⟨ta, pa, ea⟩ := ha
  obtain ⟨tb, pb, eb⟩ := hb
  obtain ⟨tc, pc, ec⟩ := hc
  obtain ⟨r, o, eo⟩ := ho
  obtain ⟨r', o', eo'⟩ := ho'
  exact ⟨_, pe_chain o o' pa pb pc hm, ev_chain ea eb ec eo eo'⟩
/-! ### a, b, c = x, y, z -/
def dPar3 (i j l : Nat) (r : DTA) : DTS := fun Z σ S => r (exOf Z σ) σ S fun ds S' => match ds with
  | [x, y, z] => Z.nx (((σ.set i (some x)).set j (some y)).set l (some z)) S'
  | _ => False
theorem ds_par3 {i j l : Nat} {x y z : Str} {r : DTA} {px py pz pt : Pos} {kt k2 pt2} (hc : X.calm = true) (hN : X.N.Nodup) (hi : X.N[i]? = some x) (hj : X.N[j]? = some y) (hl : X.N[l]? = some z) (hij : i ≠ j) (hil : i ≠ l) (hjl : j ≠ l)
    (hx : X.env.scope.names.lookup x = some .local) (hy : X.env.scope.names.lookup y = some .local) (hz : X.env.scope.names.lookup z = some .local) (ha : DA X W [a, b, c] r)
    (hw : swappedStores [.Tuple [.Name x px, .Name y py, .Name z pz] kt pt] (.Tuple [a, b, c] k2 pt2) X.env = pure (some [x, y, z]) := by rfl)
    (hs : swapsWithSole [.Tuple [.Name x px, .Name y py, .Name z pz] kt pt] (.Tuple [a, b, c] k2 pt2) pos.line X.env = pure false := by rfl) :
    DS X W (.Assign [.Tuple [.Name x px, .Name y py, .Name z pz] kt pt] (.Tuple [a, b, c] k2 pt2) pos) (dPar3 i j l r) := by
  obtain ⟨t, p, q⟩ := ha
  refine ⟨_, ps_par3 hc hN hi hj hl hij hil hjl hx hy hz p hw hs, ⟨fun Dd G H S σV σ Dh eo k s h => ?_⟩⟩
  refine q.run _ G H S σV σ _ _ (eo.wok s) k s h fun ds S' G' H' vs hd k' f r => ?_
  match ds, vs, r, hd with
  | [d1, d2, d3], [v1, v2, v3], .cons r1 (.cons r2 (.cons r3 .nil)), hd => exact ⟨v1, v2, v3, rfl, eo.nx.go _ S' G' H' _ hd k' f ((((s.mono f.g).set i r1).set j r2).set l r3)⟩
/-! ### x op= e by operators of ints -/
theorem dip_add : DIp X .Add dAddI := ⟨_, ip_add, ⟨fun G H S x y v u Q P k r1 r2 h p => by
  unfold dAddI dI0 at h
  split at h
  · cases r1; cases r2
    exact ⟨_, _, rfl, rfl, p _ S G H _ h k (.refl _ _ _) (.int _)⟩
  · exact h.elim⟩⟩
theorem dip_sub : DIp X .Sub dSub := ⟨_, ip_sub, ⟨fun G H S x y v u Q P k r1 r2 h p => by
  unfold dSub dI0 at h
  split at h
  · cases r1; cases r2
    exact ⟨_, _, rfl, rfl, p _ S G H _ h k (.refl _ _ _) (.int _)⟩
  · exact h.elim⟩⟩
/-! ### tuples that the module has written -/
theorem de_globT {x : Str} {p : Addr} {o : Obj} {its : Array Value} {n : Nat} {vs : List V} {ds : List D} (hg : Gl X x) (hm : X.mg x = some (.ref p)) (hk : X.K.lookup p = some o) (hc : o.cls = .type "tuple") (hd : o.data = .seq its n) (hz : its.size ≤ sizeLine) (hv : Vals vs its.toList) (hr : ∀ G, RepL X.K G vs ds)
    (hdb : (x == ("__debug__" : Str)) = false := by decide) : DE X W (.Name x pos) (dC (.tup ds)) :=
  ⟨_, pe_glob (v := .ref p) hg hm rfl hdb, ev_c fun G => .tup (.inr ⟨o, its, n, hk, hc, hd, hz, hv⟩) (hr G)⟩
end
/-! ### defs that are there -/
structure Has (P : Program) (w : World) (K : PySem.W.Frag) (mg : Str → Option Value) (base : Heap) (k : Nat) (x : Str) (ps : List Str) (sp : DSp) : Prop where
  ex : ∃ (f : Addr) (fd : FuncData), mg x = some (.ref f) ∧ PySem.W.keepIn K (.ref f) = true ∧ Binds K fd ps [] ∧ FnOk P w K mg base (L2.CX P w) k f fd ps (lift K sp)
/-- where the def's text stands -/
structure At (K : PySem.W.Frag) (mg : Str → Option Value) (x : Str) (st : Stmt) (ps : List Str) : Prop where
  ex : ∃ (f : Addr) (fd : FuncData), mg x = some (.ref f) ∧ Fun K x x st f fd ∧ Binds K fd ps []
section
variable {X : Cx} {W : WX} {e : Expr} {pos : Pos}
theorem de_has {k : Nat} {ps : List Str} {sp : DSp} {x : Str} {p : Pos} {es : List Expr} {r : DTA} (tk : Takes X W) (F : Has X.prog X.w X.K X.mg X.base k x ps sp) (hr : Room k X.A) (hg : Gl X x) (ha : DA X W (e :: es) r) (hd : (x == ("__debug__" : Str)) = false := by decide)
    (hs : starEach (e :: es) X.env = (false, eval e X.env) :: starEach es X.env := by rfl) (hpl : (backTo pos (starEach es X.env)).any (·.1) = false := by rfl) :
    DE X W (.Call (.Name x p) (e :: es) [] pos) (dFn sp r) := by
  obtain ⟨f, fd, hm, hk, hb, F⟩ := F.ex
  exact de_fn tk F hr hg hm hk hb ha hd hs hpl
end
section
variable {P : Program} {w : World} {K : PySem.W.Frag} {mg : Str → Option Value} {base : Heap}
theorem okH {x : Str} {st : Stmt} {N ps : List Str} {k : Nat} {sp : DSp} (A : At K mg x st ps) (Sc : FnScope N ps (defScope st)) (len : ∀ ds S Q E, sp ds S Q E → ds.length = ps.length)
    (hbody : ∀ (f : Addr) (cdv : Value) (A : Around) (outer : List Env) (s : Shared) (H : Hp) (E : XK), Room k (A.deeper (envOfC x (defScope st) s.heap.objs.size f cdv)) →
      ∃ r, DSs (cxOf (L2.CX P w) P w K mg base N x (defScope st) f cdv A outer s H E) (fun cls d _ H' => E cls d H') (defBody st) r ∧ ∀ ds S Q E', sp ds S Q E' → r (dends Q E') (dstart N ds) S) :
    Has P w K mg base (k + 1) x ps sp := by
  obtain ⟨f, fd, g, F, b⟩ := A.ex
  exact ⟨f, fd, g, F.kp, b, okD F Sc len fun cdv A outer s H E hr => hbody f cdv A outer s H E hr⟩
theorem Has.imp {k : Nat} {x : Str} {ps : List Str} {sp sp' : DSp} (F : Has P w K mg base k x ps sp) (h : ∀ ds S Q E, sp' ds S Q E → sp ds S Q E) : Has P w K mg base k x ps sp' := by
  obtain ⟨f, fd, g, kp, b, F⟩ := F.ex
  exact ⟨f, fd, g, kp, b, F.imp fun vs H Q E ⟨G, S, ds, Qd, Ed, k1, r1, hs, hQ, hE⟩ => ⟨G, S, ds, Qd, Ed, k1, r1, h _ _ _ _ hs, hQ, hE⟩⟩
theorem at_mk {x : Str} {st : Stmt} {ps : List Str} {h : Heap} {f : Addr} {oc : Value} {od an : Option Addr} {osl : Array (Option Value)} {kV doc pm cdv ct : Value} (X : K.In h) (G : h.Ns mainGlobals mg) (a : PySem.W.nsIn K mainGlobals x = some (some (.ref f)))
    (l : K.lookup f = some ⟨oc, od, .func (PySem.W.fnOf x x (defArgs st) (defBody st) (defScope st) .none kV doc pm an cdv ct), osl⟩) (c : PySem.W.codeIn K cdv x = true) (k : PySem.W.keepIn K (.ref f) = true)
    (hb : ∀ (kV doc pm : Value) (an : Option Addr) (cdv ct : Value) (us : List Value), us.length = ps.length → bindArgs (PySem.W.fnOf x x (defArgs st) (defBody st) (defScope st) .none kV doc pm an cdv ct) ⟨us, []⟩ = pure (ps.zip us)) : At K mg x st ps :=
  ⟨f, _, PySem.W.mg_of X G a, fun_mk l c k, (fun_mk (st := st) l c k).binds hb⟩
end
/-! ### a law's end -/
def spLaw : DSp := fun ds S Q _ => ∃ ns : List Int, ds = [.scr ns] ∧ ns.length ≤ 63 ∧ S = (fun _ => none) ∧ ∀ S', Q (.bl true) S'
theorem walkD {l : PySem.W.OpenLaw} {k : Nat} {q : Program} {loose : List Str} {XP : (Str → Option Value) → Heap → Prop} {YP : World → Heap → Prop} {d : DefRec} {K : Params → PySem.W.Frag}
    (hn : l.most = some 63) (hdf : d.params.defaults = []) (hr : Room k callerA) (hdn : d.name = "law")
    (hY : ∀ (w : World) (h : Heap), YP w h → (K w.params).In h)
    (F : ∀ (w : World) (mg : Str → Option Value) (h : Heap), (K w.params).In h → h.Ns mainGlobals mg →
      ∃ (f : Addr) (fd : FuncData), mg "law" = some (.ref f) ∧ (∀ (s : Shared) (u : Value), BindsTo s fd ⟨[u], []⟩ [("script", u)]) ∧ ∀ base : Heap, (K w.params).In base → base.Ns mainGlobals mg → FnOk l.prog w (K w.params) mg base (L2.CX l.prog w) k f fd ["script"] (lift (K w.params) spLaw)) :
    PySem.W.WalkO q loose XP YP l.row.toRowW d [] (fun f vs => PySem.call f vs) := by
  refine L2.walk_of (n := 63) (k := k) (x := "script") (CX := fun w => L2.CX l.prog w) (sp := fun w => lift (K w.params) spLaw) hn (by decide) hdf hr hY (fun w mg fa h KX G hmg => ?_) (fun w H a ns hl _ hS => ?_) fun w H s e s' h => ?_
  · obtain ⟨f, fd, h1, h2, h3⟩ := F w mg h KX G
    rw [hdn] at hmg
    rw [h1] at hmg
    cases hmg
    exact ⟨fd, h2, h3⟩
  · exact ⟨H, fun _ => none, [.scr ns], fun d _ => d = .bl true, fun _ _ _ => False, ⟨Evl.Ex.refl _, fun _ _ h => nomatch h⟩, .cons (.scr hS) .nil, ⟨ns, rfl, hl, rfl, fun _ => rfl⟩, fun d S' G' H' v e _ _ r => by subst e; cases r; rfl, fun _ _ _ _ _ h => h.elim⟩
  · obtain ⟨_, _, _, _, _, _, _, _, _, _, _, _, z⟩ := h
    exact z
/-! ### fresh lists that will change -/
section
variable {X : Cx} {W : WX} {K : PySem.W.Frag} {e : Expr} {ra : DTE} {pos : Pos}
def dAddM : D → D → Sto → DK → Prop := fun x y S Q => match vw S x, vw S y with
  | .lst xs, .lst ys => xs.length + ys.length ≤ sizeLine ∧ ∀ p, S p = none → Q (.ref p) (put S p (.lst (xs ++ ys)))
  | _, _ => False
theorem dop_addM : DOp X (binaryOp .Add) dAddM := ⟨_, op_cat, ⟨fun G H S x y v u Q P k r1 r2 h p => by
  unfold dAddM at h
  split at h
  · rename_i h1 h2
    obtain ⟨a1, vs, e1, q1, l1⟩ := seq_of k r1 h1
    obtain ⟨a2, us, e2, q2, l2⟩ := seq_of k r2 h2
    refine ⟨a1, a2, vs, us, e1, e2, q1, q2, by rw [l1.length, l2.length]; exact h.1, fun q hq => ?_⟩
    obtain ⟨k2, f2⟩ := k.newS (o := .lst (vs ++ us)) (m := .lst _) hq ⟨_, upd_same, l1.append l2⟩
    exact p _ _ _ _ _ (h.2 q (k.freeS hq)) k2 f2 (.ref q)
  · exact h.elim⟩⟩
def dSlM (re : DTE) (rl rh : DTO) : DTE := fun E σ S Q => re E σ S fun x S1 => rl E σ S1 fun l S2 => rh E σ S2 fun u S3 => match vw S3 x with
  | .lst xs => ∀ p, S3 p = none → Q (.ref p) (put S3 p (.lst (cutD xs l u)))
  | _ => False
theorem de_sliceM {lo hi : Option Expr} {rl rh : DTO} {p2 : Pos} (he : DE X W e ra) (hl : DO X W lo rl) (hh : DO X W hi rh) : DE X W (.Subscript e (.Slice lo hi none p2) pos) (dSlM ra rl rh) := by
  obtain ⟨t, p, q⟩ := he
  obtain ⟨tl, pl, ql⟩ := hl
  obtain ⟨th, ph, qh⟩ := hh
  refine ⟨_, pe_slice sl_list p pl ph, ⟨fun E G H S σV σ Q P w k s h f => ?_⟩⟩
  refine q.run E G H S σV σ _ _ w k s h fun x S1 G1 H1 v h1 k1 f1 r1 => ?_
  refine ql.run E G1 H1 S1 σV σ _ _ (w.mono f1) k1 (s.mono f1.g) h1 fun l S2 G2 H2 h2 k2 f2 => ?_
  have f12 := f1.trans f2
  refine qh.run E G2 H2 S2 σV σ _ _ (w.mono f12) k2 (s.mono f12.g) h2 fun u S3 G3 H3 h3 k3 f3 => ?_
  have f13 := f12.trans f3
  have r3 := r1.mono (f2.trans f3).g
  split at h3
  · rename_i xs hx
    obtain ⟨a1, vs, e1, q1, l1⟩ := seq_of k3 r3 hx
    refine ⟨a1, vs, e1, .of q1, fun n hn => ?_⟩
    obtain ⟨k4, f4⟩ := k3.newS (o := .lst (cutV vs l u)) (m := .lst (cutD xs l u)) hn ⟨_, upd_same, cut_rep l1 l u⟩
    exact f _ _ _ _ _ (h3 n (k3.freeS hn)) k4 (f13.trans f4) (.ref n)
  · exact h3.elim
/-! ### constants that are tuples -/
structure TupC (K : PySem.W.Frag) (mg : Str → Option Value) (x : Str) (ds : List D) : Prop where
  ex : ∃ (p : Addr) (o : Obj) (its : Array Value) (n : Nat) (vs : List V), mg x = some (.ref p) ∧ K.lookup p = some o ∧ o.cls = .type "tuple" ∧ o.data = .seq its n ∧ its.size ≤ sizeLine ∧ Vals vs its.toList ∧ ∀ G, RepL K G vs ds
theorem de_globC {x : Str} {ds : List D} (hg : Gl X x) (c : TupC X.K X.mg x ds) (hdb : (x == ("__debug__" : Str)) = false := by decide) : DE X W (.Name x pos) (dC (.tup ds)) := by
  obtain ⟨p, o, its, n, vs, h1, h2, h3, h4, h5, h6, h7⟩ := c.ex
  exact de_globT hg h1 h2 h3 h4 h5 h6 h7 hdb
end
/-! ### own errors -/
section
variable {P : Program} {w : World} {K : PySem.W.Frag} {mg : Str → Option Value} {base : Heap}
/-- __init__(self, value=..): self.value = value -/
theorem ok_init1 {n q : Str} {args : Arguments} {body : List Stmt} {sc : Scope} {dvs : List V} {f : Addr} {fd : FuncData} {p1 p2 p3 p4 : Pos} (F : FunD K "__init__" q args body sc dvs [] f fd) (Sc : FnScope ["self", n] ["self", n] sc) (hb : body = [.Assign [.Attribute (.Name "self" p1) n p2] (.Name n p3) p4])
    (h1 : sc.names.lookup ("self" : Str) = some NameKind.local) (h2 : sc.names.lookup n = some NameKind.local) (hd : (n == ("__debug__" : Str)) = false) (hcd : (n == ("__classdict__" : Str)) = false) :
    FnOk P w K mg base (L2.CX P w) 1 f fd ["self", n] (spInit1 K n) := by
  refine F.ok Sc (fun vs H Q E h => ?_) fun cdv A outer s H vs Q E hr h => ?_
  · obtain ⟨a, C, y, rfl, _⟩ := h
    rfl
  · obtain ⟨a, C, y, rfl, hC, hn, ha, q⟩ := h
    refine ⟨tOst K n (tVar 0) (tVar 1), ?_, ?_⟩
    · rw [hb]
      exact pss_one (ps_ost (pe_var (i := 0) rfl (.inl h1)) (pe_var (i := 1) rfl (.inl h2) hd hcd))
    · exact ⟨y, rfl, .ref a, rfl, a, C, rfl, hC, hn, .inl ⟨ha, fun dx h3 h4 => q dx h3 h4⟩⟩
/-- what the module tells of HouseError.__init__, for all its classes -/
structure InitC (P : Program) (w : World) (K : PySem.W.Frag) (mg : Str → Option Value) (base : Heap) (n : Str) (fI : Addr) : Prop where
  ty : PySem.W.typeIn K (.ref fI) = some (.type "function")
  fn : ∃ (fd : FuncData) (ps : List Str), FnOk P w K mg base (L2.CX P w) 1 fI fd ps (spInit1 K n) ∧ Binds K fd ps []
theorem init_mk {n q : Str} {args : Arguments} {body : List Stmt} {sc : Scope} {fI T : Addr} {oc ocT kV doc pm cd ct : Value} {od odT an : Option Addr} {sl slT : Array (Option Value)} {nT : Nat} {p1 p2 p3 p4 : Pos}
    (l : K.lookup fI = some ⟨oc, od, .func (PySem.W.fnOf "__init__" q args body sc (.ref T) kV doc pm an cd ct), sl⟩) (c : PySem.W.codeIn K cd q = true) (k : PySem.W.keepIn K (.ref fI) = true) (t : PySem.W.typeIn K (.ref fI) = some (.type "function"))
    (lT : K.lookup T = some ⟨ocT, odT, .seq #[.none] nT, slT⟩) (Sc : FnScope ["self", n] ["self", n] sc) (hb : body = [.Assign [.Attribute (.Name "self" p1) n p2] (.Name n p3) p4])
    (h1 : sc.names.lookup ("self" : Str) = some NameKind.local) (h2 : sc.names.lookup n = some NameKind.local) (hd : (n == ("__debug__" : Str)) = false) (hcd : (n == ("__classdict__" : Str)) = false)
    (hbind : ∀ (T : Addr) (kV doc pm : Value) (an : Option Addr) (cdv ct : Value) (us its : List Value), us.length = 2 → its.length = 1 →
      ∃ k, bindArgs (PySem.W.fnOf "__init__" q args body sc (.ref T) kV doc pm an cdv ct) ⟨us, []⟩ = seqItems? (.ref T) >>= k ∧ k (some its.toArray) = pure ((["self", n] : List Str).zip (us ++ its.drop 1))) : InitC P w K mg base n fI := by
  have F : FunD K "__init__" q args body sc [.non] [] fI (PySem.W.fnOf "__init__" q args body sc (.ref T) kV doc pm an cd ct) :=
    ⟨⟨oc, od, _, kV, doc, pm, an, cd, ct, sl, rfl, l, c, .inr ⟨by simp, T, _, [.none], nT, rfl, lT, rfl, .cons rfl .nil⟩, .inl rfl⟩, k⟩
  obtain ⟨ds, h3, h4⟩ := F.binds1 (ps := ["self", n]) 2 1 (by simp) rfl hbind
  cases h3
  exact ⟨t, _, _, ok_init1 F Sc hb h1 h2 hd hcd, h4⟩
theorem err_mk {h : Heap} {x n : Str} {C fI : Addr} (X : K.In h) (G : h.Ns mainGlobals mg) (I : InitC P w K mg base n fI) (a : PySem.W.nsIn K mainGlobals x = some (some (.ref C)))
    {nm : Str} {q : Str} {N : Addr} {bs bm : List Value} {sn : List Str} {sub ab col dd k0 k1 k2 k3 k5 : _} (cls : K.lookup C = some (excClassObj nm q C N bs bm true sn sub ab col dd k0 k1 k2 k3 k5 "ValueError.__new__")) (rv : PySem.HandSPX.refsVE bm = true)
    (sa : PySem.W.findIn K (.ref C) "__setattr__" = some (some (.builtin "object.__setattr__"))) (exC : PySem.W.subIn K (.ref C) (.type "BaseException") = some true) (tyC : PySem.W.typeIn K (.ref C) = some (.type "type")) (kC : PySem.W.keepIn K (.ref C) = true)
    (hno : PySem.W.findIn K (.ref C) n = some none) (hi : PySem.W.findIn K (.ref C) "__init__" = some (some (.ref fI))) : ErrC K mg P w base x C n [] [] := by
  obtain ⟨fd, ps, h1, h2⟩ := I.fn
  exact ⟨PySem.W.mg_of X G a, ⟨⟨nm, q, N, bs, bm, sn, sub, ab, col, dd, k0, k1, k2, k3, k5, cls, rv⟩, sa, exC, tyC, kC⟩, hno, fI, fd, ps, hi, I.ty, h1, h2, .nil⟩
end
end KD

set_option maxRecDepth 100000
set_option maxHeartbeats 4000000
/-! KdT: tuple * int, also of the empty tuple and by 1. -/
namespace KD
open PySem PySem.Spec PyProof.Rows L2
theorem tuple_mul_same (l : Addr) (items : Array Value) (n : Nat) (dd : Option Addr) (sl : Array (Option Value)) (x : Int) (u : Tok) (c0 : (decide (x < -(2 ^ 63)) || decide (x ≥ 2 ^ 63)) = false) (c1 : (items.isEmpty || x == 1) = true) :
    Meets (Builtin.«tuple.__mul__» ⟨[.ref l, .int x u], []⟩) (fun _ R s => s.heap.get? l = some { cls := .type "tuple", dict := dd, data := .seq items n, slots := sl } ∧ R (.ok (.ret (Value.ref l))) s) :=
  .of_wp fun prog w A R s h => by
    obtain ⟨hp, g, d, tk, os⟩ := s
    obtain ⟨hl, h⟩ := h
    have f1 := AutoSeq1.idx_int
    wp_walk using wpAny_loadPart' hl
    repeat (first
      | (refine wpAny_ite_false (decide_eq_false (by rw [c0]; exact Bool.false_ne_true)) ?_; wp_walk using wpAny_loadPart' hl)
      | (refine wpAny_ite_true (decide_eq_true c1) ?_; wp_walk using wpAny_loadPart' hl))
    exact ⟨_, rfl, h⟩
def rRepT0 (K : PySem.W.Frag) : R2 := fun x y H Q => ∃ l k xs, x = .ref l ∧ y = .int k ∧ SqT K H l xs ∧ (xs = [] ∨ k = 1) ∧ -(2 ^ 63) ≤ k ∧ k < 2 ^ 63 ∧ Q (.ref l) H
section
variable {X : Cx} {K : PySem.W.Frag}
theorem op_repT0 : OpR X (binaryOp .Mult) (rRepT0 X.K) := by
  intro pins s σ H x y v u Q I rx ry h
  obtain ⟨l, k, xs, rfl, rfl, hT, hc1, h1, h2, q⟩ := h
  cases rx
  obtain ⟨t, rfl⟩ := ry
  obtain ⟨its, r, ⟨⟨cls, dd, data, sl⟩, ho, hc, n, hd⟩, hs⟩ := I.tuple hT
  simp only at hc hd
  subst hc hd
  have c0 : (decide (k < -(2 ^ 63)) || decide (k ≥ 2 ^ 63)) = false := by
    rw [decide_eq_false (by omega), decide_eq_false (by omega)] <;> rfl
  have c1 : (its.toArray.isEmpty || k == 1) = true := by
    rcases hc1 with e | e
    · subst e; cases r; rfl
    · subst e; simp
  refine wpAny_binaryOp_repeat_ref (T := "tuple") (U := "int") (by decide) ⟨_, ho, rfl⟩ (fun s' => typeIs_int s' k t) noFill_tuple_mul F.fills_int_mul F.slot_int_rmul repeat_tuple F.slot_int_index.lookup
    (call_meets F.slot_int_rmul (typeIs_int s k t) F.entry_int_rmul (F.args_int_rmul_2 _ _) (int_rmul_tuple k t l its.toArray n dd sl)
      ⟨ho, rfl, ⟨_, ho, rfl⟩, call_meets F.slot_tuple_mul ⟨_, ho, rfl⟩ F.entry_tuple_mul (F.args_tuple_mul_2 _ _) (tuple_mul_same l its.toArray n dd sl k t c0 c1) ⟨ho, ?_⟩⟩)
  exact ⟨.ref l, H, I, rfl, q⟩
def dRepT : D → D → Sto → DK → Prop := fun x y S Q => match vw S x, y with
  | .tup xs, .int k => 1 ≤ k ∧ k ≤ 1000 ∧ xs.length ≤ 1000 ∧ Q (.tup (List.replicate k.toNat xs).flatten) S
  | _, _ => False
theorem rep_nil {α : Type} : ∀ n : Nat, (List.replicate n ([] : List α)).flatten = []
  | 0 => rfl
  | n + 1 => by rw [List.replicate_succ, List.flatten_cons, rep_nil n]; rfl
theorem dop_repT : DOp X (binaryOp .Mult) dRepT := ⟨_, op_repT.or op_repT0, ⟨fun G H S x y v u Q P k r1 r2 h p => by
  unfold dRepT at h
  split at h
  · rename_i xs n h1
    cases r2
    obtain ⟨a1, vs, e1, q1, l1, g1⟩ := tup_of k r1 h1
    obtain ⟨z2, z3, z4, z5⟩ := h
    by_cases c : xs = [] ∨ n = 1
    · refine .inr ⟨a1, _, vs, e1, rfl, q1.sq, ?_, by omega, by omega, ?_⟩
      · rcases c with c | c
        · subst c; cases l1; exact .inl rfl
        · exact .inr c
      · have e : (List.replicate n.toNat xs).flatten = xs := by
          rcases c with c | c
          · subst c; exact rep_nil _
          · subst c; simp
        rw [e] at z5
        exact p _ S G H _ z5 k (.refl _ _ _) (.tup g1 l1)
    · have c1 : xs ≠ [] := fun e => c (.inl e)
      have c2 : n ≠ 1 := fun e => c (.inr e)
      refine .inl ⟨a1, _, vs, e1, rfl, q1.sq, fun z => ?_, by omega, z3, by rw [l1.length]; exact z4, fun q hq => ?_⟩
      · subst z; cases l1; exact c1 rfl
      · obtain ⟨k2, f2⟩ := k.newG (o := .tup (List.replicate _ vs).flatten) hq
        exact p _ S _ _ _ z5 k2 f2 (.tup (.inl upd_same) ((repl_rep l1 _).mono f2.g))
  · exact h.elim⟩⟩
def dMulG : D → D → Sto → DK → Prop := fun x y S Q => match vw S x, y with
  | .int i, .int j => IntMulOk i j ∧ Q (.int (i * j)) S
  | .lst xs, .int k => -(2 ^ 63) ≤ k ∧ k < 2 ^ 63 ∧ xs.length * k.toNat ≤ sizeLine ∧ Q (.lst (List.replicate k.toNat xs).flatten) S
  | .tup xs, .int k => 1 ≤ k ∧ k ≤ 1000 ∧ xs.length ≤ 1000 ∧ Q (.tup (List.replicate k.toNat xs).flatten) S
  | _, _ => False
theorem dop_mulG : DOp X (binaryOp .Mult) dMulG := dop_mul.or dop_repT fun x y S Q h => by
  unfold dMulG at h
  split at h
  · rename_i h1
    refine .inl ?_
    unfold dMul
    rw [h1]; exact h
  · rename_i h1
    refine .inl ?_
    unfold dMul
    rw [h1]; exact h
  · rename_i h1
    refine .inr ?_
    unfold dRepT
    rw [h1]; exact h
  · exact h.elim
end
end KD

set_option maxRecDepth 100000
set_option maxHeartbeats 4000000
/-! KdL: loops and comprehensions by an invariant, a step at a time. -/
namespace KD
open PySem PySem.Spec PyProof.Rows L2
theorem loop_inv {g : DTG} {rb : DTS} {Z : DEnds} (I : Nat → DSt → Sto → Prop) : ∀ (xs : List D) (k : Nat) (σ : DSt) (S : Sto), I k σ S →
    (∀ i x σ S, xs[i]? = some x → I (k + i) σ S → ∀ N : DSt → Sto → Prop, (∀ σ' S', I (k + i + 1) σ' S' → N σ' S') → g x σ S fun σ' S' => rb { Z with nx := N, ct := N, bk := Z.nx } σ' S') →
    (∀ σ S, I (k + xs.length) σ S → Z.nx σ S) → dLoop g rb Z xs σ S
  | [], k, σ, S, h0, _, hd => hd σ S h0
  | x :: xs, k, σ, S, h0, hs, hd => by
    refine hs 0 x σ S rfl h0 _ fun σ' S' h1 => loop_inv I xs (k + 1) σ' S' h1 (fun i y σ S hy hi N hN => ?_) fun σ S h => ?_
    · refine hs (i + 1) y σ S hy (by rw [show k + (i + 1) = k + 1 + i by omega]; exact hi) N fun σ' S' h => hN σ' S' ?_
      rw [show k + 1 + i + 1 = k + (i + 1) + 1 by omega]; exact h
    · refine hd σ S ?_
      rw [List.length_cons, show k + (xs.length + 1) = k + 1 + xs.length by omega]; exact h
theorem loop0 {g : DTG} {rb : DTS} {Z : DEnds} {xs : List D} {σ : DSt} {S : Sto} (I : Nat → DSt → Sto → Prop) (h0 : I 0 σ S)
    (hs : ∀ i x σ S, xs[i]? = some x → I i σ S → ∀ N : DSt → Sto → Prop, (∀ σ' S', I (i + 1) σ' S' → N σ' S') → g x σ S fun σ' S' => rb { Z with nx := N, ct := N, bk := Z.nx } σ' S')
    (hd : ∀ σ S, I xs.length σ S → Z.nx σ S) : dLoop g rb Z xs σ S :=
  loop_inv I xs 0 σ S h0 (fun i x σ S hx hi N hN => hs i x σ S hx (by rw [Nat.zero_add] at hi; exact hi) N fun σ' S' h => hN σ' S' (by rw [Nat.zero_add]; exact h)) fun σ S h => hd σ S (by rw [Nat.zero_add] at h; exact h)
/-- a comprehension that changes nothing: f of the items that p keeps -/
theorem lc_pure {g : DTG} {rt : DTT} {re : DTE} {σ : DSt} {Q : List D → Sto → Prop} {S : Sto} (f : D → D) (p : D → Bool) : ∀ (xs acc : List D),
    (∀ x ∈ xs, ∀ (R : DK) (R' : Sto → Prop), (p x = true → R (f x) S) → (p x = false → R' S) → g x σ S fun σ2 S2 => rt DE0 σ2 S2 fun b S3 => if b = true then re DE0 σ2 S3 R else R' S3) →
    acc.length + xs.length ≤ sizeLine → Q (acc ++ (xs.filter p).map f) S → dLcGo g rt re σ Q xs S acc
  | [], acc, _, _, h => by
    have h : Q (acc ++ []) S := h
    rw [List.append_nil] at h; exact h
  | x :: xs, acc, hs, hl, h => by
    have hl' : acc.length + (xs.length + 1) ≤ sizeLine := hl
    refine hs x List.mem_cons_self (fun y S4 => acc.length < sizeLine ∧ dLcGo g rt re σ Q xs S4 (acc ++ [y])) (fun S3 => dLcGo g rt re σ Q xs S3 acc) (fun e => ⟨by omega, ?_⟩) fun e => ?_
    · refine lc_pure f p xs _ (fun y hy => hs y (List.mem_cons_of_mem _ hy)) (by simp; omega) ?_
      simpa [List.filter_cons, e] using h
    · refine lc_pure f p xs _ (fun y hy => hs y (List.mem_cons_of_mem _ hy)) (by omega) ?_
      simpa [List.filter_cons, e] using h
theorem lc_map {g : DTG} {re : DTE} {σ : DSt} {Q : List D → Sto → Prop} {S : Sto} (f : D → D) (xs : List D)
    (hs : ∀ x ∈ xs, ∀ (R : DK), R (f x) S → g x σ S fun σ2 S2 => re DE0 σ2 S2 R) (hl : xs.length ≤ sizeLine) (h : Q (xs.map f) S) : dLcGo g dYes re σ Q xs S [] := by
  refine lc_pure f (fun _ => true) xs [] (fun x hx R R' h1 _ => ?_) (by simpa using hl) (by rw [List.nil_append, List.filter_eq_self.mpr (fun _ _ => rfl)]; exact h)
  have := hs x hx R (h1 rfl)
  simpa [dYes] using this
/-- a comprehension whose steps change the store: I of the list so far -/
theorem lc_eff {g : DTG} {rt : DTT} {re : DTE} {σ : DSt} {Q : List D → Sto → Prop} (I : List D → Sto → Prop) : ∀ (xs acc : List D) (S : Sto),
    (∀ x ∈ xs, ∀ acc S, I acc S → ∀ (R : DK) (R' : Sto → Prop), (∀ y S4, I (acc ++ [y]) S4 → R y S4) → (∀ S4, I acc S4 → R' S4) → g x σ S fun σ2 S2 => rt DE0 σ2 S2 fun b S3 => if b = true then re DE0 σ2 S3 R else R' S3) →
    acc.length + xs.length ≤ sizeLine → I acc S → (∀ acc S, I acc S → Q acc S) → dLcGo g rt re σ Q xs S acc
  | [], acc, S, _, _, h0, h => h acc S h0
  | x :: xs, acc, S, hs, hl, h0, h => by
    have hl' : acc.length + (xs.length + 1) ≤ sizeLine := hl
    refine hs x List.mem_cons_self acc S h0 (fun y S4 => acc.length < sizeLine ∧ dLcGo g rt re σ Q xs S4 (acc ++ [y])) (fun S3 => dLcGo g rt re σ Q xs S3 acc) (fun y S4 hi => ⟨by omega, ?_⟩) fun S4 hi => ?_
    · exact lc_eff I xs _ S4 (fun y hy => hs y (List.mem_cons_of_mem _ hy)) (by simp; omega) hi h
    · exact lc_eff I xs _ S4 (fun y hy => hs y (List.mem_cons_of_mem _ hy)) (by omega) hi h
/-- the same without a test, the items counted -/
theorem lc_draw {g : DTG} {re : DTE} {σ : DSt} {Q : List D → Sto → Prop} {xs : List D} {S : Sto} (I : Nat → List D → Sto → Prop)
    (hs : ∀ i x acc S, xs[i]? = some x → I i acc S → ∀ (R : DK), (∀ y S4, I (i + 1) (acc ++ [y]) S4 → R y S4) → g x σ S fun σ2 S2 => re DE0 σ2 S2 R) (hl : xs.length ≤ sizeLine) (h0 : I 0 [] S) (h : ∀ acc S, I xs.length acc S → Q acc S) : dLcGo g dYes re σ Q xs S [] := by
  have key : ∀ (ys : List D) (k : Nat) (acc : List D) (S : Sto), (∀ i, ys[i]? = xs[k + i]?) → k + ys.length = xs.length → acc.length = k → I k acc S → dLcGo g dYes re σ Q ys S acc := by
    intro ys
    induction ys with
    | nil => intro k acc S _ e _ hi; have e : k = xs.length := by simpa using e
             subst e; exact h acc S hi
    | cons y ys ih =>
      intro k acc S he e ha hi
      have hy : xs[k]? = some y := by have := he 0; simpa using this.symm
      have : g y σ S fun σ2 S2 => re DE0 σ2 S2 fun y S4 => acc.length < sizeLine ∧ dLcGo g dYes re σ Q ys S4 (acc ++ [y]) := by
        refine hs k y acc S hy hi _ fun z S4 hz => ⟨?_, ih (k + 1) _ S4 (fun i => ?_) ?_ ?_ hz⟩
        · rw [ha]; have : k < xs.length := (List.getElem?_eq_some_iff.mp hy).1; omega
        · have := he (i + 1); rw [show k + 1 + i = k + (i + 1) by omega, ← this]; simp
        · simp only [List.length_cons] at e; omega
        · simp [ha]
      show g y σ S fun σ2 S2 => dYes DE0 σ2 S2 fun b S3 => if b = true then re DE0 σ2 S3 fun y S4 => acc.length < sizeLine ∧ dLcGo g dYes re σ Q ys S4 (acc ++ [y]) else dLcGo g dYes re σ Q ys S3 acc
      simpa [dYes] using this
  exact key xs 0 [] S (fun i => by rw [Nat.zero_add]) (by simp) rfl h0
/-- while by an invariant and a measure -/
theorem while_inv {rc : DTT} {rb : DTS} {Z : DEnds} {σ : DSt} {S : Sto} (I : DSt → Sto → Prop) (μ : DSt → Sto → Nat) (h0 : I σ S)
    (hs : ∀ σ S, I σ S → ∀ N : DSt → Sto → Prop, (∀ σ' S', I σ' S' → μ σ' S' < μ σ S → N σ' S') → rc (exOf Z σ) σ S fun b S1 => if b = true then rb { Z with nx := N, ct := N, bk := Z.nx } σ S1 else Z.nx σ S1)
    (mono : ∀ E σ S Q Q', (∀ b S1, Q b S1 → Q' b S1) → rc E σ S Q → rc E σ S Q') : dWhile rc rb Z σ S := by
  refine ⟨fun m σ S => m = μ σ S ∧ I σ S, ⟨_, rfl, h0⟩, ?_⟩
  rintro m σ S ⟨rfl, hi⟩
  refine mono _ _ _ _ _ (fun b S1 q => ?_) (hs σ S hi (fun σ' S' => I σ' S' ∧ μ σ' S' < μ σ S) fun σ' S' h1 h2 => ⟨h1, h2⟩)
  cases b with
  | true =>
    rw [if_pos rfl] at q ⊢
    exact ⟨_, fun σ' S' ⟨h1, h2⟩ => ⟨_, h2, rfl, h1⟩, q⟩
  | false =>
    rw [if_neg Bool.false_ne_true] at q ⊢
    exact q
section
variable {X : Cx} {W : WX} {a : Expr} {ra : DTE} {pos : Pos}
theorem dt_isN {j pos'} (ha : DE X W a ra) : DT X W (.Compare a [.Is] [.Constant .none j pos'] pos) (dTest (dIsN ra)) := by
  obtain ⟨t, p, q⟩ := ha
  refine ⟨_, pt_cmp (pc_isN p), evt_B ⟨fun E G H S σV σ Q P w k s h f => q.run E G H S σV σ _ _ w k s h fun d S' G' H' v hd k' g r => ?_⟩⟩
  rw [non_rep r]; exact f _ S' G' H' _ hd k' g (.bl _)
theorem dt_notN {j pos'} (ha : DE X W a ra) : DT X W (.Compare a [.IsNot] [.Constant .none j pos'] pos) (dTest (dNotN ra)) := by
  obtain ⟨t, p, q⟩ := ha
  refine ⟨_, pt_cmp (pc_notN p), evt_B ⟨fun E G H S σV σ Q P w k s h f => q.run E G H S σV σ _ _ w k s h fun d S' G' H' v hd k' g r => ?_⟩⟩
  rw [non_rep r]; exact f _ S' G' H' _ hd k' g (.bl _)
end
/-! ### of lists that may change: told by what must stand in the store -/
theorem RvD.imp {K : PySem.W.Frag} {r : R2} {q q' : D → D → Sto → DK → Prop} (h : RvD K r q) (i : ∀ x y S Q, q' x y S Q → q x y S Q) : RvD K r q' :=
  ⟨fun G H S x y v u Q P k r1 r2 g p => h.run G H S x y v u Q P k r1 r2 (i _ _ _ _ g) p⟩
theorem RcD.imp {K : PySem.W.Frag} {r : List V → Hp → VK → Prop} {q q' : List D → Sto → DK → Prop} (h : RcD K r q) (i : ∀ xs S Q, q' xs S Q → q xs S Q) : RcD K r q' :=
  ⟨fun G H S xs vs Q P k r1 g p => h.run G H S xs vs Q P k r1 (i _ _ _ g) p⟩
def dIxM : D → D → Sto → DK → Prop := fun x y S Q => ∃ (p : Addr) (xs : List D) (i : Int) (d : D), x = .ref p ∧ y = .int i ∧ S p = some (.lst xs) ∧ atI xs i = some d ∧ Q d S
theorem dix_mut {X : Cx} : DIx X dIxM := let ⟨r, o, e⟩ := dix_seq (X := X); ⟨r, o, e.imp fun x y S Q ⟨p, xs, i, d, h1, h2, h3, h4, h5⟩ => by
  subst h1 h2
  have e : vw S (.ref p) = .lst xs := by simp [vw, h3]
  unfold dIxS
  rw [e]
  exact ⟨d, h4, h5⟩⟩
def dLenM : List D → Sto → DK → Prop := fun ds S Q => ∃ (p : Addr) (xs : List D), ds = [.ref p] ∧ S p = some (.lst xs) ∧ Q (.int xs.length) S
theorem dc_lenM {X : Cx} : DC X (.builtin "len") dLenM := let ⟨r, o, e⟩ := dc_len (X := X); ⟨r, o, e.imp fun ds S Q ⟨p, xs, h1, h2, h3⟩ => by
  subst h1
  have e : vw S (.ref p) = .lst xs := by simp [vw, h2]
  show match vw S (.ref p) with | .lst xs => Q (.int xs.length) S | .tup xs => Q (.int xs.length) S | .scr ns => Q (.int ns.length) S | .str z => z.length ≤ sizeLine ∧ Q (.int z.length) S | _ => False
  rw [e]
  exact h3⟩
def dNeD : D → D → Sto → DK → Prop := fun x y S Q => ∃ p q, toPy x = some p ∧ toPy y = some q ∧ SeqAt.shaped p = true ∧ SeqAt.shaped q = true ∧ Q (.bl (!PyData.eqv p q)) S
end KD

set_option maxRecDepth 100000
set_option maxHeartbeats 4000000
/-! Kd8: texts turned round, texts joined. -/
namespace KD
open PySem PySem.Spec PyProof.Rows L2
section
variable {X : Cx} {W : WX} {e : Expr} {re : DTE} {pos : Pos}
def revStr (z : Str) : Str := ⟨z.cps.toList.reverse.toArray⟩
theorem revStr_pick (z : Str) : ((Builtin.Str.strSliceIndices none none (-1) z.length).filterMap (z.cps[·]?)).toArray = z.cps.toList.reverse.toArray := by
  show ((sliceRange ((z.cps.size : Int) - 1) (-1) (-1)).filterMap (z.cps[·]?)).toArray = _
  rw [PySem.W.krv_sliceRange, PySem.W.krv_range, List.filterMap_reverse, PySem.W.krv_all]
/-- the text whose signs a walk from the end finds -/
def tRevS (te : TE) : TE := fun σ H Q => te σ H fun x H1 => ∃ z : Str, x = .str z ∧ z.length ≤ sizeLine ∧ Q (.str (revStr z)) H1
theorem pe_revS {te : TE} {k : Nat} {p1 p2 p3 : Pos} (he : PE X e te) : PE X (.Subscript e (.Slice none none (some (.UnaryOp .USub (.Constant (.int 1) k p1) p2)) p3) pos) (tRevS te) := by
  constructor
  intro pins s σ H Q I h
  refine Subscript_ (thn (he.run pins s σ H _ I h) fun v s1 ⟨x, H1, I1, r1, z, ez, hz, q⟩ => ?_)
  subst ez
  obtain ⟨tz, rfl⟩ := r1
  have hm : PO X (some (.UnaryOp .USub (.Constant (.int 1) k p1) p2)) (tPart (tUn (rU fun i => .int (-i)) (tC (.int 1)))) := po_some (pe_un un_neg pe_int)
  have nopart : ∀ {t : Shared} {G : Hp}, Inv X pins σ G t → wpAny (model X.prog X.w) X.A (evalPart none X.env) (fun v t' => v = .none ∧ Inv X pins σ G t') X.xe t := fun {t G} J =>
    thn (po_none.run pins t σ G (fun o G' => o = none ∧ G' = G) J ⟨rfl, rfl⟩) fun v t' ⟨o, G', J', po, e1, e2⟩ => by
      subst e1 e2
      obtain ⟨l, rfl, hl⟩ := IsPart.raw po
      cases l with
      | none => exact ⟨rfl, J'⟩
      | some l => cases hl
  refine wpAny_Slice (thn (nopart I1) fun vl s2 ⟨e2, I2⟩ => ?_)
  subst e2
  refine thn (nopart I2) fun vu s3 ⟨e3, I3⟩ => ?_
  subst e3
  refine thn (hm.run pins s3 σ H1 (fun o G => o = some (-1) ∧ G = H1) I3 ⟨1, rfl, -1, rfl, rfl, rfl⟩) fun vs s4 ⟨o, G, I4, po, e4, e5⟩ => ?_
  subst e4 e5
  obtain ⟨st, rfl, hst⟩ := IsPart.raw po
  obtain ⟨m, rfl⟩ : ∃ m, st = some m := by cases st with
    | none => cases hst
    | some m => exact ⟨m, rfl⟩
  obtain ⟨mi, mt⟩ := m
  simp only [Option.map_some, Option.some.injEq] at hst
  subst hst
  have I5 : Inv X pins σ G { s4 with heap := s4.heap.push { cls := .type "slice", data := .fields #[.none, .none, partValue (some (-1, mt))] } } := I4.kept (t' := s4.toks) fun b ob q => Heap.get?_push_of_some _ q
  refine tail_any (ops := [.str z tz, .ref s4.heap.objs.size]) (typeIs_str _ z tz) F.slot_str_getitem.lookup ?_ (by with_unfolding_all rfl)
  refine wpAny_getItem_str_slice (l := none) (u := none) (st := some (-1, mt)) ⟨_, Heap.get?_push_size _ rfl, rfl, rfl⟩ rfl ?_
  unfold sliceMade
  have e : (((Option.map (·.1) (some ((-1 : Int), mt))).getD 1 == 1 && (slicePicked z none none (some (-1, mt))).length == z.length) = true) = False := by
    simp
  rw [if_neg (by rw [e]; exact id)]
  have e2 : ((slicePicked z none none (some (-1, mt))).filterMap (z.cps[·]?)).toArray = z.cps.toList.reverse.toArray := revStr_pick z
  rw [e2]
  refine ⟨?_, .str _, G, I5.tok _, ⟨_, rfl⟩, q⟩
  have e3 : (z.cps.toList.reverse.toArray).size = z.length := by simp [Str.length]
  show (z.cps.toList.reverse.toArray).size ≤ sizeLine
  rw [e3]; exact hz
def dRevS (r : DTE) : DTE := fun E σ S Q => r E σ S fun d S' => match d with
  | .str z => z.length ≤ sizeLine ∧ Q (.str (revStr z)) S'
  | _ => False
theorem de_revS {k : Nat} {p1 p2 p3 : Pos} (he : DE X W e re) : DE X W (.Subscript e (.Slice none none (some (.UnaryOp .USub (.Constant (.int 1) k p1) p2)) p3) pos) (dRevS re) := by
  obtain ⟨t, p, q⟩ := he
  refine ⟨_, pe_revS p, ⟨fun E G H S σV σ Q P w k s h f => ?_⟩⟩
  refine q.run E G H S σV σ _ _ w k s h fun d S' G' H' v hd k' g r => ?_
  cases d with
  | str z => cases r; exact ⟨z, rfl, hd.1, f _ S' G' H' _ hd.2 k' g (.str _)⟩
  | _ => exact hd.elim
/-! ### sep.join(texts) -/
def strsOf : List D → Option (List Str)
  | [] => some []
  | .str z :: r => (strsOf r).map (z :: ·)
  | _ => none
theorem strs_rep {K : PySem.W.Frag} {G : Hp} : ∀ {vs : List V} {xs : List D} {ys : List Str}, RepL K G vs xs → strsOf xs = some ys → vs = ys.map V.str
  | [], _, ys, r, h => by cases r; simp only [strsOf, Option.some.injEq] at h; subst h; rfl
  | v :: vs, _, ys, r, h => by
    cases r with
    | @cons _ _ d ds r1 r2 =>
      cases d <;> simp only [strsOf, reduceCtorEq, Option.map_eq_some_iff] at h
      obtain ⟨zs, h1, rfl⟩ := h
      cases r1
      rw [strs_rep r2 h1]; rfl
def dJoin : D → List D → Sto → DK → Prop := fun x ys S Q => match x, ys with
  | .str a, [d] => ∃ xs zs, (vw S d = .lst xs ∨ vw S d = .tup xs) ∧ strsOf xs = some zs ∧ (zs.map (·.length)).sum + zs.length * a.length ≤ 16777216 ∧ Q (.str (Txt.join a zs)) S
  | _, _ => False
theorem dm_join : DM1 X "str.join" dJoin := ⟨_, mt_join, ⟨fun G H S x ys v vs Q P k r1 r2 h p => by
  unfold dJoin at h
  split at h
  · rename_i a d
    obtain ⟨xs, zs, hd, hz, hl, hq⟩ := h
    obtain ⟨u, rfl, ru⟩ := one_of r2
    cases r1
    rcases hd with hd | hd
    · obtain ⟨a1, us, e1, q1, l1⟩ := seq_of k ru hd
      rw [strs_rep l1 hz] at q1
      exact ⟨a, a1, zs, rfl, by rw [e1], .inl (.of q1), hl, p _ S G H _ hq k (.refl _ _ _) (.str _)⟩
    · obtain ⟨a1, us, e1, q1, l1, _⟩ := tup_of k ru hd
      rw [strs_rep l1 hz] at q1
      exact ⟨a, a1, zs, rfl, by rw [e1], .inr q1.sq, hl, p _ S G H _ hq k (.refl _ _ _) (.str _)⟩
  · exact h.elim⟩⟩
theorem de_join {o : Expr} {ro : DTE} {apos cpos : Pos} (ho : DE X W o ro) (he : DE X W e re) (hbase : attributeBase o "join" X.env (eval o X.env) = eval o X.env := by rfl)
    (hfew : ((backTo cpos (starEach [e] X.env)).all (fun x => !x.1) && (backToKw cpos (keywordEach [] X.env)).all (fun x => x.1.isSome)
      && decide (([e] : List Expr).length + ([] : List Keyword).length + (if ([] : List Keyword).isEmpty then 0 else 1) < 30)) = true := by rfl)
    (hline : (apos.endLine == cpos.line) = true := by rfl) (hs : starEach [e] X.env = (false, eval e X.env) :: starEach [] X.env := by rfl) (hplain : (backTo cpos (starEach [] X.env)).any (·.1) = false := by rfl) :
    DE X W (.Call (.Attribute o "join" apos) [e] [] cpos) (dBM "str" dJoin ro (dCons re dNil)) :=
  de_bm PySem.F.plainAttrs_str PySem.F.slot_str_join PySem.F.type_str_join dm_join ho (da_cons he da_nil hs) hbase hfew hline hs hplain
end
end KD

set_option maxRecDepth 100000
set_option maxHeartbeats 4000000
/-! KdY: a caught error's fields and kind, as data. -/
namespace KD
open PySem PySem.Spec PyProof.Rows L2
/-- what isinstance is asked of a caught error: the error at a, its class D, a class of the module or a built-in one -/
def rIsX (K : PySem.W.Frag) (D a : Addr) : List V → Hp → VK → Prop := fun xs H Q => match xs with
  | [x, c] => x = .ref a ∧ ∃ (cv : Value) (b : Bool), (∀ u, RelV c u → u = cv) ∧ PySem.W.kitOne K (.ref D) cv = some b ∧ Q (.bl b) H
  | _ => False
theorem call_isX {X : Cx} {a D dd : Addr} {oe : Obj} {pn : List (Addr × Obj)} {fs : List (Str × V)} (C : ExcC X.K D) (hz : Zc (.ref D) (some dd) oe) (hf : ∃ vs, oe.data = .fields vs) :
    CallR (X.suite a ((a, oe) :: pn)) (.builtin "isinstance") (fun xs H Q => H dd = some (.xd fs) ∧ rIsX X.K D a xs H Q) := fun pins s σ H xs us Q I r h => by
  match xs, us, r, h with
  | [_, c], [w, u], .cons rx (.cons rt .nil), ⟨hdd, e0, cv, b, hcv, e, q⟩ =>
    subst e0
    obtain rfl : w = .ref a := rx
    have hu := hcv u rt
    subst hu
    have own := (I.pin (a, oe) (by simp)).1
    obtain ⟨_, hns, _⟩ := I.hok dd _ hdd
    obtain ⟨od, ho, _⟩ := lookIn_ns hns
    obtain ⟨vs, hv⟩ := hf
    have at_ : PySem.W.InstAt s.heap a oe D (some od) := by
      refine ⟨own, hz.1, ?_, by rw [hz.2]; exact ho⟩
      rw [PySem.W.notCls, hv] <;> first | rfl | trivial
    refine PySem.W.kia_one (PySem.W.kitx_exc ?_ C.hg C.hk C.hs C.ha C.hn C.ht C.hm) I.kIn at_ e (by intro z; cases z) fun tk => ?_
    · have z := C.hd
      unfold PySem.W.hasDictIn at z
      cases y : PySem.W.clsIn X.K D with
      | none => rw [y] at z; cases z
      | some _ => rfl
    · exact ⟨.bl b, H, I.kept (t' := tk) (fun _ _ z => z), rfl, q⟩
/-! ### over data -/
def subN (x y : Str) : Bool := x == y || y == ("HouseError" : Str)
/-- what the module tells of its errors: T those that may be raised, U those that are named -/
structure ErrT (K : PySem.W.Frag) (mg : Str → Option Value) (C : Str → Addr) (T U : List Str) : Prop where
  cls : ∀ x ∈ T, ExcC K (C x) ∧ XfC K (C x)
  fld : ∀ x ∈ T, PySem.W.findIn K (.ref (C x)) "value" = some none
  two : ∀ x ∈ T, ∀ y ∈ U, PySem.W.exmOne K (.ref (C x)) (.ref (C y)) = some (subN x y) ∧ PySem.W.kitOne K (.ref (C x)) (.ref (C y)) = some (subN x y)
  val : ∀ x ∈ T, PySem.W.kitOne K (.ref (C x)) (.type "ValueError") = some true
  glb : ∀ y ∈ U, mg y = some (.ref (C y)) ∧ PySem.W.keepIn K (.ref (C y)) = true
theorem repF_lookup {K : PySem.W.Frag} {G : Hp} {n : Str} {d : D} : ∀ {vs : List (Str × V)} {fs : List (Str × D)}, RepF K G vs fs → fs.lookup n = some d → ∃ v, vs.lookup n = some v ∧ Rep K G v d
  | [], _, h, e => by cases h; simp at e
  | (k, v) :: vs, (k', d') :: fs, h, e => by
    cases h with
    | cons h1 h2 =>
      obtain ⟨e1, r⟩ := h1
      dsimp only at e1 r
      subst e1
      by_cases c : (n == k) = true
      · rw [List.lookup_cons, c] at e
        cases e
        exact ⟨v, by rw [List.lookup_cons, c], r⟩
      · have c : (n == k) = false := by simpa using c
        rw [List.lookup_cons, c] at e
        obtain ⟨w, h3, h4⟩ := repF_lookup h2 e
        exact ⟨w, by rw [List.lookup_cons, c]; exact h3, h4⟩
def hS (K : PySem.W.Frag) (W : WX) (r : DTS) : TS := fun Dh σV H => ∃ (Dd : DEnds) (G : Hp) (S : Sto) (σ : DSt), EndsOk K W Dd G H S Dh ∧ Wok K G H S ∧ Sl K G σV σ ∧ r Dd σ S
theorem DSs.can {X : Cx} {W : WX} {sts : List Stmt} {r : DTS} (h : DSs X W sts r) : PSs X sts (hS X.K W r) := by
  obtain ⟨t, p, q⟩ := h
  exact ⟨fun pins s σ H D I ⟨Dd, G, S, σ', e, k, sl, hr⟩ => p.run pins s σ H D I (q.run Dd G H S σ σ' D e k sl hr)⟩
theorem Fr.drop {G H G' H' : Hp} {S S' : Sto} {p : Addr} (f : Fr G H S G' H' S') : Fr G H S G' H' (rem S' p) := ⟨f.g, fun a o h g s => by
  obtain ⟨h1, h2, h3⟩ := f.fr a o h g s
  refine ⟨h1, h2, ?_⟩
  unfold rem; split <;> first | rfl | exact h3⟩
section
variable {X : Cx} {W : WX} {C : Str → Addr} {T U : List Str} {a dd : Addr} {x : Str} {oe : Obj} {pn : List (Addr × Obj)}
/-- e.n, e the caught error -/
def kXf (a dd : Addr) (n : Str) (Q : DK) (d : D) (S : Sto) : Prop := d = .ref a ∧ ∃ fs v, S dd = some (.xd fs) ∧ fs.lookup n = some v ∧ Q v S
def dXf (a dd : Addr) (i : Nat) (n : Str) : DTE := fun E σ S Q => dVar i E σ S fun d S' => kXf a dd n Q d S'
theorem de_xf {i : Nat} {al n : Str} {p pos : Pos} (E : ErrT X.K X.mg C T U) (hx : x ∈ T) (hno : PySem.W.findIn X.K (.ref (C x)) n = some none) (hz : Zc (.ref (C x)) (some dd) oe) (hf : ∃ vs, oe.data = .fields vs)
    (hN : X.N[i]? = some al) (hv : Vis X.env.scope al) (hd : (al == ("__debug__" : Str)) = false := by decide) (hcd : (al == ("__classdict__" : Str)) = false := by decide) (hb : attributeBase (.Name al p) n X.env (eval (.Name al p) X.env) = eval (.Name al p) X.env := by rfl) :
    DE (X.suite a ((a, oe) :: pn)) W (.Attribute (.Name al p) n pos) (dXf a dd i n) := by
  refine ⟨_, pe_xf (X := X) (E.cls x hx).2 hno hz hf (pe_var (X := X.suite a ((a, oe) :: pn)) (i := i) hN hv hd hcd) hb, ⟨fun E G H S σV σ Q P w k s h q => ?_⟩⟩
  unfold dXf dVar at h
  split at h
  rotate_left
  · exact h.elim
  rename_i d h1
  obtain ⟨rfl, fs, v, h2, h3, h4⟩ := h
  obtain ⟨u, h5, h6⟩ := s.at_ i _ h1
  cases h6
  obtain ⟨_, vs, h7, h8⟩ := k.sto dd _ h2
  obtain ⟨u, h9, r⟩ := repF_lookup h8 h3
  exact ⟨.ref a, h5, rfl, rfl, dd, vs, u, rfl, h7, h9, q v S G H u h4 k (.refl _ _ _) r⟩
/-- isinstance(e, y), y an own error or ValueError -/
def kIsX (a dd : Addr) (b : Bool) (Q : DK) (d : D) (S : Sto) : Prop := d = .ref a ∧ (∃ fs, S dd = some (.xd fs)) ∧ Q (.bl b) S
def dIsX (a dd : Addr) (i : Nat) (b : Bool) : DTE := fun E σ S Q => dVar i E σ S fun d S' => kIsX a dd b Q d S'
theorem de_isXv {i : Nat} {al y : Str} {v : V} {cv : Value} {b : Bool} {p p2 p3 pos : Pos} (E : ErrT X.K X.mg C T U) (hx : x ∈ T) (hz : Zc (.ref (C x)) (some dd) oe) (hf : ∃ vs, oe.data = .fields vs)
    (hg : Gl X "isinstance") (hm : X.mg "isinstance" = none) (hN : X.N[i]? = some al) (hv : Vis X.env.scope al) (hy : PE (X.suite a ((a, oe) :: pn)) (.Name y p3) (tC v)) (hc : ∀ u, RelV v u → u = cv) (hk : PySem.W.kitOne X.K (.ref (C x)) cv = some b)
    (hd : (al == ("__debug__" : Str)) = false := by decide) (hcd : (al == ("__classdict__" : Str)) = false := by decide)
    (hs : starEach [.Name al p2, .Name y p3] X.env = (false, eval (.Name al p2) X.env) :: starEach [.Name y p3] X.env := by rfl) (hs2 : starEach [.Name y p3] X.env = (false, eval (.Name y p3) X.env) :: starEach [] X.env := by rfl) (hpl : (backTo pos (starEach [.Name y p3] X.env)).any (·.1) = false := by rfl) :
    DE (X.suite a ((a, oe) :: pn)) W (.Call (.Name "isinstance" p) [.Name al p2, .Name y p3] [] pos) (dIsX a dd i b) := by
  have pa : PA (X.suite a ((a, oe) :: pn)) [.Name al p2, .Name y p3] _ := pa_cons (pe_var (X := X.suite a ((a, oe) :: pn)) (i := i) hN hv hd hcd) (pa_cons hy pa_nil hs2) hs
  have key : ∀ fs : List (Str × V), PE (X.suite a ((a, oe) :: pn)) (.Call (.Name "isinstance" p) [.Name al p2, .Name y p3] [] pos) _ := fun fs => pe_callB (X := X.suite a ((a, oe) :: pn)) (call_isX (fs := fs) (E.cls x hx).1 hz hf) hg hm (by decide +kernel) pa (by decide) (by decide) hs hpl
  refine ⟨fun σV H Q => ∃ fs, σV[i]? = some (some (.ref a)) ∧ H dd = some (.xd fs) ∧ Q (.bl b) H, ⟨fun pins s σ H Q I ⟨fs, h1, h2, h3⟩ => (key fs).run pins s σ H Q I ?_⟩, ⟨fun E G H S σV σ Q P w k s h q => ?_⟩⟩
  · exact ⟨.ref a, h1, h2, rfl, cv, b, hc, hk, h3⟩
  · unfold dIsX dVar at h
    split at h
    rotate_left
    · exact h.elim
    rename_i d h1
    obtain ⟨rfl, ⟨fs, h2⟩, h3⟩ := h
    obtain ⟨u, h5, h6⟩ := s.at_ i _ h1
    cases h6
    obtain ⟨_, vs, h7, h8⟩ := k.sto dd _ h2
    exact ⟨vs, h5, h7, q _ S G H _ h3 k (.refl _ _ _) (.bl _)⟩
theorem de_isX {i : Nat} {al y : Str} {p p2 p3 pos : Pos} (E : ErrT X.K X.mg C T U) (hx : x ∈ T) (hz : Zc (.ref (C x)) (some dd) oe) (hf : ∃ vs, oe.data = .fields vs) (hy : y ∈ U)
    (hg : Gl X "isinstance") (hm : X.mg "isinstance" = none) (hN : X.N[i]? = some al) (hv : Vis X.env.scope al) (hgy : Gl X y) (hdy : (y == ("__debug__" : Str)) = false := by decide)
    (hd : (al == ("__debug__" : Str)) = false := by decide) (hcd : (al == ("__classdict__" : Str)) = false := by decide)
    (hs : starEach [.Name al p2, .Name y p3] X.env = (false, eval (.Name al p2) X.env) :: starEach [.Name y p3] X.env := by rfl) (hs2 : starEach [.Name y p3] X.env = (false, eval (.Name y p3) X.env) :: starEach [] X.env := by rfl) (hpl : (backTo pos (starEach [.Name y p3] X.env)).any (·.1) = false := by rfl) :
    DE (X.suite a ((a, oe) :: pn)) W (.Call (.Name "isinstance" p) [.Name al p2, .Name y p3] [] pos) (dIsX a dd i (subN x y)) :=
  de_isXv E hx hz hf hg hm hN hv (pe_glob (X := X.suite a ((a, oe) :: pn)) (v := .ref (C y)) hgy (E.glb y hy).1 rfl hdy) (fun u r => r) (E.two x hx y hy).2 hd hcd hs hs2 hpl
theorem de_isXV {i : Nat} {al : Str} {p p2 p3 pos : Pos} (E : ErrT X.K X.mg C T U) (hx : x ∈ T) (hz : Zc (.ref (C x)) (some dd) oe) (hf : ∃ vs, oe.data = .fields vs)
    (hg : Gl X "isinstance") (hm : X.mg "isinstance" = none) (hN : X.N[i]? = some al) (hv : Vis X.env.scope al) (hgy : Gl X "ValueError") (hmy : X.mg "ValueError" = none)
    (hd : (al == ("__debug__" : Str)) = false := by decide) (hcd : (al == ("__classdict__" : Str)) = false := by decide)
    (hs : starEach [.Name al p2, .Name "ValueError" p3] X.env = (false, eval (.Name al p2) X.env) :: starEach [.Name "ValueError" p3] X.env := by rfl) (hs2 : starEach [.Name "ValueError" p3] X.env = (false, eval (.Name "ValueError" p3) X.env) :: starEach [] X.env := by rfl) (hpl : (backTo pos (starEach [.Name "ValueError" p3] X.env)).any (·.1) = false := by rfl) :
    DE (X.suite a ((a, oe) :: pn)) W (.Call (.Name "isinstance" p) [.Name al p2, .Name "ValueError" p3] [] pos) (dIsX a dd i true) :=
  de_isXv E hx hz hf hg hm hN hv (pe_bltn (X := X.suite a ((a, oe) :: pn)) (v := .ty "ValueError") hgy hmy (by decide +kernel) rfl) (fun u r => r) (E.val x hx) hd hcd hs hs2 hpl
end
end KD

set_option maxRecDepth 100000
set_option maxHeartbeats 4000000
/-! KdD: dicts as data. -/
namespace KD
open PySem PySem.Spec PyProof.Rows L2
def keyOf : D → Option Key
  | .int i => some (.inl i)
  | .str x => some (.inr x)
  | _ => none
def kD : Key → D
  | .inl i => .int i
  | .inr x => .str x
def valD {κ : Type} [DecidableEq κ] (kvs : List (κ × D)) (k : κ) : Option D := (kvs.find? fun kv => decide (kv.1 = k)).map (·.2)
def putD {κ : Type} [DecidableEq κ] (kvs : List (κ × D)) (k : κ) (v : D) : List (κ × D) :=
  if kvs.any (fun kv => decide (kv.1 = k)) then kvs.map fun kv => if kv.1 = k then (kv.1, v) else kv else kvs ++ [(k, v)]
def dropD {κ : Type} [DecidableEq κ] (kvs : List (κ × D)) (k : κ) : List (κ × D) := kvs.filter fun kv => decide (kv.1 ≠ k)
def mergeD (kvs more : List (Key × D)) : List (Key × D) := more.foldl (fun acc kv => putD acc kv.1 kv.2) kvs
section
variable {K : PySem.W.Frag} {G : Hp}
theorem key_rep {v : V} {d : D} {k : Key} (r : Rep K G v d) (h : keyOf d = some k) : v = kV k := by
  cases r <;> simp only [keyOf, reduceCtorEq, Option.some.injEq] at h <;> subst h <;> rfl
theorem kV_rep (k : Key) : Rep K G (kV k) (kD k) := by cases k; exact .int _; exact .str _
theorem repK_find (k : Key) : ∀ {vs : List (Key × V)} {ds : List (Key × D)}, RepK K G vs ds → (valD ds k = none → valV vs k = none) ∧ ∀ d, valD ds k = some d → ∃ v, valV vs k = some v ∧ Rep K G v d
  | [], _, h => by cases h; exact ⟨fun _ => rfl, fun d e => by cases e⟩
  | (k', v) :: vs, _, h => by
    cases h with
    | @cons _ _ _ d ds h1 h2 =>
      by_cases c : k' = k
      · have e1 : valD ((k', d) :: ds) k = some d := by simp [valD, c]
        have e2 : valV ((k', v) :: vs) k = some v := valV_pos c
        rw [e1, e2]
        refine ⟨fun z => ?_, fun d' z => ?_⟩
        · cases z
        · cases z; exact ⟨v, rfl, h1⟩
      · have e1 : valD ((k', d) :: ds) k = valD ds k := by simp [valD, List.find?_cons, c]
        have e2 : valV ((k', v) :: vs) k = valV vs k := valV_neg c
        rw [e1, e2]
        exact repK_find k h2
theorem RepK.length : ∀ {vs : List (Key × V)} {ds : List (Key × D)}, RepK K G vs ds → vs.length = ds.length
  | [], _, h => by cases h; rfl
  | _ :: vs, _, h => by
    cases h with
    | cons h1 h2 => simp [RepK.length h2]
theorem RepK.keys : ∀ {vs : List (Key × V)} {ds : List (Key × D)}, RepK K G vs ds → vs.map (·.1) = ds.map (·.1)
  | [], _, h => by cases h; rfl
  | _ :: vs, _, h => by
    cases h with
    | cons h1 h2 => simp [RepK.keys h2]
theorem RepK.keysL {vs : List (Key × V)} {ds : List (Key × D)} (h : RepK K G vs ds) : RepL K G (vs.map fun kv => kV kv.1) (ds.map fun kv => kD kv.1) := by
  induction vs generalizing ds with
  | nil => cases h; exact .nil
  | cons p vs ih =>
    cases h with
    | cons h1 h2 => exact .cons (kV_rep _) (ih h2)
theorem RepK.any (k : Key) : ∀ {vs : List (Key × V)} {ds : List (Key × D)}, RepK K G vs ds → (vs.any fun kv => decide (kv.1 = k)) = ds.any fun kv => decide (kv.1 = k)
  | [], _, h => by cases h; rfl
  | _ :: vs, _, h => by
    cases h with
    | cons h1 h2 => simp only [List.any_cons, RepK.any k h2]
theorem RepK.repl {k : Key} {v : V} {d : D} (r : Rep K G v d) : ∀ {vs : List (Key × V)} {ds : List (Key × D)}, RepK K G vs ds → RepK K G (vs.map fun kv => if kv.1 = k then (kv.1, v) else kv) (ds.map fun kv => if kv.1 = k then (kv.1, d) else kv)
  | [], _, h => by cases h; exact .nil
  | (k', v') :: vs, _, h => by
    cases h with
    | @cons _ _ _ d' ds h1 h2 =>
      simp only [List.map_cons]
      by_cases c : k' = k
      · rw [if_pos c, if_pos c]; exact .cons r (RepK.repl r h2)
      · rw [if_neg c, if_neg c]; exact .cons h1 (RepK.repl r h2)
theorem RepK.snoc {k : Key} {v : V} {d : D} (r : Rep K G v d) : ∀ {vs : List (Key × V)} {ds : List (Key × D)}, RepK K G vs ds → RepK K G (vs ++ [(k, v)]) (ds ++ [(k, d)])
  | [], _, h => by cases h; exact .cons r .nil
  | _ :: vs, _, h => by
    cases h with
    | cons h1 h2 => exact .cons h1 (RepK.snoc r h2)
theorem RepK.put {k : Key} {v : V} {d : D} {vs : List (Key × V)} {ds : List (Key × D)} (h : RepK K G vs ds) (r : Rep K G v d) : RepK K G (putK vs k v) (putD ds k d) := by
  unfold putK putD
  rw [h.any k]
  split
  · exact h.repl r
  · exact h.snoc r
theorem RepK.merge : ∀ {ms : List (Key × V)} {md : List (Key × D)} {vs : List (Key × V)} {ds : List (Key × D)}, RepK K G ms md → RepK K G vs ds → RepK K G (mergeK vs ms) (mergeD ds md)
  | [], _, _, _, h, q => by cases h; exact q
  | (ky, v) :: ms, _, vs, ds0, h, q => by
    cases h with
    | @cons _ _ _ d ds h1 h2 => exact RepK.merge (vs := putK vs ky v) (ds := putD ds0 ky d) h2 (q.put h1)
theorem RepK.drop (k : Key) : ∀ {vs : List (Key × V)} {ds : List (Key × D)}, RepK K G vs ds → RepK K G (dropK vs k) (dropD ds k)
  | [], _, h => by cases h; exact .nil
  | (k', v) :: vs, _, h => by
    cases h with
    | @cons _ _ _ d ds h1 h2 =>
      unfold dropK dropD
      simp only [List.filter_cons]
      by_cases c : k' = k
      · simp only [c, ne_eq, not_true, decide_false, Bool.false_eq_true, if_false]
        exact RepK.drop k h2
      · simp only [c, ne_eq, not_false_eq_true, decide_true, if_true]
        exact .cons h1 (RepK.drop k h2)
/-- a dict of data, locked or in the store -/
theorem dic_of {H : Hp} {S : Sto} {v : V} {d : D} {xs : List (Key × D)} (k : Wok K G H S) (r : Rep K G v d) (h : vw S d = .dic xs) : ∃ a vs, v = .ref a ∧ Rd H a (.dK vs) ∧ RepK K G vs xs := by
  unfold vw at h
  split at h
  · rename_i p
    cases r
    split at h
    · cases h
    · rename_i ys hp
      cases h
      obtain ⟨_, vs, q1, q2⟩ := k.sto p _ hp
      exact ⟨p, vs, rfl, .inl q1, q2⟩
    · cases h
    · cases h
  · subst h
    cases r with
    | dic h1 h2 => exact ⟨_, _, rfl, .inr ⟨_, k.ext _ _ h1⟩, h2⟩
/-- what was made here becomes data that never changes -/
theorem Wok.lockN {H0 G1 H1 : Hp} {S0 S1 : Sto} {G0 : Hp} {p : Addr} {o : HO} (w0 : Wok K G0 H0 S0) (n : H0 p = none) (w : Wok K G1 H1 S1) (f : Fr G0 H0 S0 G1 H1 S1) (g : G1 p = none) (s : S1 p = none) :
    Wok K (upd G1 p o) (upd H1 p o) S1 ∧ Fr G0 H0 S0 (upd G1 p o) (upd H1 p o) S1 := by
  refine ⟨(w.hid g s).show upd_same s, ⟨f.g.trans (Evl.Ex.new g), fun a u e ga sa => ?_⟩⟩
  have c : a ≠ p := fun c => by subst c; rw [n] at e; cases e
  obtain ⟨h1, h2, h3⟩ := f.fr a u e ga sa
  exact ⟨by rw [upd_ne c]; exact h1, by rw [upd_ne c]; exact h2, h3⟩
end
section
variable {X : Cx} {W : WX} {K : PySem.W.Frag} {e : Expr} {ra : DTE} {pos : Pos}
/-! ### locking -/
theorem pe_lock {t : TE} (h : PE X e t) : PE X e (fun σ H Q => t σ H fun v H1 => ∃ d u, v = .ref d ∧ H1 d = some u ∧ Mut (some u) ∧ ∀ od, Q v (upd H1 d (.frz od u))) := by
  refine ⟨fun pins s σ H Q I q => thn (h.run pins s σ H _ I q) fun u s1 ⟨v, H1, I1, rv, d, o, ev, hd, mu, q1⟩ => ?_⟩
  obtain ⟨od, I2⟩ := I1.lock hd mu
  exact ⟨v, _, I2, rv, q1 od⟩
/-! ### displays -/
def dPairs : List (DTE × DTE) → DEr → DSt → Sto → (List (D × D) → Sto → Prop) → Prop
  | [], _, _, S, Q => Q [] S
  | (a, b) :: r, E, σ, S, Q => a E σ S fun x S1 => b E σ S1 fun y S2 => dPairs r E σ S2 fun ps S3 => Q ((x, y) :: ps) S3
def pairsK : List (D × D) → Option (List (Key × D))
  | [] => some []
  | (x, y) :: r => match keyOf x, pairsK r with
    | some k, some l => some ((k, y) :: l)
    | _, _ => none
inductive RepP (K : PySem.W.Frag) (G : Hp) : List (V × V) → List (D × D) → Prop
  | nil : RepP K G [] []
  | cons {x y : V} {a b : D} {vs : List (V × V)} {ds : List (D × D)} : Rep K G x a → Rep K G y b → RepP K G vs ds → RepP K G ((x, y) :: vs) ((a, b) :: ds)
theorem repP_K {G : Hp} : ∀ {vs : List (V × V)} {ds : List (D × D)} {kvs : List (Key × D)}, RepP K G vs ds → pairsK ds = some kvs → ∃ us, vs = us.map (fun kv => (kV kv.1, kv.2)) ∧ RepK K G us kvs
  | [], _, _, h, e => by cases h; simp only [pairsK, Option.some.injEq] at e; subst e; exact ⟨[], rfl, .nil⟩
  | (x, y) :: vs, _, _, h, e => by
    cases h with
    | @cons _ _ a b _ ds h1 h2 h3 =>
      simp only [pairsK] at e
      split at e
      · rename_i k l hk hl
        cases e
        obtain ⟨us, rfl, h4⟩ := repP_K h3 hl
        exact ⟨(k, y) :: us, by rw [key_rep h1 hk]; rfl, .cons h2 h4⟩
      · cases e
inductive EvPs (K : PySem.W.Frag) (W : WX) : List (TE × TE) → List (DTE × DTE) → Prop
  | nil : EvPs K W [] []
  | cons {a b : TE} {ra rb : DTE} {l : List (TE × TE)} {m : List (DTE × DTE)} : EvD K W a ra → EvD K W b rb → EvPs K W l m → EvPs K W ((a, b) :: l) ((ra, rb) :: m)
theorem evps_run {l : List (TE × TE)} {m : List (DTE × DTE)} (h : EvPs K W l m) : ∀ (E : DEr) (G H : Hp) (S : Sto) (σV : L2.St) (σ : DSt) (Q : List (D × D) → Sto → Prop) (P : List (V × V) → Hp → Prop), WOk K W E σV G H S → Wok K G H S → Sl K G σV σ → dPairs m E σ S Q →
    (∀ ds S' G' H' vs, Q ds S' → Wok K G' H' S' → Fr G H S G' H' S' → RepP K G' vs ds → P vs H') → tPairs l σV H P := by
  induction h with
  | nil => exact fun E G H S σV σ Q P w k s hr p => p [] S G H [] hr k (.refl _ _ _) .nil
  | cons ea eb _ ih =>
    intro E G H S σV σ Q P w k s hr p
    refine ea.run E G H S σV σ _ _ w k s hr fun x S1 G1 H1 v h1 k1 f1 r1 => ?_
    refine eb.run E G1 H1 S1 σV σ _ _ (w.mono f1) k1 (s.mono f1.g) h1 fun y S2 G2 H2 u h2 k2 f2 r2 => ?_
    refine ih E G2 H2 S2 σV σ _ _ (w.mono (f1.trans f2)) k2 (s.mono (f1.trans f2).g) h2 fun ps S3 G3 H3 vs h3 k3 f3 r3 => ?_
    exact p _ S3 G3 H3 _ h3 k3 ((f1.trans f2).trans f3) (.cons (r1.mono (f2.trans f3).g) (r2.mono f3.g) r3)
def DPPs (X : Cx) (W : WX) (pos : Pos) (keys : List (Option Expr)) (values : List Expr) (m : List (DTE × DTE)) : Prop := ∃ l, PPs X pos keys values l ∧ EvPs X.K W l m
theorem dpps_nil : DPPs X W pos [] [] [] := ⟨_, pps_nil, .nil⟩
theorem dpps_cons {k v : Expr} {ks : List (Option Expr)} {vs : List Expr} {rk rv : DTE} {m : List (DTE × DTE)} (hk : DE X W k rk) (hv : DE X W v rv) (hr : DPPs X W pos ks vs m) : DPPs X W pos (some k :: ks) (v :: vs) ((rk, rv) :: m) := by
  obtain ⟨tk, pk, ek⟩ := hk
  obtain ⟨tv, pv, ev⟩ := hv
  obtain ⟨l, pl, el⟩ := hr
  exact ⟨_, pps_cons pk pv pl, .cons ek ev el⟩
def dDisp (m : List (DTE × DTE)) : DTE := fun E σ S Q => dPairs m E σ S fun ps S' => ∃ kvs, pairsK ps = some kvs ∧ kvs.length ≤ 15 ∧ Q (.dic (mergeD [] kvs)) S'
/-- a dict that will change -/
def dDispM (m : List (DTE × DTE)) : DTE := fun E σ S Q => dPairs m E σ S fun ps S' => ∃ kvs, pairsK ps = some kvs ∧ kvs.length ≤ 15 ∧ ∀ p, S' p = none → Q (.ref p) (put S' p (.dic (mergeD [] kvs)))
theorem de_disp {keys : List (Option Expr)} {values : List Expr} {m : List (DTE × DTE)} (h : DPPs X W pos keys values m) (hall : keys.all (·.isSome) = true) (hl : keys.length = values.length) (h0 : keys ≠ []) (hn : keys.length ≤ 15) : DE X W (.Dict keys values pos) (dDisp m) := by
  obtain ⟨l, p, q⟩ := h
  refine ⟨_, pe_lock (pe_disp p hall hl h0 hn), ⟨fun E G H S σV σ Q P w k s hr f => ?_⟩⟩
  intro b hb
  obtain ⟨k1, f1⟩ := k.newH (o := .dK []) hb
  refine evps_run q E _ _ S σV σ _ _ (w.mono f1) k1 (s.mono f1.g) hr fun ds S2 G2 H2 vs hq k2 f2 r2 => ?_
  obtain ⟨kvs, e1, e2, hq⟩ := hq
  obtain ⟨us, rfl, ru⟩ := repP_K r2 e1
  have gb := k.freeG hb
  have sb := k.freeS hb
  obtain ⟨h3, g3, s3⟩ := f2.fr b _ upd_same gb sb
  refine ⟨h3, us, rfl, by rw [ru.length]; exact e2, b, _, rfl, upd_same, trivial, fun od => ?_⟩
  obtain ⟨k4, f4⟩ := Wok.lockN (o := .frz od (.dK (mergeK [] us))) k hb k2 (f1.trans f2) g3 s3
  have e : upd (upd H2 b (.dK (mergeK [] us))) b (.frz od (.dK (mergeK [] us))) = upd H2 b (.frz od (.dK (mergeK [] us))) := by
    funext x; unfold upd; split <;> rfl
  rw [e]
  exact f _ _ _ _ _ hq k4 f4 (.dic upd_same ((ru.merge .nil).mono (Evl.Ex.new g3)))
def dDict0 : DTE := fun _ _ S Q => Q (.dic []) S
theorem de_dict0 : DE X W (.Dict [] [] pos) dDict0 := by
  refine ⟨_, pe_lock pe_dnewK, ⟨fun E G H S σV σ Q P w k s hr f => ?_⟩⟩
  intro b hb
  refine ⟨b, _, rfl, upd_same, trivial, fun od => ?_⟩
  have e : upd (upd H b (.dK [])) b (.frz od (.dK [])) = upd H b (.frz od (.dK [])) := by
    funext x; unfold upd; split <;> rfl
  rw [e]
  obtain ⟨k4, f4⟩ := k.newG (o := .frz od (.dK [])) hb
  exact f _ _ _ _ _ hr k4 f4 (.dic upd_same .nil)
def dDict0M : DTE := fun _ _ S Q => ∀ p, S p = none → Q (.ref p) (put S p (.dic []))
theorem de_dict0M : DE X W (.Dict [] [] pos) dDict0M := by
  refine ⟨_, pe_dnewK, ⟨fun E G H S σV σ Q P w k s hr f => ?_⟩⟩
  intro b hb
  obtain ⟨k2, f2⟩ := k.newS (o := .dK []) (m := .dic []) hb ⟨[], upd_same, .nil⟩
  exact f _ _ _ _ _ (hr b (k.freeS hb)) k2 f2 (.ref b)
/-! ### d[k] -/
theorem ix_dict (hu : X.A.units + 1 < cLine) : IxR X (fun x y H Q => ∃ a v, x = .ref a ∧ DGet H a y (some v) ∧ Q v H) := by
  intro value slice pins s σ H x y v u Q I rx ry h hs
  obtain ⟨a, z, ex, g, q⟩ := h
  subst ex
  obtain rfl : v = Value.ref a := rx
  have hT := dict_typeIs I g
  unfold subscriptTail
  refine wpAny_bind ?_
  rw [getitemInPython_of_ne hT.not_modules]
  refine wpAny_bind (wpAny_specialOf hT PySem.F.slot_dict_getitem.lookup ?_)
  have fin : wpAny (model X.prog X.w) X.A (subscripted slice false (.ref a) u) (fun r s₃ => wpAny (model X.prog X.w) X.A (letTemporaryGo value (.ref a) r >>= fun _ => pure r) (EP X pins σ Q) X.xe s₃) X.xe s := by
    rw [hs]
    exact wpAny_operating (wpAny_mono (d_getItem hu I g ry fun w' s3 I3 rw' => (show EP X pins σ Q w' s3 from ⟨z, H, I3, rw', q⟩)) (fun r s₃ h₃ => wpAny_bind (wpAny_letTemporaryGo (wpAny_pure h₃))) fun _ _ x => x)
  first
    | exact wpAny_pure (wpAny_bind fin)
    | exact wpAny_bind (wpAny_pure (wpAny_bind fin))
    | exact wpAny_bind fin
def dIxD : D → D → Sto → DK → Prop := fun x y S Q => ∃ kvs k d, vw S x = .dic kvs ∧ keyOf y = some k ∧ valD kvs k = some d ∧ Q d S
theorem dix_dict (hu : X.A.units + 64 < cLine) : DIx X dIxD := ⟨_, ix_dict (by omega), ⟨fun G H S x y v u Q P k r1 r2 h p => by
  obtain ⟨kvs, ky, d, h1, h2, h3, h4⟩ := h
  obtain ⟨a, vs, rfl, hr, rk⟩ := dic_of k r1 h1
  obtain ⟨z, hz, rz⟩ := (repK_find ky rk).2 d h3
  exact ⟨a, z, rfl, .inl ⟨vs, ky, hr, key_rep r2 h2, hz.symm⟩, p d S G H z h4 k (.refl _ _ _) rz⟩⟩⟩
theorem DIx.or {q q' q2 : D → D → Sto → DK → Prop} (h : DIx X q) (h' : DIx X q') (hq : ∀ x y S Q, q2 x y S Q → q x y S Q ∨ q' x y S Q) : DIx X q2 := by
  obtain ⟨r, o, e⟩ := h
  obtain ⟨r', o', e'⟩ := h'
  exact ⟨_, o.or o', rvd_or e e' hq⟩
/-- x[y] of a sequence or a dict -/
def dIxG : D → D → Sto → DK → Prop := fun x y S Q => match vw S x with
  | .dic kvs => ∃ k d, keyOf y = some k ∧ valD kvs k = some d ∧ Q d S
  | .lst xs => match y with
    | .int i => ∃ d, atI xs i = some d ∧ Q d S
    | _ => False
  | .tup xs => match y with
    | .int i => ∃ d, atI xs i = some d ∧ Q d S
    | _ => False
  | .scr ns => match y with
    | .int i => ∃ n, atI ns i = some n ∧ Q (.int n) S
    | _ => False
  | .str z => match y with
    | .int i => z.length ≤ sizeLine ∧ ∃ c, atI z.cps.toList i = some c ∧ Q (.str ⟨#[c]⟩) S
    | _ => False
  | _ => False
theorem dix_G (hu : X.A.units + 64 < cLine) : DIx X dIxG := dix_seq.or (dix_dict hu) fun x y S Q h => by
  unfold dIxG at h
  split at h
  · rename_i kvs e; obtain ⟨k, d, h1, h2, h3⟩ := h; exact .inr ⟨kvs, k, d, e, h1, h2, h3⟩
  all_goals first
    | exact h.elim
    | (rename_i e
       split at h
       · refine .inl ?_
         unfold dIxS; rw [e]; exact h
       · exact h.elim)
/-! ### walks -/
theorem pi_srcD {tg e : Expr} {tl : TE} (hl : PE X e tl) : PI X tg e (fun σ H R => tl σ H fun x H1 => (∃ k : SrcK, x = k.v ∧ k.gd X.K H1 ∧ R (k.J X.K) H1) ∨ ∃ d o kvs, x = .ref d ∧ H1 d = some (.frz o (.dK kvs)) ∧ R (Itk d o kvs) H1) := by
  refine ⟨fun pins s σ H R I h => ?_⟩
  refine thn (hl.run pins s σ H _ I h) fun v s1 ⟨x, H1, I1, r1, hh⟩ => ?_
  rcases hh with ⟨k, hx, hq, q⟩ | ⟨d, o, kvs, hx, hd, q⟩
  · subst hx
    cases k with
    | lst a vs =>
      obtain rfl : v = .ref a := r1
      obtain ⟨its, rv, p, hz⟩ := I1.list hq
      refine wpAny_pyIter_list p.isList ?_
      refine ⟨s1.heap.objs.size, [s1.heap.objs.size], _, _, H1, rfl, I1.kept (t' := s1.toks) fun b o e => Heap.get?_push_of_some _ e, turn_list a _, ⟨_, Heap.get?_push_size _ rfl, rfl, rfl⟩, fun b hb => ?_, q⟩
      have e : b = s1.heap.objs.size := by simpa using hb
      subst e
      exact I1.fpOk (Nat.le_refl _) (I1.hok.fresh (Nat.le_refl _))
    | tup a vs =>
      obtain rfl : v = .ref a := r1
      obtain ⟨its, rv, p, hz⟩ := I1.tuple hq
      refine wpAny_pyIter_tuple (show s1.heap.IsTuple a its.toArray from p) ?_
      refine ⟨s1.heap.objs.size, [s1.heap.objs.size], _, _, H1, rfl, I1.kept (t' := s1.toks) fun b o e => Heap.get?_push_of_some _ e, turn_tuple a _, ⟨_, Heap.get?_push_size _ rfl, rfl, rfl⟩, fun b hb => ?_, q⟩
      have e : b = s1.heap.objs.size := by simpa using hb
      subst e
      exact I1.fpOk (Nat.le_refl _) (I1.hok.fresh (Nat.le_refl _))
    | str z =>
      obtain ⟨t, rfl⟩ := r1
      cases ha : z.cps.all (· < 128)
      · exact wpAny_pyIter_wide ha (pi_one (tk := s1.toks) I1 _ (turn_str _ z t "str_iterator" (.inr rfl)) ⟨_, Heap.get?_push_size _ rfl, rfl, rfl⟩ q)
      · exact wpAny_pyIter_ascii ha (pi_one (tk := s1.toks) I1 _ (turn_str _ z t "str_ascii_iterator" (.inl rfl)) ⟨_, Heap.get?_push_size _ rfl, rfl, rfl⟩ q)
  · subst hx
    obtain rfl : v = Value.ref d := r1
    obtain ⟨hs, hgd, hx, es, ep, vs, hdt, hsz, kv, hm⟩ := I1.frzK hd
    refine iter_keys hs hgd hx hdt (pi_one (tk := s1.toks) I1 _ (turn_keys _ hdt) ⟨_, Heap.get?_push_size _ rfl, rfl, ?_⟩ q)
    rw [hsz] <;> rfl
/-- what a walk of a datum finds -/
def iterOf : D → Option (List D)
  | .dic kvs => some (kvs.map fun kv => kD kv.1)
  | d => itemsOf d
def kItG (I : List D → Sto → Prop) (d : D) (S : Sto) : Prop := match d with
  | .lst xs => I xs S
  | .tup xs => I xs S
  | .str z => I (signs z) S
  | .scr ns => I (ns.map .int) S
  | .dic kvs => I (kvs.map fun kv => kD kv.1) S
  | _ => False
theorem kIt_of {I : List D → Sto → Prop} {d : D} {S : Sto} (h : kItG I d S) : ∃ xs, iterOf d = some xs ∧ I xs S := by
  cases d <;> first | exact h.elim | exact ⟨_, rfl, h⟩
def dItG (r : DTE) : DTI := fun E σ S Q => r E σ S fun d S' => kItG Q d S'
theorem di_any {tg : Expr} (h : DE X W e ra) : DI X W tg e (dItG ra) := by
  obtain ⟨t, p, q⟩ := h
  refine ⟨_, pi_srcD p, ⟨fun E G H S σV σ Q R w k s h f => ?_⟩⟩
  refine q.run E G H S σV σ _ _ w k s h fun d S' G' H' v hd k' g r => ?_
  obtain ⟨xs, hx, hd⟩ := kIt_of hd
  by_cases c : ∃ kvs, d = .dic kvs
  · obtain ⟨kvs, rfl⟩ := c
    simp only [iterOf, Option.some.injEq] at hx
    subst hx
    cases r with
    | @dic a o vs _ h1 h2 =>
      refine .inr ⟨a, o, vs, rfl, k'.ext _ _ h1, f _ S' G' H' _ (fun H => H a = some (.frz o (.dK vs))) (fun i H x H' => H' = H ∧ ∃ k v, vs[i]? = some (k, v) ∧ x = kV k) hd k' g ⟨?_, fun G2 H2 S2 k2 f2 => k2.ext _ _ (f2.g _ _ h1), fun i G2 H2 S2 H3 w hi hY k2 f2 => ?_⟩⟩
      · have := walk_keys (d := a) (o := o) (kvs := vs)
        rw [show vs.length = (kvs.map fun kv => kD kv.1).length by rw [List.length_map, h2.length]] at this
        exact this
      · obtain ⟨rfl, ky, v, h3, rfl⟩ := hY
        refine ⟨G2, kD ky, ?_, k2, .refl _ _ _, kV_rep _⟩
        have e := congrArg (·[i]?) h2.keys
        simp only [List.getElem?_map, h3, Option.map_some] at e
        rw [List.getElem?_map]
        cases q : kvs[i]? with
        | none => rw [q] at e; cases e
        | some kv => rw [q] at e; simp only [Option.map_some, Option.some.injEq] at e; simp [e]
  · have hx : itemsOf d = some xs := by
      cases d <;> first | exact hx | exact absurd ⟨_, rfl⟩ c
    obtain ⟨kk, sk⟩ := src_of r hx
    exact .inl ⟨kk, sk.v.symm, sk.gd _ k'.ext, f xs S' G' H' _ _ _ hd k' g (wlk_src sk)⟩
/-! ### list(d), len(d) -/
def dListD : List D → Sto → DK → Prop := fun ds S Q => ∃ d kvs, ds = [d] ∧ vw S d = .dic kvs ∧ Q (.lst (kvs.map fun kv => kD kv.1)) S
theorem dc_listD (hc : X.calm = true) : DC X (.type "list") dListD := ⟨_, call_listD hc, ⟨fun G H S xs vs Q P k r h p => by
  obtain ⟨d, kvs, rfl, h1, h2⟩ := h
  obtain ⟨v, rfl, r1⟩ := one_of r
  obtain ⟨a, us, rfl, hr, rk⟩ := dic_of k r1 h1
  refine ⟨a, us, rfl, hr, fun q hq => ?_⟩
  obtain ⟨k2, f2⟩ := k.newG (o := .lst (us.map fun kv => kV kv.1)) hq
  exact p _ _ _ _ _ h2 k2 f2 (.lst upd_same (rk.keysL.mono f2.g))⟩⟩
theorem DC.or {f : Value} {q q' q2 : List D → Sto → DK → Prop} (h : DC X f q) (h' : DC X f q') (hq : ∀ ds S Q, q2 ds S Q → q ds S Q ∨ q' ds S Q) : DC X f q2 := by
  obtain ⟨r, o, e⟩ := h
  obtain ⟨r', o', e'⟩ := h'
  refine ⟨fun xs H Q => r xs H Q ∨ r' xs H Q, fun pins s σ H xs us Q I rx z => ?_, ⟨fun G H S xs vs Q P k rx z p => ?_⟩⟩
  · rcases z with z | z
    · exact o pins s σ H xs us Q I rx z
    · exact o' pins s σ H xs us Q I rx z
  · rcases hq _ _ _ z with z | z
    · exact .inl (e.run G H S xs vs Q P k rx z p)
    · exact .inr (e'.run G H S xs vs Q P k rx z p)
/-- list(x) of a sequence or a dict -/
def dListG : List D → Sto → DK → Prop := fun ds S Q => match ds with
  | [d] => match vw S d with
    | .lst xs => Q (.lst xs) S
    | .tup xs => Q (.lst xs) S
    | .dic kvs => Q (.lst (kvs.map fun kv => kD kv.1)) S
    | _ => False
  | _ => False
theorem dc_listG (hc : X.calm = true) : DC X (.type "list") dListG := dc_list.or (dc_listD hc) fun ds S Q h => by
  unfold dListG at h
  split at h
  · split at h
    · rename_i e; refine .inl ?_; unfold dList1; simp only [e]; exact h
    · rename_i e; refine .inl ?_; unfold dList1; simp only [e]; exact h
    · rename_i e; exact .inr ⟨_, _, rfl, e, h⟩
    · exact h.elim
  · exact h.elim
def dLenD : List D → Sto → DK → Prop := fun ds S Q => ∃ d kvs, ds = [d] ∧ vw S d = .dic kvs ∧ Q (.int kvs.length) S
theorem dc_lenD : DC X (.builtin "len") dLenD := ⟨fun xs H Q => ∃ a kvs, xs = [.ref a] ∧ Rd H a (.dK kvs) ∧ Q (.int kvs.length) H, fun pins s σ H xs us Q I r ⟨a, kvs, ex, hd, q⟩ => by
    subst ex
    obtain ⟨u, eu, rx⟩ := vals1 r
    subst eu
    cases rx
    exact d_len I hd fun t s' I' => ⟨.int kvs.length, H, I', ⟨_, rfl⟩, q⟩, ⟨fun G H S xs vs Q P k r h p => by
  obtain ⟨d, kvs, rfl, h1, h2⟩ := h
  obtain ⟨v, rfl, r1⟩ := one_of r
  obtain ⟨a, us, rfl, hr, rk⟩ := dic_of k r1 h1
  exact ⟨a, us, rfl, hr, by rw [rk.length]; exact p _ S G H _ h2 k (.refl _ _ _) (.int _)⟩⟩⟩
def dLenG : List D → Sto → DK → Prop := fun ds S Q => match ds with
  | [d] => match vw S d with
    | .lst xs => Q (.int xs.length) S
    | .tup xs => Q (.int xs.length) S
    | .scr ns => Q (.int ns.length) S
    | .str z => z.length ≤ sizeLine ∧ Q (.int z.length) S
    | .dic kvs => Q (.int kvs.length) S
    | _ => False
  | _ => False
theorem dc_lenG : DC X (.builtin "len") dLenG := dc_len.or dc_lenD fun ds S Q h => by
  unfold dLenG at h
  split at h
  · split at h
    all_goals first
      | exact h.elim
      | (rename_i e; refine .inl ?_; unfold dLen; simp only [e]; exact h)
      | (rename_i e; exact .inr ⟨_, _, rfl, e, h⟩)
  · exact h.elim
/-! ### k in d -/
def dInD : D → D → Sto → DK → Prop := fun x y S Q => ∃ kvs k, vw S y = .dic kvs ∧ keyOf x = some k ∧ Q (.bl (valD kvs k).isSome) S
def dNotInD : D → D → Sto → DK → Prop := fun x y S Q => ∃ kvs k, vw S y = .dic kvs ∧ keyOf x = some k ∧ Q (.bl (!(valD kvs k).isSome)) S
theorem valD_some {G : Hp} {ky : Key} {vs : List (Key × V)} {ds : List (Key × D)} (rk : RepK K G vs ds) : (valV vs ky).isSome = (valD ds ky).isSome := by
  obtain ⟨h1, h2⟩ := repK_find ky rk
  cases e : valD ds ky with
  | none => rw [h1 e]; rfl
  | some d => obtain ⟨v, hv, _⟩ := h2 d e; rw [hv]; rfl
theorem dop_inD (hu : X.A.units + 64 < cLine) : DOp X (compareOp .In) dInD := ⟨fun x y H Q => ∃ a o, y = .ref a ∧ DGet H a x o ∧ Q (.bl o.isSome) H, fun pins s σ H x y v u Q I rx ry ⟨a, o, ey, g, q⟩ => by
    subst ey
    obtain rfl : u = Value.ref a := ry
    exact d_in (by omega) I g rx fun s3 I3 => ⟨.bl o.isSome, H, I3, rfl, q⟩, ⟨fun G H S x y v u Q P k r1 r2 h p => by
  obtain ⟨kvs, ky, h1, h2, h3⟩ := h
  obtain ⟨a, vs, rfl, hr, rk⟩ := dic_of k r2 h1
  exact ⟨a, _, rfl, .inl ⟨vs, ky, hr, key_rep r1 h2, rfl⟩, by rw [valD_some rk]; exact p _ S G H _ h3 k (.refl _ _ _) (.bl _)⟩⟩⟩
theorem dop_notInD (hu : X.A.units + 64 < cLine) : DOp X (compareOp .NotIn) dNotInD := ⟨fun x y H Q => ∃ a o, y = .ref a ∧ DGet H a x o ∧ Q (.bl (!o.isSome)) H, fun pins s σ H x y v u Q I rx ry ⟨a, o, ey, g, q⟩ => by
    subst ey
    obtain rfl : u = Value.ref a := ry
    exact d_notIn (by omega) I g rx fun s3 I3 => ⟨.bl (!o.isSome), H, I3, rfl, q⟩, ⟨fun G H S x y v u Q P k r1 r2 h p => by
  obtain ⟨kvs, ky, h1, h2, h3⟩ := h
  obtain ⟨a, vs, rfl, hr, rk⟩ := dic_of k r2 h1
  exact ⟨a, _, rfl, .inl ⟨vs, ky, hr, key_rep r1 h2, rfl⟩, by rw [valD_some rk]; exact p _ S G H _ h3 k (.refl _ _ _) (.bl _)⟩⟩⟩
def dInGB (neg : Bool) : D → D → Sto → DK → Prop := fun x y S Q => match vw S y with
  | .lst xs => flatD x = true ∧ xs.all flatD = true ∧ Q (.bl (if neg then !inF x xs else inF x xs)) S
  | .tup xs => flatD x = true ∧ xs.all flatD = true ∧ Q (.bl (if neg then !inF x xs else inF x xs)) S
  | .str z => match x with
    | .str s => Q (.bl (if neg then !inStr s z else inStr s z)) S
    | _ => False
  | .dic kvs => ∃ k, keyOf x = some k ∧ Q (.bl (if neg then !(valD kvs k).isSome else (valD kvs k).isSome)) S
  | _ => False
def dInG := dInGB false
def dNotInG := dInGB true
theorem dop_inG (hu : X.A.units + 64 < cLine) : DOp X (compareOp .In) dInG := dop_in.or (dop_inD hu) fun x y S Q h => by
  unfold dInG dInGB at h
  split at h
  · rename_i e; refine .inl ?_; unfold dIn dInB; rw [e]; exact h
  · rename_i e; refine .inl ?_; unfold dIn dInB; rw [e]; exact h
  · rename_i e
    split at h
    · refine .inl ?_; unfold dIn dInB; rw [e]; exact h
    · exact h.elim
  · rename_i e; obtain ⟨k, h1, h2⟩ := h; exact .inr ⟨_, k, e, h1, h2⟩
  · exact h.elim
theorem dop_notInG (hu : X.A.units + 64 < cLine) : DOp X (compareOp .NotIn) dNotInG := dop_notIn.or (dop_notInD hu) fun x y S Q h => by
  unfold dNotInG dInGB at h
  split at h
  · rename_i e; refine .inl ?_; unfold dNotIn dInB; rw [e]; exact h
  · rename_i e; refine .inl ?_; unfold dNotIn dInB; rw [e]; exact h
  · rename_i e
    split at h
    · refine .inl ?_; unfold dNotIn dInB; rw [e]; exact h
    · exact h.elim
  · rename_i e; obtain ⟨k, h1, h2⟩ := h; exact .inr ⟨_, k, e, h1, h2⟩
  · exact h.elim
end
end KD

set_option maxRecDepth 100000
set_option maxHeartbeats 4000000
/-! KdQ: == of data at any depth. -/
namespace KD
open PySem PySem.Spec PyProof.Rows L2
/-- a, b, .. = a tuple or a list -/
def dgTupG (n : Nat) (q : DTGs) : DTG := fun d σ S N => match d with
  | .tup ds => ds.length = n ∧ q ds σ S N
  | .lst ds => ds.length = n ∧ q ds σ S N
  | _ => False
theorem dg_tupG {X : Cx} {pos : Pos} {es : List Expr} {k n : Nat} {q : DTGs} {js : List Nat} (hc : X.calm = true) (h : DGs X es js q) (hn : (assignEach es X.env).length = n := by rfl) (hst : (assignEach es X.env).findIdx? (·.1) = none := by rfl) : DG X (.Tuple es k pos) js (dgTupG n q) := by
  obtain ⟨t, p, e⟩ := h
  have p1 := pg_tup (pos := pos) (k := k) hc p hn hst
  have p2 := pg_lst (pos := pos) (k := k) hc p hn hst
  refine ⟨fun v σ H Q => gTup X.K n t v σ H Q ∨ gLst X.K n t v σ H Q, ⟨fun pins s σ H v u Q I r hw => ?_⟩, ⟨fun G H S σV σ d v N M k s r h n => ?_⟩⟩
  · rcases hw with hw | hw
    · exact p1.run pins s σ H v u Q I r hw
    · exact p2.run pins s σ H v u Q I r hw
  · cases d with
    | tup ds =>
      obtain ⟨hl, h⟩ := h
      cases r with
      | @tup a vs _ h1 h2 => exact .inl ⟨a, vs, rfl, (h1.mono k.ext).sq, by rw [h2.length]; exact hl, e.run G H S σV σ ds vs N M k s h2 h n⟩
    | lst ds =>
      obtain ⟨hl, h⟩ := h
      cases r with
      | @lst a vs _ h1 h2 => exact .inr ⟨a, vs, rfl, .of (k.ext _ _ h1), by rw [h2.length]; exact hl, e.run G H S σV σ ds vs N M k s h2 h n⟩
    | _ => exact h.elim
mutual
/-- == of data -/
def eqD : D → D → Bool
  | .lst xs, .lst ys => eqDL xs ys
  | .tup xs, .tup ys => eqDL xs ys
  | .lst _, _ => false
  | .tup _, _ => false
  | _, .lst _ => false
  | _, .tup _ => false
  | x, y => eqF x y
def eqDL : List D → List D → Bool
  | [], [] => true
  | x :: xs, y :: ys => eqD x y && eqDL xs ys
  | _, _ => false
end
mutual
/-- data of n levels at most whose texts may be laid -/
def plD : Nat → D → Bool
  | _, .non => true
  | _, .bl _ => true
  | _, .int _ => true
  | _, .str x => PyData.canLay0 (.str x)
  | n + 1, .lst xs => plDL n xs
  | n + 1, .tup xs => plDL n xs
  | _, _ => false
def plDL : Nat → List D → Bool
  | _, [] => true
  | n, x :: xs => plD n x && plDL n xs
end
mutual
theorem py_of : ∀ (n : Nat) (d : D), plD n d = true → ∃ p, toPy d = some p ∧ PyData.canLay0 p = true ∧ PyData.depth p ≤ n
  | n, .non, _ => ⟨_, rfl, rfl, Nat.zero_le _⟩
  | n, .bl _, _ => ⟨_, rfl, rfl, Nat.zero_le _⟩
  | n, .int _, _ => ⟨_, rfl, rfl, Nat.zero_le _⟩
  | n, .str x, h => ⟨_, rfl, by simpa [plD] using h, Nat.zero_le _⟩
  | n + 1, .lst xs, h => by
    obtain ⟨ps, h1, h2, h3⟩ := py_ofL n xs (by simpa [plD] using h)
    exact ⟨.list ps, by rw [toPy, h1]; rfl, by rw [PyData.canLay0]; exact h2, by rw [PyData.depth]; omega⟩
  | n + 1, .tup xs, h => by
    obtain ⟨ps, h1, h2, h3⟩ := py_ofL n xs (by simpa [plD] using h)
    exact ⟨.tuple ps, by rw [toPy, h1]; rfl, by rw [PyData.canLay0]; exact h2, by rw [PyData.depth]; omega⟩
  | 0, .lst _, h => by simp [plD] at h
  | 0, .tup _, h => by simp [plD] at h
  | n, .dic _, h => by simp [plD] at h
  | n, .dit _, h => by simp [plD] at h
  | n, .ref _, h => by simp [plD] at h
  | n, .scr _, h => by simp [plD] at h
  | n, .ty _, h => by simp [plD] at h
theorem py_ofL : ∀ (n : Nat) (ds : List D), plDL n ds = true → ∃ ps, toPyL ds = some ps ∧ PyData.canLayAll0 ps = true ∧ PyData.depthAll ps ≤ n
  | n, [], _ => ⟨[], rfl, rfl, Nat.zero_le _⟩
  | n, d :: ds, h => by
    simp only [plDL, Bool.and_eq_true] at h
    obtain ⟨p, h1, h2, h3⟩ := py_of n d h.1
    obtain ⟨ps, h4, h5, h6⟩ := py_ofL n ds h.2
    exact ⟨p :: ps, by rw [toPyL, h1, h4], by rw [PyData.canLayAll0, h2, h5]; rfl, by rw [PyData.depthAll]; omega⟩
end
mutual
theorem eqv_eqD : ∀ (x y : D) (p q : PyData), toPy x = some p → toPy y = some q → PyData.eqv p q = eqD x y
  | .lst xs, y, p, q, h1, h2 => by
    simp only [toPy, Option.map_eq_some_iff] at h1
    obtain ⟨ps, h1, rfl⟩ := h1
    cases y <;> simp only [toPy, reduceCtorEq, Option.some.injEq, Option.map_eq_some_iff] at h2
    case lst ys => obtain ⟨qs, h2, rfl⟩ := h2; simp only [PyData.eqv, eqD]; exact eqv_eqDL xs ys ps qs h1 h2
    case tup ys => obtain ⟨qs, h2, rfl⟩ := h2; simp [PyData.eqv, eqD]
    all_goals (subst h2; simp [PyData.eqv, eqD])
  | .tup xs, y, p, q, h1, h2 => by
    simp only [toPy, Option.map_eq_some_iff] at h1
    obtain ⟨ps, h1, rfl⟩ := h1
    cases y <;> simp only [toPy, reduceCtorEq, Option.some.injEq, Option.map_eq_some_iff] at h2
    case tup ys => obtain ⟨qs, h2, rfl⟩ := h2; simp only [PyData.eqv, eqD]; exact eqv_eqDL xs ys ps qs h1 h2
    case lst ys => obtain ⟨qs, h2, rfl⟩ := h2; simp [PyData.eqv, eqD]
    all_goals (subst h2; simp [PyData.eqv, eqD])
  | .non, y, p, q, h1, h2 => by
    simp only [toPy, Option.some.injEq] at h1; subst h1
    cases y <;> simp only [toPy, reduceCtorEq, Option.some.injEq, Option.map_eq_some_iff] at h2
    case lst ys => obtain ⟨qs, h2, rfl⟩ := h2; simp [PyData.eqv, eqD]
    case tup ys => obtain ⟨qs, h2, rfl⟩ := h2; simp [PyData.eqv, eqD]
    all_goals (subst h2; simp [PyData.eqv, eqD, eqF])
  | .bl _, y, p, q, h1, h2 => by
    simp only [toPy, Option.some.injEq] at h1; subst h1
    cases y <;> simp only [toPy, reduceCtorEq, Option.some.injEq, Option.map_eq_some_iff] at h2
    case lst ys => obtain ⟨qs, h2, rfl⟩ := h2; simp [PyData.eqv, eqD]
    case tup ys => obtain ⟨qs, h2, rfl⟩ := h2; simp [PyData.eqv, eqD]
    all_goals (subst h2; simp [PyData.eqv, eqD, eqF])
  | .int _, y, p, q, h1, h2 => by
    simp only [toPy, Option.some.injEq] at h1; subst h1
    cases y <;> simp only [toPy, reduceCtorEq, Option.some.injEq, Option.map_eq_some_iff] at h2
    case lst ys => obtain ⟨qs, h2, rfl⟩ := h2; simp [PyData.eqv, eqD]
    case tup ys => obtain ⟨qs, h2, rfl⟩ := h2; simp [PyData.eqv, eqD]
    all_goals (subst h2; simp [PyData.eqv, eqD, eqF])
  | .str _, y, p, q, h1, h2 => by
    simp only [toPy, Option.some.injEq] at h1; subst h1
    cases y <;> simp only [toPy, reduceCtorEq, Option.some.injEq, Option.map_eq_some_iff] at h2
    case lst ys => obtain ⟨qs, h2, rfl⟩ := h2; simp [PyData.eqv, eqD]
    case tup ys => obtain ⟨qs, h2, rfl⟩ := h2; simp [PyData.eqv, eqD]
    all_goals (subst h2; simp [PyData.eqv, eqD, eqF])
  | .dic _, _, _, _, h, _ => by simp [toPy] at h
  | .dit _, _, _, _, h, _ => by simp [toPy] at h
  | .ref _, _, _, _, h, _ => by simp [toPy] at h
  | .scr _, _, _, _, h, _ => by simp [toPy] at h
  | .ty _, _, _, _, h, _ => by simp [toPy] at h
theorem eqv_eqDL : ∀ (xs ys : List D) (ps qs : List PyData), toPyL xs = some ps → toPyL ys = some qs → PyData.eqvAll ps qs = eqDL xs ys
  | [], [], ps, qs, h1, h2 => by simp only [toPyL, Option.some.injEq] at h1 h2; subst h1 h2; rfl
  | [], y :: ys, ps, qs, h1, h2 => by
    simp only [toPyL, Option.some.injEq] at h1; subst h1
    simp only [toPyL] at h2
    split at h2 <;> simp only [reduceCtorEq, Option.some.injEq] at h2
    subst h2; simp [PyData.eqvAll, eqDL]
  | x :: xs, [], ps, qs, h1, h2 => by
    simp only [toPyL, Option.some.injEq] at h2; subst h2
    simp only [toPyL] at h1
    split at h1 <;> simp only [reduceCtorEq, Option.some.injEq] at h1
    subst h1; simp [PyData.eqvAll, eqDL]
  | x :: xs, y :: ys, ps, qs, h1, h2 => by
    simp only [toPyL] at h1 h2
    split at h1 <;> simp only [reduceCtorEq, Option.some.injEq] at h1
    split at h2 <;> simp only [reduceCtorEq, Option.some.injEq] at h2
    rename_i p1 ps1 e1 e2 _ _ q1 qs1 e3 e4
    subst h1 h2
    simp only [PyData.eqvAll, eqDL]
    rw [eqv_eqD x y p1 q1 e1 e3, eqv_eqDL xs ys ps1 qs1 e2 e4]
end
theorem shaped_of {n : Nat} {d : D} (h : plD n d = true) (hn : n ≤ 64) : ∃ p, toPy d = some p ∧ SeqAt.shaped p = true := by
  obtain ⟨p, h1, h2, h3⟩ := py_of n d h
  exact ⟨p, h1, by unfold SeqAt.shaped; rw [h2]; simp; omega⟩
theorem eqD_flat {x y : D} (hx : flatD x = true) (hy : flatD y = true) : eqD x y = eqF x y := by
  cases x <;> (try (simp [flatD] at hx; done)) <;> cases y <;> (try (simp [flatD] at hy; done)) <;> simp only [eqD]
theorem vw_pl {n : Nat} {S : Sto} {x : D} (h : plD n x = true) : vw S x = x := by cases x <;> first | rfl | (simp [plD] at h)
theorem w_eqD {x y : D} {S : Sto} {Q : DK} (hx : plD 40 x = true) (hy : plD 40 y = true) (h : Q (.bl (eqD x y)) S) : dEqG x y S Q := by
  unfold dEqG
  split
  · rename_i h1 h2; rw [← eqD_flat h1 h2]; exact h
  · obtain ⟨p, h1, h2⟩ := shaped_of hx (by decide)
    obtain ⟨q, h3, h4⟩ := shaped_of hy (by decide)
    exact .inl ⟨p, q, by rw [vw_pl hx]; exact h1, by rw [vw_pl hy]; exact h3, h2, h4, by rw [eqv_eqD x y p q h1 h3]; exact h⟩
theorem w_neD {x y : D} {S : Sto} {Q : DK} (hx : plD 40 x = true) (hy : plD 40 y = true) (h : Q (.bl (!eqD x y)) S) : dNeG x y S Q := by
  unfold dNeG
  split
  · rename_i h1 h2; rw [← eqD_flat h1 h2]; exact h
  · obtain ⟨p, h1, h2⟩ := shaped_of hx (by decide)
    obtain ⟨q, h3, h4⟩ := shaped_of hy (by decide)
    exact .inl ⟨p, q, by rw [vw_pl hx]; exact h1, by rw [vw_pl hy]; exact h3, h2, h4, by rw [eqv_eqD x y p q h1 h3]; exact h⟩
theorem w_eqNil {xs : List D} {S : Sto} {Q : DK} (h : Q (.bl xs.isEmpty) S) : dEqG (.lst xs) (.lst []) S Q := by
  cases xs with
  | nil => exact .inr ⟨[], [], rfl, rfl, .inr ⟨rfl, rfl, h⟩⟩
  | cons x xs => exact .inr ⟨_, _, rfl, rfl, .inl ⟨by simp, h⟩⟩
theorem w_neNil {xs : List D} {S : Sto} {Q : DK} (h : Q (.bl (!xs.isEmpty)) S) : dNeG (.lst xs) (.lst []) S Q := by
  cases xs with
  | nil => exact .inr ⟨[], [], rfl, rfl, .inr ⟨rfl, rfl, h⟩⟩
  | cons x xs => exact .inr ⟨_, _, rfl, rfl, .inl ⟨by simp, h⟩⟩
theorem w_eqNilR {xs : List D} {p : Addr} {S : Sto} {Q : DK} (hS : S p = some (.lst xs)) (h : Q (.bl xs.isEmpty) S) : dEqG (.ref p) (.lst []) S Q := by
  cases xs with
  | nil => exact .inr ⟨[], [], by simp [vw, hS], rfl, .inr ⟨rfl, rfl, h⟩⟩
  | cons x xs => exact .inr ⟨_, _, by simp [vw, hS]; rfl, rfl, .inl ⟨by simp, h⟩⟩
/-- the same where one of them is a list that changes -/
theorem w_eqDR {x : D} {ys : List D} {p : Addr} {S : Sto} {Q : DK} (hS : S p = some (.lst ys)) (hx : plD 40 x = true) (hy : plD 40 (.lst ys) = true) (h : Q (.bl (eqD x (.lst ys))) S) : dEqG x (.ref p) S Q := by
  obtain ⟨p1, h1, h2⟩ := shaped_of hx (by decide)
  obtain ⟨q, h3, h4⟩ := shaped_of hy (by decide)
  have e : dEq x (.ref p) S Q := ⟨p1, q, by rw [vw_pl hx]; exact h1, by simp only [vw, hS]; exact h3, h2, h4, by rw [eqv_eqD _ _ p1 q h1 h3]; exact h⟩
  unfold dEqG
  cases flatD x <;> exact .inl e
theorem w_eqDL {y : D} {xs : List D} {p : Addr} {S : Sto} {Q : DK} (hS : S p = some (.lst xs)) (hx : plD 40 (.lst xs) = true) (hy : plD 40 y = true) (h : Q (.bl (eqD (.lst xs) y)) S) : dEqG (.ref p) y S Q := by
  obtain ⟨p1, h1, h2⟩ := shaped_of hx (by decide)
  obtain ⟨q, h3, h4⟩ := shaped_of hy (by decide)
  have e : dEq (.ref p) y S Q := ⟨p1, q, by simp only [vw, hS]; exact h1, by rw [vw_pl hy]; exact h3, h2, h4, by rw [eqv_eqD _ _ p1 q h1 h3]; exact h⟩
  unfold dEqG
  cases flatD y <;> exact .inl e
theorem w_neDL {y : D} {xs : List D} {p : Addr} {S : Sto} {Q : DK} (hS : S p = some (.lst xs)) (hx : plD 40 (.lst xs) = true) (hy : plD 40 y = true) (h : Q (.bl (!eqD (.lst xs) y)) S) : dNeG (.ref p) y S Q := by
  obtain ⟨p1, h1, h2⟩ := shaped_of hx (by decide)
  obtain ⟨q, h3, h4⟩ := shaped_of hy (by decide)
  have e : dNe (.ref p) y S Q := ⟨p1, q, by simp only [vw, hS]; exact h1, by rw [vw_pl hy]; exact h3, h2, h4, by rw [eqv_eqD _ _ p1 q h1 h3]; exact h⟩
  unfold dNeG
  cases flatD y <;> exact .inl e
mutual
theorem eqD_refl : ∀ (n : Nat) (d : D), plD n d = true → eqD d d = true
  | _, .non, _ => rfl
  | _, .bl b, _ => by cases b <;> rfl
  | _, .int i, _ => by simp [eqD, eqF]
  | _, .str x, _ => by simp [eqD, eqF]
  | n + 1, .lst xs, h => by rw [eqD]; exact eqDL_refl n xs (by simpa [plD] using h)
  | n + 1, .tup xs, h => by rw [eqD]; exact eqDL_refl n xs (by simpa [plD] using h)
  | 0, .lst _, h => by simp [plD] at h
  | 0, .tup _, h => by simp [plD] at h
  | n, .dic _, h => by simp [plD] at h
  | n, .dit _, h => by simp [plD] at h
  | n, .ref _, h => by simp [plD] at h
  | n, .scr _, h => by simp [plD] at h
  | n, .ty _, h => by simp [plD] at h
theorem eqDL_refl : ∀ (n : Nat) (ds : List D), plDL n ds = true → eqDL ds ds = true
  | _, [], _ => rfl
  | n, d :: ds, h => by
    simp only [plDL, Bool.and_eq_true] at h
    rw [eqDL, eqD_refl n d h.1, eqDL_refl n ds h.2]; rfl
end
mutual
/-- no bool in it -/
def noBl : D → Bool
  | .bl _ => false
  | .lst xs => noBlL xs
  | .tup xs => noBlL xs
  | _ => true
def noBlL : List D → Bool
  | [] => true
  | x :: xs => noBl x && noBlL xs
end
mutual
theorem eqD_eq : ∀ (n : Nat) (x y : D), plD n x = true → noBl x = true → noBl y = true → eqD x y = true → x = y
  | n + 1, .lst xs, y, h, h1, h2, e => by
    cases y <;> simp only [eqD, Bool.false_eq_true, reduceCtorEq] at e
    rename_i ys
    rw [eqDL_eq n xs ys (by simpa [plD] using h) (by simpa [noBl] using h1) (by simpa [noBl] using h2) e]
  | n + 1, .tup xs, y, h, h1, h2, e => by
    cases y <;> simp only [eqD, Bool.false_eq_true, reduceCtorEq] at e
    rename_i ys
    rw [eqDL_eq n xs ys (by simpa [plD] using h) (by simpa [noBl] using h1) (by simpa [noBl] using h2) e]
  | n, .non, y, h, h1, h2, e => by cases y <;> simp [eqD, eqF] at e; rfl
  | n, .int i, y, h, h1, h2, e => by cases y <;> simp [eqD, eqF, noBl] at e h2; rw [e]
  | n, .str i, y, h, h1, h2, e => by cases y <;> simp [eqD, eqF, noBl] at e; rw [e]
  | n, .bl _, _, h, h1, _, _ => by simp [noBl] at h1
  | 0, .lst _, _, h, _, _, _ => by simp [plD] at h
  | 0, .tup _, _, h, _, _, _ => by simp [plD] at h
  | n, .dic _, _, h, _, _, _ => by simp [plD] at h
  | n, .dit _, _, h, _, _, _ => by simp [plD] at h
  | n, .ref _, _, h, _, _, _ => by simp [plD] at h
  | n, .scr _, _, h, _, _, _ => by simp [plD] at h
  | n, .ty _, _, h, _, _, _ => by simp [plD] at h
theorem eqDL_eq : ∀ (n : Nat) (xs ys : List D), plDL n xs = true → noBlL xs = true → noBlL ys = true → eqDL xs ys = true → xs = ys
  | _, [], [], _, _, _, _ => rfl
  | _, [], _ :: _, _, _, _, e => by simp [eqDL] at e
  | _, _ :: _, [], _, _, _, e => by simp [eqDL] at e
  | n, x :: xs, y :: ys, h, h1, h2, e => by
    simp only [plDL, noBlL, eqDL, Bool.and_eq_true] at h h1 h2 e
    rw [eqD_eq n x y h.1 h1.1 h2.1 e.1, eqDL_eq n xs ys h.2 h1.2 h2.2 e.2]
end
theorem plDL_all {n : Nat} : ∀ {xs : List D}, (∀ x ∈ xs, plD n x = true) → plDL n xs = true
  | [], _ => rfl
  | x :: xs, h => by rw [plDL, h x List.mem_cons_self, plDL_all fun y hy => h y (List.mem_cons_of_mem _ hy)]; rfl
theorem plD_mono : ∀ {n m : Nat} {d : D}, n ≤ m → plD n d = true → plD m d = true
  | n, m, .non, _, _ => by cases m <;> rfl
  | n, m, .bl _, _, _ => by cases m <;> rfl
  | n, m, .int _, _, _ => by cases m <;> rfl
  | n, m, .str x, _, h => by cases n <;> cases m <;> simpa [plD] using h
  | n + 1, m + 1, .lst xs, hl, h => by
    simp only [plD] at h ⊢
    exact plDL_mono (by omega) h
  | n + 1, m + 1, .tup xs, hl, h => by
    simp only [plD] at h ⊢
    exact plDL_mono (by omega) h
  | 0, _, .lst _, _, h => by simp [plD] at h
  | 0, _, .tup _, _, h => by simp [plD] at h
  | n, _, .dic _, _, h => by simp [plD] at h
  | n, _, .dit _, _, h => by simp [plD] at h
  | n, _, .ref _, _, h => by simp [plD] at h
  | n, _, .scr _, _, h => by simp [plD] at h
  | n, _, .ty _, _, h => by simp [plD] at h
where plDL_mono : ∀ {n m : Nat} {ds : List D}, n ≤ m → plDL n ds = true → plDL m ds = true
  | _, _, [], _, _ => rfl
  | n, m, d :: ds, hl, h => by
    simp only [plDL, Bool.and_eq_true] at h ⊢
    exact ⟨plD_mono hl h.1, plDL_mono hl h.2⟩
theorem plD_ints (n : Nat) (ns : List Int) : plD (n + 1) (.lst (ns.map .int)) = true := by
  rw [plD]; exact plDL_all fun x hx => by obtain ⟨i, _, rfl⟩ := List.mem_map.mp hx; cases n <;> rfl
theorem plD_intsT (n : Nat) (ns : List Int) : plD (n + 1) (.tup (ns.map .int)) = true := by
  rw [plD]; exact plDL_all fun x hx => by obtain ⟨i, _, rfl⟩ := List.mem_map.mp hx; cases n <;> rfl
theorem noBl_ints : ∀ ns : List Int, noBlL (ns.map .int) = true
  | [] => rfl
  | n :: ns => by rw [List.map_cons, noBlL, noBl_ints ns]; rfl
theorem eqDL_ints : ∀ xs ys : List Int, eqDL (xs.map .int) (ys.map .int) = decide (xs = ys)
  | [], [] => rfl
  | [], _ :: _ => by simp [eqDL]
  | _ :: _, [] => by simp [eqDL]
  | x :: xs, y :: ys => by
    rw [List.map_cons, List.map_cons, eqDL, eqDL_ints xs ys, Bool.eq_iff_iff]
    simp [eqD, eqF]
end KD

set_option maxRecDepth 100000
set_option maxHeartbeats 4000000
/-! Km0: mirrors: what a def reckons, as functions upon data; slots with their contents, and how they stand to slots and store. -/
namespace KM
open PySem PySem.Spec PyProof.Rows L2 KD
abbrev Flds := List (Str × D)
/-- what a mirror gives: a value, an error (its class's name, its fields), or nothing that is known -/
inductive R (ε α : Type) where
  | ok (a : α) (s : ε) | er (c : Str) (fs : Flds) (s : ε) | bad
abbrev P (α : Type) := R Unit α
section
variable {ε α β γ : Type}
def got (x : R ε α) (k : α → ε → β) (ex : Str → Flds → ε → β) (b : β) : β := match x with
  | .ok a s => k a s
  | .er c fs s => ex c fs s
  | .bad => b
def bind (x : P α) (k : α → P β) : P β := match x with
  | .ok a _ => k a
  | .er c fs _ => .er c fs ()
  | .bad => .bad
def opt : Option α → P α
  | some a => .ok a ()
  | none => .bad
end
/-- a slot: unset, data, a list or dict that may change (q: the caller's own), a caught error; p: not to be changed here -/
inductive SV where
  | un | v (d : D) | l (q : Bool) (xs : List D) | k (q : Bool) (kvs : List (Key × D)) | x (c : Str) (fs : Flds) | p (s : SV)
abbrev Env := List SV
def SV.core : SV → SV
  | .p s => s.core
  | s => s
def SV.prot : SV → SV
  | .un => .un
  | .p s => .p s
  | s => .p s
def SV.look : SV → Option D
  | .v d => some d
  | .p s => s.look
  | _ => none
def SV.view : SV → Option D
  | .v d => some d
  | .l _ xs => some (.lst xs)
  | .k _ kvs => some (.dic kvs)
  | .p s => s.view
  | _ => none
def SV.dm : SV → Option DM
  | .l _ xs => some (.lst xs)
  | .k _ kvs => some (.dic kvs)
  | .x _ fs => some (.xd fs)
  | .p s => s.dm
  | _ => none
def SV.own : SV → Bool
  | .l q _ => q
  | .k q _ => q
  | .p s => s.own
  | _ => false
/-- the error that is caught here: its address, its dict's, its class's name -/
structure Ax where
  a : Addr
  d : Addr
  c : Str
def SlotOk (ax : Ax) (A : Nat → Addr) (σ : DSt) (S : Sto) (i : Nat) : SV → Prop
  | .un => True
  | .v d => σ[i]? = some (some d)
  | .l _ xs => σ[i]? = some (some (.ref (A i))) ∧ S (A i) = some (.lst xs)
  | .k _ kvs => σ[i]? = some (some (.ref (A i))) ∧ S (A i) = some (.dic kvs)
  | .x c fs => c = ax.c ∧ σ[i]? = some (some (.ref ax.a)) ∧ A i = ax.d ∧ S (A i) = some (.xd fs)
  | .p s => SlotOk ax A σ S i s
/-- what stands still while this part of the text runs: the number of slots, the slots that keep, the store that keeps -/
structure Fx where
  n : Nat
  fr : Nat → Option SV
  S0 : Sto
  io : Nat → Option Addr
structure Rl (ax : Ax) (fx : Fx) (μ : Env) (σ : DSt) (S : Sto) (A : Nat → Addr) : Prop where
  lenμ : μ.length = fx.n
  lenσ : σ.length = fx.n
  slot : ∀ i s, μ[i]? = some s → SlotOk ax A σ S i s
  inj : ∀ i j s t m n, μ[i]? = some s → μ[j]? = some t → s.dm = some m → t.dm = some n → A i = A j → i = j
  new : ∀ i s m, μ[i]? = some s → s.dm = some m → fx.S0 (A i) = none
  ext : ∀ b m, fx.S0 b = some m → S b = some m
  fr : ∀ i s, fx.fr i = some s → μ[i]? = some (.p s)
  io : ∀ i p, fx.io i = some p → A i = p ∧ ∃ s, μ[i]? = some s ∧ s.own = true
  oi : ∀ i s, μ[i]? = some s → s.own = true → (fx.io i).isSome = true
def Rel (ax : Ax) (fx : Fx) (μ : Env) (σ : DSt) (S : Sto) : Prop := ∃ A, Rl ax fx μ σ S A
section
variable {ax : Ax} {fx fx' : Fx} {μ μ' ν : Env} {σ σ' : DSt} {S S' : Sto} {A A' : Nat → Addr} {i j : Nat} {s t : SV}
theorem core_ok : ∀ {s : SV}, SlotOk ax A σ S i s ↔ SlotOk ax A σ S i s.core
  | .un => .rfl | .v _ => .rfl | .l _ _ => .rfl | .k _ _ => .rfl | .x _ _ => .rfl
  | .p s => core_ok (s := s)
theorem core_dm : ∀ {s : SV}, s.dm = s.core.dm
  | .un => rfl | .v _ => rfl | .l _ _ => rfl | .k _ _ => rfl | .x _ _ => rfl
  | .p s => core_dm (s := s)
theorem core_own : ∀ {s : SV}, s.own = s.core.own
  | .un => rfl | .v _ => rfl | .l _ _ => rfl | .k _ _ => rfl | .x _ _ => rfl
  | .p s => core_own (s := s)
theorem core_prot : ∀ {s : SV}, s.prot.core = s.core
  | .un => rfl | .v _ => rfl | .l _ _ => rfl | .k _ _ => rfl | .x _ _ => rfl
  | .p s => rfl
theorem slot_same : ∀ {s : SV}, σ'[i]? = σ[i]? → A' i = A i → (∀ m, s.dm = some m → S' (A i) = S (A i)) → SlotOk ax A σ S i s → SlotOk ax A' σ' S' i s
  | .un, _, _, _, _ => trivial
  | .v d, h, _, _, q => h.trans q
  | .l _ xs, h, e, f, q => ⟨by rw [h, e]; exact q.1, by rw [e, f _ rfl]; exact q.2⟩
  | .k _ xs, h, e, f, q => ⟨by rw [h, e]; exact q.1, by rw [e, f _ rfl]; exact q.2⟩
  | .x c fs, h, e, f, q => ⟨q.1, h.trans q.2.1, e.trans q.2.2.1, by rw [e, f _ rfl]; exact q.2.2.2⟩
  | .p s, h, e, f, q => slot_same (s := s) h e f q
theorem slot_dm : ∀ {s : SV} {m : DM}, SlotOk ax A σ S i s → s.dm = some m → S (A i) = some m
  | .un, _, _, e => nomatch e
  | .v _, _, _, e => nomatch e
  | .l _ xs, _, q, e => by cases e; exact q.2
  | .k _ xs, _, q, e => by cases e; exact q.2
  | .x c fs, _, q, e => by cases e; exact q.2.2.2
  | .p s, _, q, e => slot_dm (s := s) q e
theorem slot_look : ∀ {s : SV} {d : D}, SlotOk ax A σ S i s → s.look = some d → σ[i]? = some (some d)
  | .un, _, _, e => nomatch e
  | .v _, _, q, e => by cases e; exact q
  | .l _ xs, _, q, e => nomatch e
  | .k _ xs, _, q, e => nomatch e
  | .x c fs, _, q, e => nomatch e
  | .p s, _, q, e => slot_look (s := s) q e
/-- x0 is seen as x -/
def Vw (S : Sto) (x0 x : D) : Prop := x0 = x ∨ vw S x0 = x
theorem vw_l {p : Addr} {xs : List D} (h : S p = some (.lst xs)) : vw S (.ref p) = .lst xs := by simp [vw, h]
theorem vw_k {p : Addr} {xs : List (Key × D)} (h : S p = some (.dic xs)) : vw S (.ref p) = .dic xs := by simp [vw, h]
theorem slot_view : ∀ {s : SV} {d : D}, SlotOk ax A σ S i s → s.view = some d → ∃ d0, σ[i]? = some (some d0) ∧ Vw S d0 d
  | .un, _, _, e => nomatch e
  | .v _, _, q, e => by cases e; exact ⟨_, q, .inl rfl⟩
  | .l _ xs, _, q, e => by cases e; exact ⟨_, q.1, .inr (vw_l q.2)⟩
  | .k _ xs, _, q, e => by cases e; exact ⟨_, q.1, .inr (vw_k q.2)⟩
  | .x c fs, _, q, e => nomatch e
  | .p s, _, q, e => slot_view (s := s) q e
/-- other slots' words, where what stands behind is a part of what stood -/
theorem Rl.mix (h : Rl ax fx' μ' σ' S' A) (hn : fx.n = fx'.n) (h0 : fx.S0 = fx'.S0) (hio : fx.io = fx'.io) (hw : ∀ (i : Nat) (p : Addr), fx.io i = some p → ∃ s : SV, ν[i]? = some s ∧ s.own = true) (hl : ν.length = fx.n) (hs : ∀ (i : Nat) (s : SV), ν[i]? = some s → s = .un ∨ ∃ s' : SV, μ'[i]? = some s' ∧ s'.core = s.core) (hf : ∀ (i : Nat) (s : SV), fx.fr i = some s → ν[i]? = some (.p s)) : Rl ax fx ν σ' S' A where
  lenμ := hl
  lenσ := h.lenσ.trans hn.symm
  slot := fun i s e => by
    rcases hs i s e with rfl | ⟨s', e', c⟩
    · trivial
    · have q := h.slot i s' e'
      rw [core_ok, c, ← core_ok] at q; exact q
  inj := fun i j s t m n e f d g q => by
    rcases hs i s e with rfl | ⟨s', e', c⟩
    · cases d
    rcases hs j t f with rfl | ⟨t', f', c'⟩
    · cases g
    exact h.inj i j s' t' m n e' f' (by rw [core_dm, c, ← core_dm]; exact d) (by rw [core_dm, c', ← core_dm]; exact g) q
  new := fun i s m e d => by
    rcases hs i s e with rfl | ⟨s', e', c⟩
    · cases d
    rw [h0]; exact h.new i s' m e' (by rw [core_dm, c, ← core_dm]; exact d)
  ext := fun b m e => h.ext b m (by rw [← h0]; exact e)
  fr := hf
  io := fun i p e => by
    obtain ⟨e1, s, e2, e3⟩ := h.io i p (by rw [← hio]; exact e)
    exact ⟨e1, hw i p e⟩
  oi := fun i s e o => by
    rcases hs i s e with rfl | ⟨s', e', c⟩
    · cases o
    rw [hio]; exact h.oi i s' e' (by rw [core_own, c, ← core_own]; exact o)
/-- one slot is told anew -/
theorem Rl.set (h : Rl ax fx μ σ S A) {p : Addr} (hi : ∀ s, μ[i]? ≠ some (.p s)) (ho : ∀ t, μ[i]? = some t → t.own = true → p = A i ∧ s.own = true) (ho' : s.own = true → (fx.io i).isSome = true) (hl : σ'.length = σ.length) (hσ : ∀ j, j ≠ i → σ'[j]? = σ[j]?) (hS : ∀ j s m, j ≠ i → μ[j]? = some s → s.dm = some m → S' (A j) = S (A j)) (hx : ∀ b m, fx.S0 b = some m → S' b = some m)
    (hs : SlotOk ax (fun j => if j = i then p else A j) σ' S' i s) (hn : ∀ m, s.dm = some m → fx.S0 p = none ∧ ∀ j t n, j ≠ i → μ[j]? = some t → t.dm = some n → A j ≠ p) : Rl ax fx (μ.set i s) σ' S' (fun j => if j = i then p else A j) := by
  have key : ∀ j t, (μ.set i s)[j]? = some t → (j = i ∧ t = s) ∨ (j ≠ i ∧ μ[j]? = some t) := fun j t e => by
    by_cases c : i = j
    · subst c
      by_cases l : i < μ.length
      · rw [List.getElem?_set_self l] at e
        exact .inl ⟨rfl, (Option.some.inj e).symm⟩
      · rw [List.getElem?_eq_none (by simpa using l)] at e; cases e
    · rw [List.getElem?_set_ne c] at e
      exact .inr ⟨fun z => c z.symm, e⟩
  refine ⟨by rw [List.length_set]; exact h.lenμ, hl.trans h.lenσ, fun j t e => ?_, fun j k t u m n e f d g q => ?_, fun j t m e d => ?_, hx, fun j t e => ?_, fun j b e => ?_, fun j t e o => ?_⟩
  · rcases key j t e with ⟨rfl, rfl⟩ | ⟨c, e⟩
    · exact hs
    · exact slot_same (hσ j c) (if_neg c) (fun m d => hS j t m c e d) (h.slot j t e)
  · rcases key j t e with ⟨rfl, rfl⟩ | ⟨c, e1⟩ <;> rcases key k u f with ⟨rfl, rfl⟩ | ⟨c', f1⟩
    · rfl
    · simp only [if_neg c', if_true] at q; exact absurd q.symm ((hn m d).2 k u n c' f1 g)
    · simp only [if_neg c, if_true] at q; exact absurd q ((hn n g).2 j t m c e1 d)
    · simp only [if_neg c, if_neg c'] at q; exact h.inj j k t u m n e1 f1 d g q
  · rcases key j t e with ⟨rfl, rfl⟩ | ⟨c, e⟩
    · simp only [if_true]; exact (hn m d).1
    · simp only [if_neg c]; exact h.new j t m e d
  · have e' := h.fr j t e
    have c : i ≠ j := fun z => by subst z; exact hi _ e'
    rw [List.getElem?_set_ne c]; exact e'
  · obtain ⟨e1, t, e2, e3⟩ := h.io j b e
    by_cases c : j = i
    · subst c
      obtain ⟨e4, e5⟩ := ho t e2 e3
      exact ⟨by simp only [if_true]; rw [e4, e1], s, List.getElem?_set_self (List.getElem?_eq_some_iff.mp e2).1, e5⟩
    · exact ⟨by simp only [if_neg c]; exact e1, t, by rw [List.getElem?_set_ne fun z => c z.symm]; exact e2, e3⟩
  · rcases key j t e with ⟨rfl, rfl⟩ | ⟨c, e⟩
    · exact ho' o
    · exact h.oi j t e o
theorem Rl.sto (h : Rl ax fx μ σ S A) (hS : ∀ b m, S b = some m → S' b = some m) : Rl ax fx μ σ S' A where
  lenμ := h.lenμ
  lenσ := h.lenσ
  slot := fun i s e => slot_same rfl rfl (fun m d => by rw [slot_dm (h.slot i s e) d]; exact hS _ _ (slot_dm (h.slot i s e) d)) (h.slot i s e)
  inj := h.inj
  new := h.new
  ext := fun b m e => hS _ _ (h.ext b m e)
  fr := h.fr
  io := h.io
  oi := h.oi
theorem put_ext {p : Addr} {m : DM} (h : S p = none) : ∀ b n, S b = some n → put S p m b = some n := fun b n e => by
  rw [put_ne (fun z => by rw [z, h] at e; cases e)]; exact e
theorem Rel.junk {p : Addr} {m : DM} (h : Rel ax fx μ σ S) (e : S p = none) : Rel ax fx μ σ (put S p m) := let ⟨A, r⟩ := h; ⟨A, r.sto (put_ext e)⟩
theorem set_get {l : DSt} {d : Option D} (h : i < l.length) : (l.set i d)[i]? = some d := List.getElem?_set_self h
theorem Rel.len (h : Rel ax fx μ σ S) (e : μ[i]? = some s) : i < σ.length := by
  obtain ⟨A, r⟩ := h
  rw [r.lenσ, ← r.lenμ]
  exact (List.getElem?_eq_some_iff.mp e).1
theorem Rel.setV (h : Rel ax fx μ σ S) (d : D) (hi : ∀ s, μ[i]? ≠ some (.p s)) (he : μ[i]? = some s) (ho : s.own = false) : Rel ax fx (μ.set i (.v d)) (σ.set i (some d)) S := by
  have hl := h.len he
  obtain ⟨A, r⟩ := h
  exact ⟨_, r.set (p := A i) hi (fun t e f => by rw [he] at e; cases e; rw [ho] at f; cases f) (fun o => by cases o) (by simp) (fun j c => List.getElem?_set_ne fun z => c z.symm) (fun _ _ _ _ _ _ => rfl) r.ext (set_get hl) fun m e => nomatch e⟩
theorem Rel.setUn (h : Rel ax fx μ σ S) {o : Option D} (hi : ∀ s, μ[i]? ≠ some (.p s)) (ho : ∀ t, μ[i]? = some t → t.own = false) : Rel ax fx (μ.set i .un) (σ.set i o) S := by
  obtain ⟨A, r⟩ := h
  exact ⟨_, r.set (p := A i) hi (fun t e f => by rw [ho t e] at f; cases f) (fun o => by cases o) (by simp) (fun j c => List.getElem?_set_ne fun z => c z.symm) (fun _ _ _ _ _ _ => rfl) r.ext trivial fun m e => nomatch e⟩
theorem Rl.far (r : Rl ax fx μ σ S A) {p : Addr} (hp : S p = none) {m : DM} (e : μ[j]? = some s) (d : s.dm = some m) : A j ≠ p := fun z => by
  have := slot_dm (r.slot j s e) d
  rw [z, hp] at this; cases this
theorem Rl.S0n (r : Rl ax fx μ σ S A) {p : Addr} (hp : S p = none) : fx.S0 p = none := by
  cases e : fx.S0 p with
  | none => rfl
  | some m => rw [r.ext p m e] at hp; cases hp
theorem Rel.newL (h : Rel ax fx μ σ S) {p : Addr} (hp : S p = none) (xs : List D) (hi : ∀ s, μ[i]? ≠ some (.p s)) (he : μ[i]? = some s) (ho : s.own = false) : Rel ax fx (μ.set i (.l false xs)) (σ.set i (some (.ref p))) (put S p (.lst xs)) := by
  have hl := h.len he
  obtain ⟨A, r⟩ := h
  refine ⟨_, r.set (p := p) hi (fun t e f => by rw [he] at e; cases e; rw [ho] at f; cases f) (fun o => by cases o) (by simp) (fun j c => List.getElem?_set_ne fun z => c z.symm) (fun j s m _ e d => put_ne (r.far hp e d)) (fun b m e => put_ext hp b m (r.ext b m e)) ⟨?_, ?_⟩ fun m _ => ⟨r.S0n hp, fun j t n _ e d => r.far hp e d⟩⟩
  · rw [set_get hl]; simp
  · simp [put_same]
theorem Rel.newK (h : Rel ax fx μ σ S) {p : Addr} (hp : S p = none) (xs : List (Key × D)) (hi : ∀ s, μ[i]? ≠ some (.p s)) (he : μ[i]? = some s) (ho : s.own = false) : Rel ax fx (μ.set i (.k false xs)) (σ.set i (some (.ref p))) (put S p (.dic xs)) := by
  have hl := h.len he
  obtain ⟨A, r⟩ := h
  refine ⟨_, r.set (p := p) hi (fun t e f => by rw [he] at e; cases e; rw [ho] at f; cases f) (fun o => by cases o) (by simp) (fun j c => List.getElem?_set_ne fun z => c z.symm) (fun j s m _ e d => put_ne (r.far hp e d)) (fun b m e => put_ext hp b m (r.ext b m e)) ⟨?_, ?_⟩ fun m _ => ⟨r.S0n hp, fun j t n _ e d => r.far hp e d⟩⟩
  · rw [set_get hl]; simp
  · simp [put_same]
/-- a list that may change -/
theorem Rel.getL {xs : List D} (h : Rel ax fx μ σ S) {q : Bool} (e : μ[i]? = some (.l q xs)) : ∃ p, σ[i]? = some (some (.ref p)) ∧ S p = some (.lst xs) ∧ (∀ ys, Rel ax fx (μ.set i (.l q ys)) σ (put S p (.lst ys))) ∧ (q = false → Rel ax fx (μ.set i (.v (.lst xs))) (σ.set i (some (.lst xs))) (rem S p)) := by
  have hl := h.len e
  obtain ⟨A, r⟩ := h
  have sl := r.slot i _ e
  have far : ∀ j s m, j ≠ i → μ[j]? = some s → s.dm = some m → A j ≠ A i := fun j s m c f d z => c (r.inj j i s _ m _ f e d rfl z)
  have n0 := r.new i _ _ e rfl
  refine ⟨A i, sl.1, sl.2, fun ys => ⟨_, r.set (p := A i) (fun s f => by rw [e] at f; cases f) (fun t f g => by rw [e] at f; cases f; exact ⟨rfl, g⟩) (fun o => r.oi i _ e o) rfl (fun _ _ => rfl) (fun j s m c f d => put_ne (far j s m c f d)) (fun b m f => ?_) ⟨?_, ?_⟩ fun m _ => ⟨n0, far⟩⟩, fun eq => ⟨_, r.set (p := A i) (fun s f => by rw [e] at f; cases f) (fun t f g => by rw [e] at f; cases f; cases eq; cases g) (fun o => by cases o) (by simp) (fun j c => List.getElem?_set_ne fun z => c z.symm) (fun j s m c f d => rem_ne (far j s m c f d)) (fun b m f => ?_) ?_ fun m f => nomatch f⟩⟩
  · rw [put_ne (fun z => by rw [z, n0] at f; cases f)]; exact r.ext b m f
  · simp [sl.1]
  · simp [put_same]
  · rw [rem_ne (fun z => by rw [z, n0] at f; cases f)]; exact r.ext b m f
  · exact set_get hl
theorem Rel.getK {xs : List (Key × D)} (h : Rel ax fx μ σ S) {q : Bool} (e : μ[i]? = some (.k q xs)) : ∃ p, σ[i]? = some (some (.ref p)) ∧ S p = some (.dic xs) ∧ (∀ ys, Rel ax fx (μ.set i (.k q ys)) σ (put S p (.dic ys))) ∧ (q = false → Rel ax fx (μ.set i (.v (.dic xs))) (σ.set i (some (.dic xs))) (rem S p)) := by
  have hl := h.len e
  obtain ⟨A, r⟩ := h
  have sl := r.slot i _ e
  have far : ∀ j s m, j ≠ i → μ[j]? = some s → s.dm = some m → A j ≠ A i := fun j s m c f d z => c (r.inj j i s _ m _ f e d rfl z)
  have n0 := r.new i _ _ e rfl
  refine ⟨A i, sl.1, sl.2, fun ys => ⟨_, r.set (p := A i) (fun s f => by rw [e] at f; cases f) (fun t f g => by rw [e] at f; cases f; exact ⟨rfl, g⟩) (fun o => r.oi i _ e o) rfl (fun _ _ => rfl) (fun j s m c f d => put_ne (far j s m c f d)) (fun b m f => ?_) ⟨?_, ?_⟩ fun m _ => ⟨n0, far⟩⟩, fun eq => ⟨_, r.set (p := A i) (fun s f => by rw [e] at f; cases f) (fun t f g => by rw [e] at f; cases f; cases eq; cases g) (fun o => by cases o) (by simp) (fun j c => List.getElem?_set_ne fun z => c z.symm) (fun j s m c f d => rem_ne (far j s m c f d)) (fun b m f => ?_) ?_ fun m f => nomatch f⟩⟩
  · rw [put_ne (fun z => by rw [z, n0] at f; cases f)]; exact r.ext b m f
  · simp [sl.1]
  · simp [put_same]
  · rw [rem_ne (fun z => by rw [z, n0] at f; cases f)]; exact r.ext b m f
  · exact set_get hl
end

/-! ### the states of loops and of joined ways -/
inductive Mo where
  | d | o | l (q : Bool) | k (q : Bool)
@[reducible] def Mo.Ty : Mo → Type
  | .d => D
  | .o => Option D
  | .l _ => List D
  | .k _ => List (Key × D)
def Mo.sv (m : Mo) : m.Ty → SV := match m with
  | .d => fun d => SV.v d
  | .o => fun d => match d with
    | some d => SV.v d
    | none => SV.un
  | .l q => fun xs => SV.l q xs
  | .k q => fun xs => SV.k q xs
abbrev Js := List (Nat × Mo)
@[reducible] def T : Js → Type
  | [] => Unit
  | (_, m) :: r => m.Ty × T r
section
variable {β : Type}
def getM (m : Mo) (o : Option SV) : (m.Ty → β) → β → β := match m with
  | .d => fun k b => match o with
    | some (.v d) => k d
    | _ => b
  | .o => fun k b => match o with
    | some (.v d) => k (some d)
    | some .un => k none
    | _ => b
  | .l q => fun k b => match o with
    | some (.l r d) => if r = q then k d else b
    | _ => b
  | .k q => fun k b => match o with
    | some (.k r d) => if r = q then k d else b
    | _ => b
def getJ : (J : Js) → Env → (T J → β) → β → β
  | [], _, k, _ => k ()
  | (i, m) :: r, μ, k, b => getM m μ[i]? (fun x => getJ r μ (fun t => k (x, t)) b) b
end
def setJ : (J : Js) → T J → Env → Env
  | [], _, μ => μ
  | (i, m) :: r, t, μ => setJ r t.2 (μ.set i (m.sv t.1))
def killK : List Nat → Env → Env
  | [], μ => μ
  | i :: r, μ => (killK r μ).set i .un
def protN (ix : List Nat) : Nat → Env → Env
  | _, [] => []
  | n, s :: r => (if ix.contains n then s else s.prot) :: protN ix (n + 1) r
def Mo.own : Mo → Bool
  | .d => false
  | .o => false
  | .l q => q
  | .k q => q
/-- may the slot change? -/
def freeS (q : Bool) : Option SV → Bool
  | some (.p _) => false
  | some s => s.own == q
  | none => false
def freeK : List Nat → Env → Bool
  | [], _ => true
  | i :: r, μ => freeS false μ[i]? && freeK r μ
def freeJ : Js → Env → Bool
  | [], _ => true
  | (i, m) :: r, μ => freeS m.own μ[i]? && freeJ r μ
def ixJ : Js → List Nat
  | [] => []
  | (i, _) :: r => i :: ixJ r
theorem getM_ok {β : Type} {m : Mo} {o : Option SV} {k : m.Ty → β} {b : β} {Φ : β → Prop} (h : Φ (getM m o k b)) (hb : ¬ Φ b) : ∃ x, o = some (m.sv x) ∧ Φ (k x) := by
  cases m <;> rcases o with _ | s <;> try (exact absurd h hb)
  all_goals (cases s <;> first | exact absurd h hb | exact ⟨_, by first | rfl | (show _ = some (SV.v _); rfl), h⟩ | exact ⟨none, rfl, h⟩ | exact ⟨some _, rfl, h⟩ | skip)
  · rename_i q r xs
    by_cases c : r = q
    · subst c; simp only [getM, if_true] at h; exact ⟨xs, rfl, h⟩
    · simp only [getM, if_neg c] at h; exact absurd h hb
  · rename_i q r xs
    by_cases c : r = q
    · subst c; simp only [getM, if_true] at h; exact ⟨xs, rfl, h⟩
    · simp only [getM, if_neg c] at h; exact absurd h hb
theorem getJ_ok {β : Type} : ∀ {J : Js} {μ : Env} {k : T J → β} {b : β} {Φ : β → Prop}, Φ (getJ J μ k b) → ¬ Φ b → ∃ t, Φ (k t) ∧ ∀ ν i s, (setJ J t ν)[i]? = some s → (i ∉ ixJ J ∧ ν[i]? = some s) ∨ μ[i]? = some s
  | [], μ, k, b, Φ, h, hb => ⟨(), h, fun ν i s e => .inl ⟨by simp [ixJ], e⟩⟩
  | (i, m) :: r, μ, k, b, Φ, h, hb => by
    obtain ⟨x, e, h⟩ := getM_ok (Φ := Φ) h hb
    obtain ⟨t, h, q⟩ := getJ_ok (J := r) (Φ := Φ) h hb
    refine ⟨(x, t), h, fun ν j s f => ?_⟩
    rcases q _ j s f with ⟨c, f⟩ | f
    · by_cases z : i = j
      · subst z
        by_cases l : i < ν.length
        · rw [List.getElem?_set_self l] at f
          cases f; exact .inr e
        · rw [List.getElem?_eq_none (by simpa using l)] at f; cases f
      · rw [List.getElem?_set_ne z] at f
        exact .inl ⟨by simp only [ixJ, List.mem_cons, not_or]; exact ⟨fun w => z w.symm, c⟩, f⟩
    · exact .inr f
theorem setJ_len : ∀ {J : Js} {t : T J} {μ : Env}, (setJ J t μ).length = μ.length
  | [], _, _ => rfl
  | (i, m) :: r, t, μ => by rw [setJ, setJ_len, List.length_set]
theorem setJ_ne : ∀ {J : Js} {t : T J} {μ : Env} {i : Nat}, i ∉ ixJ J → (setJ J t μ)[i]? = μ[i]?
  | [], _, _, _, _ => rfl
  | (j, m) :: r, t, μ, i, h => by
    simp only [ixJ, List.mem_cons, not_or] at h
    rw [setJ, setJ_ne h.2, List.getElem?_set_ne (fun z => h.1 z.symm)]
theorem kill_len : ∀ {K : List Nat} {μ : Env}, (killK K μ).length = μ.length
  | [], _ => rfl
  | i :: r, μ => by rw [killK, List.length_set, kill_len]
theorem kill_get : ∀ {K : List Nat} {μ : Env} {i : Nat} {s : SV}, (killK K μ)[i]? = some s → s = .un ∨ (i ∉ K ∧ μ[i]? = some s)
  | [], _, _, _, h => .inr ⟨by simp, h⟩
  | j :: r, μ, i, s, h => by
    rw [killK] at h
    by_cases z : j = i
    · subst z
      by_cases l : j < (killK r μ).length
      · rw [List.getElem?_set_self l] at h; cases h; exact .inl rfl
      · rw [List.getElem?_eq_none (by simpa using l)] at h; cases h
    · rw [List.getElem?_set_ne z] at h
      rcases kill_get (K := r) h with h | ⟨c, h⟩
      · exact .inl h
      · exact .inr ⟨by simp only [List.mem_cons, not_or]; exact ⟨fun w => z w.symm, c⟩, h⟩
theorem kill_ne : ∀ {K : List Nat} {μ : Env} {i : Nat}, i ∉ K → (killK K μ)[i]? = μ[i]?
  | [], _, _, _ => rfl
  | j :: r, μ, i, h => by
    simp only [List.mem_cons, not_or] at h
    rw [killK, List.getElem?_set_ne (fun z => h.1 z.symm), kill_ne h.2]
theorem prot_len {ix : List Nat} : ∀ {n : Nat} {μ : Env}, (protN ix n μ).length = μ.length
  | _, [] => rfl
  | n, s :: r => by rw [protN, List.length_cons, List.length_cons, prot_len]
theorem prot_get {ix : List Nat} : ∀ {n : Nat} {μ : Env} {i : Nat}, (protN ix n μ)[i]? = μ[i]?.map fun s => if ix.contains (n + i) then s else s.prot
  | _, [], i => by simp [protN]
  | n, s :: r, 0 => by simp [protN]
  | n, s :: r, i + 1 => by
    rw [protN, List.getElem?_cons_succ, List.getElem?_cons_succ, prot_get]
    rw [show n + 1 + i = n + (i + 1) by omega]
theorem freeS_ok {q : Bool} {o : Option SV} (h : freeS q o = true) : ∃ s, o = some s ∧ (∀ t, s ≠ .p t) ∧ s.own = q := by
  rcases o with _ | s
  · cases h
  · cases s <;> first | (cases h; done) | exact ⟨_, rfl, (fun t z => by cases z), beq_iff_eq.mp h⟩
theorem freeK_ok : ∀ {K : List Nat} {μ : Env}, freeK K μ = true → ∀ i ∈ K, ∃ s, μ[i]? = some s ∧ (∀ t, s ≠ .p t) ∧ s.own = false
  | [], μ, e, i, h => by simp at h
  | j :: r, μ, e, i, h => by
    rw [freeK, Bool.and_eq_true] at e
    rcases List.mem_cons.mp h with rfl | h
    · exact freeS_ok e.1
    · exact freeK_ok e.2 i h
theorem freeJ_ok : ∀ {J : Js} {μ : Env}, freeJ J μ = true → ∀ i ∈ ixJ J, ∃ s, μ[i]? = some s ∧ (∀ t, s ≠ .p t)
  | [], μ, e, i, h => by simp [ixJ] at h
  | (j, m) :: r, μ, e, i, h => by
    rw [freeJ, Bool.and_eq_true] at e
    rcases List.mem_cons.mp h with rfl | h
    · obtain ⟨s, h1, h2, _⟩ := freeS_ok e.1
      exact ⟨s, h1, h2⟩
    · exact freeJ_ok e.2 i h
theorem sv_own {m : Mo} {x : m.Ty} : (m.sv x).own = m.own := by
  cases m <;> first | rfl | (cases x <;> rfl)
/-- a slot of the caller stays one -/
theorem setJ_own : ∀ {J : Js} {t : T J} {μ ν : Env}, freeJ J μ = true → (∀ (i : Nat) (s : SV), μ[i]? = some s → s.own = true → ∃ t : SV, ν[i]? = some t ∧ t.own = true) → ∀ (i : Nat) (s : SV), μ[i]? = some s → s.own = true → ∃ u : SV, (setJ J t ν)[i]? = some u ∧ u.own = true
  | [], t, μ, ν, _, h => h
  | (j, m) :: r, t, μ, ν, e, h => by
    rw [freeJ, Bool.and_eq_true] at e
    refine setJ_own (J := r) e.2 fun i s hs ho => ?_
    obtain ⟨u, h1, h2⟩ := h i s hs ho
    by_cases z : j = i
    · subst z
      obtain ⟨s', f1, _, f3⟩ := freeS_ok e.1
      rw [hs] at f1; cases f1
      exact ⟨_, List.getElem?_set_self (List.getElem?_eq_some_iff.mp h1).1, by rw [sv_own, ← f3]; exact ho⟩
    · exact ⟨u, by rw [List.getElem?_set_ne z]; exact h1, h2⟩
theorem kill_own {K : List Nat} {μ : Env} (e : freeK K μ = true) (i : Nat) (s : SV) (hs : μ[i]? = some s) (ho : s.own = true) : ∃ u : SV, (killK K μ)[i]? = some u ∧ u.own = true := by
  by_cases c : i ∈ K
  · obtain ⟨s', f1, _, f3⟩ := freeK_ok e i c
    rw [hs] at f1; cases f1; rw [ho] at f3; cases f3
  · exact ⟨s, by rw [kill_ne c]; exact hs, ho⟩
/-- what stands still in a part of the text whose slots ix may change -/
def Fx.inn (fx : Fx) (ix : List Nat) (μ : Env) : Fx := ⟨fx.n, fun i => match (protN ix 0 μ)[i]? with
  | some (.p s) => some s
  | _ => none, fx.S0, fx.io⟩
section
variable {ax : Ax} {fx : Fx} {μ μ' ν : Env} {σ σ' : DSt} {S S' : Sto} {ix : List Nat}
theorem Rel.inn (h : Rel ax fx μ σ S) (ix : List Nat) : Rel ax (fx.inn ix μ) (protN ix 0 μ) σ S := by
  obtain ⟨A, r⟩ := h
  refine ⟨A, r.mix rfl rfl rfl (fun i p e => ?_) (prot_len.trans r.lenμ) (fun i s e => ?_) fun i s e => ?_⟩
  · obtain ⟨_, s, e, f⟩ := r.io i p e
    rw [prot_get, e]
    refine ⟨_, rfl, ?_⟩
    dsimp only
    split
    · exact f
    · rw [core_own, core_prot, ← core_own]; exact f
  · rw [prot_get] at e
    rcases f : μ[i]? with _ | t
    · rw [f] at e; cases e
    · rw [f] at e
      simp only [Option.map_some, Option.some.injEq] at e
      subst e
      refine .inr ⟨t, rfl, ?_⟩
      split
      · rfl
      · exact core_prot.symm
  · simp only [Fx.inn] at e
    split at e
    · rename_i t f; cases e; exact f
    · cases e
/-- out of such a part: the slots that it did not touch are as they were -/
theorem Rel.out (h : Rel ax fx μ σ S) (hf : ∀ i ∈ ix, ∀ t : SV, μ[i]? ≠ some (.p t)) (h' : Rel ax (fx.inn ix μ) μ' σ' S') (hl : ν.length = μ.length) (hν : ∀ (i : Nat) (s : SV), ν[i]? = some s → s = SV.un ∨ (i ∉ ix ∧ μ[i]? = some s) ∨ μ'[i]? = some s) (hk : ∀ i : Nat, i ∉ ix → ν[i]? = μ[i]?) (hq : ∀ (i : Nat) (s : SV), μ[i]? = some s → s.own = true → ∃ t : SV, ν[i]? = some t ∧ t.own = true) : Rel ax fx ν σ' S' := by
  obtain ⟨A, r⟩ := h
  obtain ⟨A', r'⟩ := h'
  refine ⟨A', r'.mix rfl rfl rfl (fun i p e => let ⟨_, s, e, f⟩ := r.io i p e; hq i s e f) (hl.trans r.lenμ) (fun i s e => ?_) fun i s e => ?_⟩
  · rcases hν i s e with h | ⟨c, f⟩ | f
    · exact .inl h
    · have g : (protN ix 0 μ)[i]? = some s.prot := by
        rw [prot_get, f]; simp [c]
      cases s with
      | un => exact .inl rfl
      | v d => exact .inr ⟨.p (.v d), r'.fr i (.v d) (by simp only [Fx.inn, g]; rfl), rfl⟩
      | l q d => exact .inr ⟨.p (.l q d), r'.fr i (.l q d) (by simp only [Fx.inn, g]; rfl), rfl⟩
      | k q d => exact .inr ⟨.p (.k q d), r'.fr i (.k q d) (by simp only [Fx.inn, g]; rfl), rfl⟩
      | x c fs => exact .inr ⟨.p (.x c fs), r'.fr i (.x c fs) (by simp only [Fx.inn, g]; rfl), rfl⟩
      | p t => exact .inr ⟨.p t, r'.fr i t (by simp only [Fx.inn, g]; rfl), rfl⟩
    · exact .inr ⟨s, f, rfl⟩
  · have e' := r.fr i s e
    rw [hk i fun z => ?_]
    · exact e'
    · exact hf i z s e'
end
end KM

set_option maxRecDepth 100000
set_option maxHeartbeats 4000000
/-! Km1: mirrors of expressions. -/
namespace KM
open PySem PySem.Spec PyProof.Rows L2 KD
section
variable {α β : Type} {C : Str → Addr} {E : DEr} {S : Sto}
def post (C : Str → Addr) (E : DEr) (S : Sto) (Q : α → Prop) (x : P α) : Prop := match x with
  | .ok a _ => Q a
  | .er c fs _ => ∀ p, S p = none → E (C c) p (put S p (.xd fs))
  | .bad => False
theorem post_bind {x : P α} {k : α → P β} {Q : β → Prop} : post C E S Q (bind x k) = post C E S (fun a => post C E S Q (k a)) x := by cases x <;> rfl
theorem post_opt {o : Option α} {Q : α → Prop} (h : post C E S Q (opt o)) : ∃ a, o = some a ∧ Q a := by
  cases o with
  | none => exact h.elim
  | some a => exact ⟨a, rfl, h⟩
theorem post_mono {Q Q' : α → Prop} {x : P α} (i : ∀ a, Q a → Q' a) (h : post C E S Q x) : post C E S Q' x := by
  cases x with
  | ok a s => exact i a h
  | er c fs s => exact h
  | bad => exact h
end
/-! ### weaker readings -/
section
variable {K : PySem.W.Frag} {X : Cx} {W : WX}
theorem deI {e : Expr} {r r' : DTE} (h : DE X W e r) (i : ∀ E σ S Q, r' E σ S Q → r E σ S Q) : DE X W e r' := let ⟨t, p, ev⟩ := h; ⟨t, p, ⟨fun E G H S σV σ Q P w k s q => ev.run E G H S σV σ Q P w k s (i _ _ _ _ q)⟩⟩
theorem dtI {e : Expr} {r r' : DTT} (h : DT X W e r) (i : ∀ E σ S Q, r' E σ S Q → r E σ S Q) : DT X W e r' := let ⟨t, p, ev⟩ := h; ⟨t, p, ⟨fun E G H S σV σ Q P w k s q => ev.run E G H S σV σ Q P w k s (i _ _ _ _ q)⟩⟩
theorem dwI {e : Expr} {r r' : DTT} (h : DW X W e r) (i : ∀ E σ S Q, r' E σ S Q → r E σ S Q) : DW X W e r' := let ⟨t, p, ev⟩ := h; ⟨t, p, ⟨fun E G H S σV σ Q P w k s q => ev.run E G H S σV σ Q P w k s (i _ _ _ _ q)⟩⟩
theorem dtsI {e : List Expr} {r r' : DTT} (h : DTs X W e r) (i : ∀ E σ S Q, r' E σ S Q → r E σ S Q) : DTs X W e r' := let ⟨t, p, ev⟩ := h; ⟨t, p, ⟨fun E G H S σV σ Q P w k s q => ev.run E G H S σV σ Q P w k s (i _ _ _ _ q)⟩⟩
theorem daI {e : List Expr} {r r' : DTA} (h : DA X W e r) (i : ∀ E σ S Q, r' E σ S Q → r E σ S Q) : DA X W e r' := let ⟨t, p, ev⟩ := h; ⟨t, p, ⟨fun E G H S σV σ Q P w k s q => ev.run E G H S σV σ Q P w k s (i _ _ _ _ q)⟩⟩
theorem diI {tg e : Expr} {r r' : DTI} (h : DI X W tg e r) (i : ∀ E σ S Q, r' E σ S Q → r E σ S Q) : DI X W tg e r' := let ⟨t, p, ev⟩ := h; ⟨t, p, ⟨fun E G H S σV σ Q R w k s q => ev.run E G H S σV σ Q R w k s (i _ _ _ _ q)⟩⟩
theorem doI {e : Option Expr} {r r' : DTO} (h : DO X W e r) (i : ∀ E σ S Q, r' E σ S Q → r E σ S Q) : DO X W e r' := let ⟨t, p, ev⟩ := h; ⟨t, p, ⟨fun E G H S σV σ Q P w k s q => ev.run E G H S σV σ Q P w k s (i _ _ _ _ q)⟩⟩
theorem dsI {st : Stmt} {r r' : DTS} (h : DS X W st r) (i : ∀ Z σ S, r' Z σ S → r Z σ S) : DS X W st r' := let ⟨t, p, ev⟩ := h; ⟨t, p, ⟨fun Dd G H S σV σ Dh e k s q => ev.run Dd G H S σV σ Dh e k s (i _ _ _ q)⟩⟩
theorem dssI {st : List Stmt} {r r' : DTS} (h : DSs X W st r) (i : ∀ Z σ S, r' Z σ S → r Z σ S) : DSs X W st r' := let ⟨t, p, ev⟩ := h; ⟨t, p, ⟨fun Dd G H S σV σ Dh e k s q => ev.run Dd G H S σV σ Dh e k s (i _ _ _ q)⟩⟩
end
/-! ### what is said of an expression -/
def rdE (C : Str → Addr) (ax : Ax) (m : Env → P D) : DTE := fun E σ S Q => ∃ fx μ, Rel ax fx μ σ S ∧ post C E S (fun d => Q d S) (m μ)
def rdV (C : Str → Addr) (ax : Ax) (m : Env → P D) : DTE := fun E σ S Q => ∃ fx μ, Rel ax fx μ σ S ∧ post C E S (fun d => ∀ d0, Vw S d0 d → Q d0 S) (m μ)
def rdB (C : Str → Addr) (ax : Ax) (m : Env → P Bool) : DTE := fun E σ S Q => ∃ fx μ, Rel ax fx μ σ S ∧ post C E S (fun b => Q (.bl b) S) (m μ)
def rdT (C : Str → Addr) (ax : Ax) (m : Env → P Bool) : DTT := fun E σ S Q => ∃ fx μ, Rel ax fx μ σ S ∧ post C E S (fun b => Q b S) (m μ)
abbrev MPA := (α : Type) → Env → (List D → P α) → P α
def rdA (C : Str → Addr) (ax : Ax) (m : MPA) : DTA := fun E σ S Q => ∃ (fx : Fx) (μ : Env) (α : Type) (k : List D → P α) (R : α → Prop), Rel ax fx μ σ S ∧ (∀ ds, post C E S R (k ds) → Q ds S) ∧ post C E S R (m α μ k)
inductive VwL (S : Sto) : List D → List D → Prop
  | nil : VwL S [] []
  | cons {x0 x : D} {l0 l : List D} : Vw S x0 x → VwL S l0 l → VwL S (x0 :: l0) (x :: l)
def rdVA (C : Str → Addr) (ax : Ax) (m : MPA) : DTA := fun E σ S Q => ∃ (fx : Fx) (μ : Env) (α : Type) (k : List D → P α) (R : α → Prop), Rel ax fx μ σ S ∧ (∀ ds, post C E S R (k ds) → ∀ d0, VwL S d0 ds → Q d0 S) ∧ post C E S R (m α μ k)
def rdI (C : Str → Addr) (ax : Ax) (m : Env → P (List D)) : DTI := fun E σ S Q => ∃ fx μ, Rel ax fx μ σ S ∧ post C E S (fun d => Q d S) (m μ)
def rdO (C : Str → Addr) (ax : Ax) (m : Env → P (Option Int)) : DTO := fun E σ S Q => ∃ fx μ, Rel ax fx μ σ S ∧ post C E S (fun d => Q d S) (m μ)
/-- a fresh list, a fresh dict that will change -/
def rdF (C : Str → Addr) (ax : Ax) (m : Env → P (List D)) : DTE := fun E σ S Q => ∃ fx μ, Rel ax fx μ σ S ∧ post C E S (fun xs => ∀ p, S p = none → Q (.ref p) (put S p (.lst xs))) (m μ)
def rdG (C : Str → Addr) (ax : Ax) (m : Env → P (List (Key × D))) : DTE := fun E σ S Q => ∃ fx μ, Rel ax fx μ σ S ∧ post C E S (fun xs => ∀ p, S p = none → Q (.ref p) (put S p (.dic xs))) (m μ)
def XE (C : Str → Addr) (ax : Ax) (X : Cx) (W : WX) (e : Expr) (m : Env → P D) : Prop := DE X W e (rdE C ax m)
def XV (C : Str → Addr) (ax : Ax) (X : Cx) (W : WX) (e : Expr) (m : Env → P D) : Prop := DE X W e (rdV C ax m)
def XB (C : Str → Addr) (ax : Ax) (X : Cx) (W : WX) (e : Expr) (m : Env → P Bool) : Prop := DE X W e (rdB C ax m)
def XT (C : Str → Addr) (ax : Ax) (X : Cx) (W : WX) (e : Expr) (m : Env → P Bool) : Prop := DT X W e (rdT C ax m)
def XW (C : Str → Addr) (ax : Ax) (X : Cx) (W : WX) (e : Expr) (m : Env → P Bool) : Prop := DW X W e (rdT C ax m)
def XA (C : Str → Addr) (ax : Ax) (X : Cx) (W : WX) (e : List Expr) (m : MPA) : Prop := DA X W e (rdA C ax m)
def XVA (C : Str → Addr) (ax : Ax) (X : Cx) (W : WX) (e : List Expr) (m : MPA) : Prop := DA X W e (rdVA C ax m)
def XI (C : Str → Addr) (ax : Ax) (X : Cx) (W : WX) (tg e : Expr) (m : Env → P (List D)) : Prop := DI X W tg e (rdI C ax m)
def XO (C : Str → Addr) (ax : Ax) (X : Cx) (W : WX) (e : Option Expr) (m : Env → P (Option Int)) : Prop := DO X W e (rdO C ax m)
def XF (C : Str → Addr) (ax : Ax) (X : Cx) (W : WX) (e : Expr) (m : Env → P (List D)) : Prop := DE X W e (rdF C ax m)
def XG (C : Str → Addr) (ax : Ax) (X : Cx) (W : WX) (e : Expr) (m : Env → P (List (Key × D))) : Prop := DE X W e (rdG C ax m)
/-! ### words -/
def lookE (μ : Env) (i : Nat) : Option D := match μ[i]? with
  | some s => s.look
  | none => none
def viewE (μ : Env) (i : Nat) : Option D := match μ[i]? with
  | some s => s.view
  | none => none
def mVar (i : Nat) : Env → P D := fun μ => opt (lookE μ i)
def mView (i : Nat) : Env → P D := fun μ => opt (viewE μ i)
def mC (d : D) : Env → P D := fun _ => .ok d ()
def mOfB (m : Env → P Bool) : Env → P D := fun μ => bind (m μ) fun b => .ok (.bl b) ()
def asB : D → Option Bool
  | .bl b => some b
  | _ => none
def mToB (m : Env → P D) : Env → P Bool := fun μ => bind (m μ) fun d => opt (asB d)
def mOp (f : D → D → Option D) (a b : Env → P D) : Env → P D := fun μ => bind (a μ) fun x => bind (b μ) fun y => opt (f x y)
def mUn (f : D → Option D) (a : Env → P D) : Env → P D := fun μ => bind (a μ) fun x => opt (f x)
def mCmp (f : D → D → Option Bool) (a b : Env → P D) : Env → P Bool := fun μ => bind (a μ) fun x => bind (b μ) fun y => opt (f x y)
def mAnd (a b : Env → P Bool) : Env → P Bool := fun μ => bind (a μ) fun x => if x then b μ else .ok false ()
def mOr (a b : Env → P Bool) : Env → P Bool := fun μ => bind (a μ) fun x => if x then .ok true () else b μ
def mNot (a : Env → P Bool) : Env → P Bool := fun μ => bind (a μ) fun x => .ok (!x) ()
def mIfE (c : Env → P Bool) (a b : Env → P D) : Env → P D := fun μ => bind (c μ) fun x => if x then a μ else b μ
def mChain (f g : D → D → Option Bool) (a b c : Env → P D) : Env → P Bool := fun μ => bind (a μ) fun x => bind (b μ) fun y => bind (opt (f x y)) fun t => if t then bind (c μ) fun z => opt (g y z) else .ok false ()
def mNil : MPA := fun α μ k => k []
def mCons (a : Env → P D) (l : MPA) : MPA := fun α μ k => bind (a μ) fun x => l α μ fun xs => k (x :: xs)
def mTup (l : MPA) : Env → P D := fun μ => l D μ fun xs => .ok (.tup xs) ()
def mLst (l : MPA) : Env → P D := fun μ => l D μ fun xs => .ok (.lst xs) ()
def mCall (f : List D → Option D) (l : MPA) : Env → P D := fun μ => l D μ fun xs => opt (f xs)
def mCallB (f : List D → Option Bool) (l : MPA) : Env → P Bool := fun μ => l Bool μ fun xs => opt (f xs)
def mFn (f : List D → P D) (l : MPA) : Env → P D := fun μ => l D μ fun xs => f xs
def mTru (f : D → Option Bool) (a : Env → P D) : Env → P Bool := fun μ => bind (a μ) fun x => opt (f x)
def mNone : Env → P (Option Int) := fun _ => .ok none ()
def intOf : D → Option Int
  | .int i => some i
  | _ => none
def mPart (a : Env → P D) : Env → P (Option Int) := fun μ => bind (a μ) fun x => bind (opt (intOf x)) fun i => .ok (some i) ()
def mSl (f : D → Option Int → Option Int → Option D) (a : Env → P D) (lo hi : Env → P (Option Int)) : Env → P D := fun μ => bind (a μ) fun x => bind (lo μ) fun l => bind (hi μ) fun h => opt (f x l h)
section
variable {C : Str → Addr} {ax : Ax} {X : Cx} {W : WX} {a b c e : Expr} {ma mb mc : Env → P D} {na nb : Env → P Bool} {ml : MPA} {es : List Expr} {pos : Pos}
/-! ### rules -/
def OpOk (q : D → D → Sto → DK → Prop) (f : D → D → Option D) : Prop := ∀ x y x0 y0 S d (Q : DK), Vw S x0 x → Vw S y0 y → f x y = some d → Q d S → q x0 y0 S Q
def CmOk (q : D → D → Sto → DK → Prop) (f : D → D → Option Bool) : Prop := ∀ x y x0 y0 S d (Q : DK), Vw S x0 x → Vw S y0 y → f x y = some d → Q (.bl d) S → q x0 y0 S Q
def ClOk (q : List D → Sto → DK → Prop) (f : List D → Option D) : Prop := ∀ xs xs0 S d (Q : DK), VwL S xs0 xs → f xs = some d → Q d S → q xs0 S Q
def ClOkB (q : List D → Sto → DK → Prop) (f : List D → Option Bool) : Prop := ∀ xs xs0 S d (Q : DK), VwL S xs0 xs → f xs = some d → Q (.bl d) S → q xs0 S Q
theorem xv_e (h : XE C ax X W e ma) : XV C ax X W e ma := deI h fun E σ S Q ⟨fx, μ, r, p⟩ => ⟨fx, μ, r, post_mono (fun d q => q d (.inl rfl)) p⟩
theorem xe_b (h : XB C ax X W e na) : XE C ax X W e (mOfB na) := deI h fun E σ S Q ⟨fx, μ, r, p⟩ => ⟨fx, μ, r, by
  unfold mOfB at p; rw [post_bind] at p; exact p⟩
theorem xb_e (h : XE C ax X W e ma) : XB C ax X W e (mToB ma) := deI h fun E σ S Q ⟨fx, μ, r, p⟩ => ⟨fx, μ, r, by
  unfold mToB at p; rw [post_bind] at p
  refine post_mono (fun d q => ?_) p
  obtain ⟨b, e, q⟩ := post_opt q
  cases d <;> simp only [asB, reduceCtorEq, Option.some.injEq] at e
  subst e; exact q⟩
theorem xt_b (h : XB C ax X W e na) (he : ∀ whole, isTrue e X.env whole = (do let v ← whole; standAt e.pos; holding [v] (truthy v)) := by intro _; rfl) : XT C ax X W e na := dtI (dt_val h he) fun E σ S Q ⟨fx, μ, r, p⟩ => ⟨fx, μ, r, p⟩
theorem xe_c {d : D} (h : DE X W e (dC d)) : XE C ax X W e (mC d) := deI h fun E σ S Q ⟨fx, μ, r, p⟩ => p
theorem xe_var {i : Nat} (h : DE X W e (dVar i)) : XE C ax X W e (mVar i) := deI h fun E σ S Q ⟨fx, μ, ⟨A, r⟩, p⟩ => by
  obtain ⟨d, e, q⟩ := post_opt p
  unfold lookE at e
  split at e
  · rename_i s hs
    unfold dVar; rw [slot_look (r.slot i s hs) e]; exact q
  · cases e
theorem xv_var {i : Nat} (h : DE X W e (dVar i)) : XV C ax X W e (mView i) := deI h fun E σ S Q ⟨fx, μ, ⟨A, r⟩, p⟩ => by
  obtain ⟨d, e, q⟩ := post_opt p
  unfold viewE at e
  split at e
  · rename_i s hs
    obtain ⟨d0, h1, h2⟩ := slot_view (r.slot i s hs) e
    unfold dVar; rw [h1]; exact q d0 h2
  · cases e
theorem xe_op {op : Operator} {q : D → D → Sto → DK → Prop} {f : D → D → Option D} (ho : DOp X (binaryOp op) q) (hf : OpOk q f) (ha : XV C ax X W a ma) (hb : XV C ax X W b mb) : XE C ax X W (.BinOp a op b pos) (mOp f ma mb) :=
  deI (de_op ho ha hb) fun E σ S Q ⟨fx, μ, r, p⟩ => by
    unfold mOp at p; rw [post_bind] at p
    refine ⟨fx, μ, r, post_mono (fun x p x0 v => ?_) p⟩
    rw [post_bind] at p
    refine ⟨fx, μ, r, post_mono (fun y p y0 w => ?_) p⟩
    obtain ⟨d, e, q⟩ := post_opt p
    exact hf x y x0 y0 S d Q v w e q
theorem xe_ix {q : D → D → Sto → DK → Prop} {f : D → D → Option D} (ho : DIx X q) (hf : OpOk q f) (ha : XV C ax X W a ma) (hb : XV C ax X W b mb) (hs : PlainIx b := by exact fun _ _ => rfl) : XE C ax X W (.Subscript a b pos) (mOp f ma mb) :=
  deI (de_ix ho ha hb hs) fun E σ S Q ⟨fx, μ, r, p⟩ => by
    unfold mOp at p; rw [post_bind] at p
    refine ⟨fx, μ, r, post_mono (fun x p x0 v => ?_) p⟩
    rw [post_bind] at p
    refine ⟨fx, μ, r, post_mono (fun y p y0 w => ?_) p⟩
    obtain ⟨d, e, q⟩ := post_opt p
    exact hf x y x0 y0 S d Q v w e q
theorem xb_cmp {op : CmpOp} {q : D → D → Sto → DK → Prop} {f : D → D → Option Bool} (ho : DOp X (compareOp op) q) (hf : CmOk q f) (ha : XV C ax X W a ma) (hb : XV C ax X W b mb) (hm : behindInMarks op b = false := by first | exact nomark _ | rfl) : XB C ax X W (.Compare a [op] [b] pos) (mCmp f ma mb) :=
  deI (de_cmp ho ha hb hm) fun E σ S Q ⟨fx, μ, r, p⟩ => by
    unfold mCmp at p; rw [post_bind] at p
    refine ⟨fx, μ, r, post_mono (fun x p x0 v => ?_) p⟩
    rw [post_bind] at p
    refine ⟨fx, μ, r, post_mono (fun y p y0 w => ?_) p⟩
    obtain ⟨d, e, q⟩ := post_opt p
    exact hf x y x0 y0 S d Q v w e q
theorem xt_cmp {op : CmpOp} {q : D → D → Sto → DK → Prop} {f : D → D → Option Bool} (ho : DOp X (compareOp op) q) (hf : CmOk q f) (ha : XV C ax X W a ma) (hb : XV C ax X W b mb) (hm : behindInMarks op b = false := by first | exact nomark _ | rfl) : XT C ax X W (.Compare a [op] [b] pos) (mCmp f ma mb) :=
  dtI (dt_cmp ho ha hb hm) fun E σ S Q ⟨fx, μ, r, p⟩ => by
    unfold mCmp at p; rw [post_bind] at p
    refine ⟨fx, μ, r, post_mono (fun x p x0 v => ?_) p⟩
    rw [post_bind] at p
    refine ⟨fx, μ, r, post_mono (fun y p y0 w => ?_) p⟩
    obtain ⟨d, e, q⟩ := post_opt p
    exact hf x y x0 y0 S d _ v w e q
theorem chain_ok {E : DEr} {σ : DSt} {S : Sto} {Q : DK} {q q' : D → D → Sto → DK → Prop} {f f' : D → D → Option Bool} (hf : CmOk q f) (hf' : CmOk q' f') (h : rdB C ax (mChain f f' ma mb mc) E σ S Q) : dChain q q' (rdV C ax ma) (rdV C ax mb) (rdV C ax mc) E σ S Q := by
  obtain ⟨fx, μ, r, p⟩ := h
  unfold mChain at p; rw [post_bind] at p
  refine ⟨fx, μ, r, post_mono (fun x p x0 v => ?_) p⟩
  rw [post_bind] at p
  refine ⟨fx, μ, r, post_mono (fun y p y0 w => ?_) p⟩
  rw [post_bind] at p
  obtain ⟨d, e, p⟩ := post_opt p
  refine hf x y x0 y0 S d _ v w e ?_
  cases d with
  | true =>
    rw [if_pos rfl, post_bind] at p
    show if true = true then _ else _
    rw [if_pos rfl]
    refine ⟨fx, μ, r, post_mono (fun z p z0 u => ?_) p⟩
    obtain ⟨d, e, p⟩ := post_opt p
    exact hf' y z y0 z0 S d Q w u e p
  | false =>
    show if false = true then _ else _
    rw [if_neg Bool.false_ne_true] at p ⊢
    exact p
theorem xb_chain {op op' : CmpOp} {q q' : D → D → Sto → DK → Prop} {f f' : D → D → Option Bool} (ho : DOp X (compareOp op) q) (hf : CmOk q f) (ho' : DOp X (compareOp op') q') (hf' : CmOk q' f') (ha : XV C ax X W a ma) (hb : XV C ax X W b mb) (hc : XV C ax X W c mc)
    (hm : lastMarks [op, op'] [b, c] = false := by with_unfolding_all rfl) : XB C ax X W (.Compare a [op, op'] [b, c] pos) (mChain f f' ma mb mc) := deI (de_chain' ho ho' ha hb hc hm) fun E σ S Q h => chain_ok hf hf' h
theorem xt_chain {op op' : CmpOp} {q q' : D → D → Sto → DK → Prop} {f f' : D → D → Option Bool} (ho : DOp X (compareOp op) q) (hf : CmOk q f) (ho' : DOp X (compareOp op') q') (hf' : CmOk q' f') (ha : XV C ax X W a ma) (hb : XV C ax X W b mb) (hc : XV C ax X W c mc)
    (hm : lastMarks [op, op'] [b, c] = false := by with_unfolding_all rfl) : XT C ax X W (.Compare a [op, op'] [b, c] pos) (mChain f f' ma mb mc) := dtI (dt_chain ho ho' ha hb hc hm) fun E σ S Q ⟨fx, μ, r, p⟩ => chain_ok (Q := fun d S' => match d with | .bl k => Q k S' | _ => False) hf hf' ⟨fx, μ, r, p⟩
theorem xw_t (h : XW C ax X W e na) : XT C ax X W e na := h.dt
theorem xw_and1 (h : XT C ax X W a na) : XW C ax X W (.BoolOp .And [a] pos) na := dw_and1 h
theorem xw_or1 (h : XT C ax X W a na) : XW C ax X W (.BoolOp .Or [a] pos) na := dw_or1 h
theorem xw_and {rest : List Expr} (ha : XT C ax X W a na) (hb : XW C ax X W (.BoolOp .And (b :: rest) pos) nb) : XW C ax X W (.BoolOp .And (a :: b :: rest) pos) (mAnd na nb) := dwI (dw_and ha hb) fun E σ S Q ⟨fx, μ, r, p⟩ => by
  unfold mAnd at p; rw [post_bind] at p
  refine ⟨fx, μ, r, post_mono (fun x p => ?_) p⟩
  cases x with
  | true => rw [if_pos rfl] at p ⊢; exact ⟨fx, μ, r, p⟩
  | false => rw [if_neg Bool.false_ne_true] at p ⊢; exact p
theorem xw_or {rest : List Expr} (ha : XT C ax X W a na) (hb : XW C ax X W (.BoolOp .Or (b :: rest) pos) nb) : XW C ax X W (.BoolOp .Or (a :: b :: rest) pos) (mOr na nb) := dwI (dw_or ha hb) fun E σ S Q ⟨fx, μ, r, p⟩ => by
  unfold mOr at p; rw [post_bind] at p
  refine ⟨fx, μ, r, post_mono (fun x p => ?_) p⟩
  cases x with
  | true => rw [if_pos rfl] at p ⊢; exact p
  | false => rw [if_neg Bool.false_ne_true] at p ⊢; exact ⟨fx, μ, r, p⟩
theorem xt_not (ha : XT C ax X W a na) : XT C ax X W (.UnaryOp .Not a pos) (mNot na) := dtI (dt_not ha) fun E σ S Q ⟨fx, μ, r, p⟩ => by
  unfold mNot at p; rw [post_bind] at p; exact ⟨fx, μ, r, p⟩
theorem xb_one {op} (h : XB C ax X W a na) : XB C ax X W (.BoolOp op [a] pos) na := de_one h
theorem xb_and {rest : List Expr} (ha : XB C ax X W a na) (hb : XB C ax X W (.BoolOp .And (b :: rest) pos) nb) : XB C ax X W (.BoolOp .And (a :: b :: rest) pos) (mAnd na nb) := deI (de_and ha hb) fun E σ S Q ⟨fx, μ, r, p⟩ => by
  unfold mAnd at p; rw [post_bind] at p
  refine ⟨fx, μ, r, post_mono (fun x p => ?_) p⟩
  cases x with
  | true => rw [if_pos rfl] at p; exact ⟨fx, μ, r, p⟩
  | false => rw [if_neg Bool.false_ne_true] at p; exact p
theorem xb_or {rest : List Expr} (ha : XB C ax X W a na) (hb : XB C ax X W (.BoolOp .Or (b :: rest) pos) nb) : XB C ax X W (.BoolOp .Or (a :: b :: rest) pos) (mOr na nb) := deI (de_or ha hb) fun E σ S Q ⟨fx, μ, r, p⟩ => by
  unfold mOr at p; rw [post_bind] at p
  refine ⟨fx, μ, r, post_mono (fun x p => ?_) p⟩
  cases x with
  | true => rw [if_pos rfl] at p; exact p
  | false => rw [if_neg Bool.false_ne_true] at p; exact ⟨fx, μ, r, p⟩
theorem xb_not (ha : XB C ax X W a na) : XB C ax X W (.UnaryOp .Not a pos) (mNot na) := deI (de_not ha) fun E σ S Q ⟨fx, μ, r, p⟩ => by
  unfold mNot at p; rw [post_bind] at p; exact ⟨fx, μ, r, p⟩
theorem xe_ifE (hc : XT C ax X W c na) (ha : XE C ax X W a ma) (hb : XE C ax X W b mb) : XE C ax X W (.IfExp c a b pos) (mIfE na ma mb) := deI (de_ifE hc ha hb) fun E σ S Q ⟨fx, μ, r, p⟩ => by
  unfold mIfE at p; rw [post_bind] at p
  refine ⟨fx, μ, r, post_mono (fun x p => ?_) p⟩
  cases x with
  | true => rw [if_pos rfl] at p ⊢; exact ⟨fx, μ, r, p⟩
  | false => rw [if_neg Bool.false_ne_true] at p ⊢; exact ⟨fx, μ, r, p⟩
def mIsN (a : Env → P D) : Env → P Bool := fun μ => bind (a μ) fun x => .ok (isNon x) ()
theorem vw_non {S : Sto} {x0 x : D} (h : Vw S x0 x) : isNon x0 = isNon x := by
  rcases h with rfl | h
  · rfl
  · unfold vw at h
    split at h
    · split at h <;> subst h <;> rfl
    · rw [h]
theorem xb_isN {j pos'} (ha : XV C ax X W a ma) : XB C ax X W (.Compare a [.Is] [.Constant .none j pos'] pos) (mIsN ma) := deI (de_isN ha) fun E σ S Q ⟨fx, μ, r, p⟩ => by
  unfold mIsN at p; rw [post_bind] at p
  exact ⟨fx, μ, r, post_mono (fun x q x0 v => by show Q (.bl (isNon x0)) S; rw [vw_non v]; exact q) p⟩
theorem xb_notN {j pos'} (ha : XV C ax X W a ma) : XB C ax X W (.Compare a [.IsNot] [.Constant .none j pos'] pos) (mNot (mIsN ma)) := deI (de_notN ha) fun E σ S Q ⟨fx, μ, r, p⟩ => by
  unfold mNot mIsN at p; rw [post_bind, post_bind] at p
  exact ⟨fx, μ, r, post_mono (fun x q x0 v => by show Q (.bl (!isNon x0)) S; rw [vw_non v]; exact q) p⟩
theorem xt_isN {j pos'} (ha : XV C ax X W a ma) : XT C ax X W (.Compare a [.Is] [.Constant .none j pos'] pos) (mIsN ma) := dtI (dt_isN ha) fun E σ S Q ⟨fx, μ, r, p⟩ => by
  unfold mIsN at p; rw [post_bind] at p
  exact ⟨fx, μ, r, post_mono (fun x q x0 v => by show Q (isNon x0) S; rw [vw_non v]; exact q) p⟩
theorem xt_notN {j pos'} (ha : XV C ax X W a ma) : XT C ax X W (.Compare a [.IsNot] [.Constant .none j pos'] pos) (mNot (mIsN ma)) := dtI (dt_notN ha) fun E σ S Q ⟨fx, μ, r, p⟩ => by
  unfold mNot mIsN at p; rw [post_bind, post_bind] at p
  exact ⟨fx, μ, r, post_mono (fun x q x0 v => by show Q (!isNon x0) S; rw [vw_non v]; exact q) p⟩
def UnOk (g : Int → Int) (f : D → Option D) : Prop := ∀ x d, f x = some d → ∃ i, x = .int i ∧ d = .int (g i)
theorem xe_neg {f : D → Option D} (hf : UnOk (fun i => -i) f) (ha : XE C ax X W a ma) : XE C ax X W (.UnaryOp .USub a pos) (mUn f ma) := deI (de_neg ha) fun E σ S Q ⟨fx, μ, r, p⟩ => by
  unfold mUn at p; rw [post_bind] at p
  refine ⟨fx, μ, r, post_mono (fun x p => ?_) p⟩
  obtain ⟨d, e, q⟩ := post_opt p
  obtain ⟨i, rfl, rfl⟩ := hf x d e
  exact q
/-! truth -/
def TrOk (f : D → Option Bool) : Prop := ∀ x x0 S b (Q : Bool → Sto → Prop), Vw S x0 x → f x = some b → Q b S → dTruth x0 S Q
theorem xt_tru {f : D → Option Bool} (hf : TrOk f) (h : XV C ax X W e ma) (he : ∀ whole, isTrue e X.env whole = (do let v ← whole; standAt e.pos; holding [v] (truthy v)) := by intro _; rfl) : XT C ax X W e (mTru f ma) := dtI (dt_truth h he) fun E σ S Q ⟨fx, μ, r, p⟩ => by
  unfold mTru at p; rw [post_bind] at p
  refine ⟨fx, μ, r, post_mono (fun x p x0 v => ?_) p⟩
  obtain ⟨d, e, q⟩ := post_opt p
  exact hf x x0 S d Q v e q
/-! arguments, displays -/
theorem xa_nil : XA C ax X W [] mNil := daI da_nil fun E σ S Q ⟨fx, μ, α, k, R, r, q, p⟩ => q [] p
theorem xa_cons (ha : XE C ax X W e ma) (hr : XA C ax X W es ml) (hs : starEach (e :: es) X.env = (false, eval e X.env) :: starEach es X.env := by rfl) : XA C ax X W (e :: es) (mCons ma ml) := daI (da_cons ha hr hs) fun E σ S Q ⟨fx, μ, α, k, R, r, q, p⟩ => by
  unfold mCons at p; rw [post_bind] at p
  exact ⟨fx, μ, r, post_mono (fun x p => ⟨fx, μ, α, _, R, r, fun xs p => q (x :: xs) p, p⟩) p⟩
theorem xva_nil : XVA C ax X W [] mNil := daI da_nil fun E σ S Q ⟨fx, μ, α, k, R, r, q, p⟩ => q [] p [] .nil
theorem xva_cons (ha : XV C ax X W e ma) (hr : XVA C ax X W es ml) (hs : starEach (e :: es) X.env = (false, eval e X.env) :: starEach es X.env := by rfl) : XVA C ax X W (e :: es) (mCons ma ml) := daI (da_cons ha hr hs) fun E σ S Q ⟨fx, μ, α, k, R, r, q, p⟩ => by
  unfold mCons at p; rw [post_bind] at p
  exact ⟨fx, μ, r, post_mono (fun x p x0 v => ⟨fx, μ, α, _, R, r, fun xs p xs0 w => q (x :: xs) p _ (.cons v w), p⟩) p⟩
/-- a list of a number of items that is written -/
def LenIs (ml : MPA) (n : Nat) : Prop := ∀ (C : Str → Addr) (E : DEr) (S : Sto) (α : Type) (μ : Env) (k k' : List D → P α) (R : α → Prop), (∀ ds, ds.length = n → post C E S R (k ds) → post C E S R (k' ds)) → post C E S R (ml α μ k) → post C E S R (ml α μ k')
theorem lenNil : LenIs mNil 0 := fun C E S α μ k k' R i h => i [] rfl h
theorem lenCons {n : Nat} (h : LenIs ml n) : LenIs (mCons ma ml) (n + 1) := fun C E S α μ k k' R i p => by
  unfold mCons at p ⊢
  rw [post_bind] at p ⊢
  exact post_mono (fun x p => h C E S α μ _ _ R (fun ds hd q => i (x :: ds) (by simp [hd]) q) p) p
open Classical in
theorem post_len {n : Nat} {C : Str → Addr} {E : DEr} {S : Sto} {α : Type} {μ : Env} {k : List D → P α} {R : α → Prop} (hl : LenIs ml n) (h : post C E S R (ml α μ k)) : post C E S R (ml α μ fun ds => if ds.length = n then k ds else .bad) := hl C E S α μ _ _ R (fun ds hd q => by rw [if_pos hd]; exact q) h
theorem len_cut {n : Nat} {C : Str → Addr} {E : DEr} {S : Sto} {α : Type} {x : P α} {R : α → Prop} {ds : List D} {inst : Decidable (ds.length = n)} (h : post C E S R (@ite _ (ds.length = n) inst x .bad)) : ds.length = n ∧ post C E S R x := by
  split at h
  · exact ⟨by assumption, h⟩
  · exact h.elim
theorem size_ok {n : Nat} (h : n ≤ 16777216) : n ≤ sizeLine := Nat.le_trans h (by decide)
theorem xe_tup {x1} {n : Nat} (hl : LenIs ml n) (h : XA C ax X W es ml) (hn : n ≤ 16777216 := by decide) : XE C ax X W (.Tuple es x1 pos) (mTup ml) := deI (de_tup h) fun E σ S Q ⟨fx, μ, r, p⟩ => by
  refine ⟨fx, μ, D, _, fun d => Q d S, r, ?_, post_len hl p⟩
  exact fun ds p => ⟨by rw [(len_cut p).1]; exact size_ok hn, (len_cut p).2⟩
theorem xe_lst {n : Nat} (hl : LenIs ml n) (h : XA C ax X W es ml) (hn : n ≤ 16777216 := by decide) : XE C ax X W (.List es pos) (mLst ml) := deI (de_lst h) fun E σ S Q ⟨fx, μ, r, p⟩ => by
  refine ⟨fx, μ, D, _, fun d => Q d S, r, ?_, post_len hl p⟩
  exact fun ds p => ⟨by rw [(len_cut p).1]; exact size_ok hn, (len_cut p).2⟩
theorem xf_lst {n : Nat} (hl : LenIs ml n) (h : XA C ax X W es ml) (hn : n ≤ 16777216 := by decide) : XF C ax X W (.List es pos) (fun μ => ml _ μ fun xs => .ok xs ()) := deI (de_lstM h) fun E σ S Q ⟨fx, μ, r, p⟩ => by
  refine ⟨fx, μ, List D, _, _, r, ?_, post_len hl p⟩
  exact fun ds p => ⟨by rw [(len_cut p).1]; exact size_ok hn, (len_cut p).2⟩
/-! calls -/
theorem cl_ok {q : List D → Sto → DK → Prop} {f : List D → Option D} (hf : ClOk q f) {E : DEr} {σ : DSt} {S : Sto} {Q : DK} (h : rdE C ax (mCall f ml) E σ S Q) : dCall q (rdVA C ax ml) E σ S Q := by
  obtain ⟨fx, μ, r, p⟩ := h
  refine ⟨fx, μ, D, _, fun d => Q d S, r, fun xs p xs0 v => ?_, p⟩
  obtain ⟨d, e, q⟩ := post_opt p
  exact hf xs xs0 S d Q v e q
theorem cl_okB {q : List D → Sto → DK → Prop} {f : List D → Option Bool} (hf : ClOkB q f) {E : DEr} {σ : DSt} {S : Sto} {Q : DK} (h : rdB C ax (mCallB f ml) E σ S Q) : dCall q (rdVA C ax ml) E σ S Q := by
  obtain ⟨fx, μ, r, p⟩ := h
  refine ⟨fx, μ, Bool, _, fun d => Q (.bl d) S, r, fun xs p xs0 v => ?_, p⟩
  obtain ⟨d, e, q⟩ := post_opt p
  exact hf xs xs0 S d Q v e q
theorem xe_callB {id : String} {x : Str} {p : Pos} {f : List D → Option D} {q : List D → Sto → DK → Prop} (hc : DC X (.builtin id) q) (hf : ClOk q f) (hg : Gl X x) (hm : X.mg x = none) (hv : bootBuiltins x = some (.builtin id)) (ha : XVA C ax X W (e :: es) ml)
    (hn : x ≠ "__name__" := by decide) (hdb : (x == ("__debug__" : Str)) = false := by decide) (hs : starEach (e :: es) X.env = (false, eval e X.env) :: starEach es X.env := by rfl) (hpl : (backTo pos (starEach es X.env)).any (·.1) = false := by rfl) :
    XE C ax X W (.Call (.Name x p) (e :: es) [] pos) (mCall f ml) := deI (de_callB hc hg hm hv ha hn hdb hs hpl) fun E σ S Q h => cl_ok hf h
theorem xe_callTy {T : String} {x : Str} {p : Pos} {f : List D → Option D} {q : List D → Sto → DK → Prop} (hc : DC X (.type T) q) (hf : ClOk q f) (hg : Gl X x) (hm : X.mg x = none) (hv : bootBuiltins x = some (.type T)) (ha : XVA C ax X W (e :: es) ml)
    (hn : x ≠ "__name__" := by decide) (hdb : (x == ("__debug__" : Str)) = false := by decide) (hs : starEach (e :: es) X.env = (false, eval e X.env) :: starEach es X.env := by rfl) (hpl : (backTo pos (starEach es X.env)).any (·.1) = false := by rfl) :
    XE C ax X W (.Call (.Name x p) (e :: es) [] pos) (mCall f ml) := deI (de_callTy hc hg hm hv ha hn hdb hs hpl) fun E σ S Q h => cl_ok hf h
theorem xb_callB {id : String} {x : Str} {p : Pos} {f : List D → Option Bool} {q : List D → Sto → DK → Prop} (hc : DC X (.builtin id) q) (hf : ClOkB q f) (hg : Gl X x) (hm : X.mg x = none) (hv : bootBuiltins x = some (.builtin id)) (ha : XVA C ax X W (e :: es) ml)
    (hn : x ≠ "__name__" := by decide) (hdb : (x == ("__debug__" : Str)) = false := by decide) (hs : starEach (e :: es) X.env = (false, eval e X.env) :: starEach es X.env := by rfl) (hpl : (backTo pos (starEach es X.env)).any (·.1) = false := by rfl) :
    XB C ax X W (.Call (.Name x p) (e :: es) [] pos) (mCallB f ml) := deI (de_callB hc hg hm hv ha hn hdb hs hpl) fun E σ S Q h => cl_okB hf h
/-! slices -/
theorem xo_none : XO C ax X W none mNone := doI do_none fun E σ S Q ⟨fx, μ, r, p⟩ => p
theorem xo_some (ha : XE C ax X W a ma) : XO C ax X W (some a) (mPart ma) := doI (do_some ha) fun E σ S Q ⟨fx, μ, r, p⟩ => by
  unfold mPart at p; rw [post_bind] at p
  refine ⟨fx, μ, r, post_mono (fun x p => ?_) p⟩
  rw [post_bind] at p
  obtain ⟨i, e, q⟩ := post_opt p
  cases x <;> simp only [intOf, reduceCtorEq, Option.some.injEq] at e
  subst e; exact q
def SlOk (q : D → Option Int → Option Int → Sto → DK → Prop) (f : D → Option Int → Option Int → Option D) : Prop := ∀ x x0 lo hi S d (Q : DK), Vw S x0 x → f x lo hi = some d → Q d S → q x0 lo hi S Q
theorem xe_slice {lo hi : Option Expr} {ol oh : Env → P (Option Int)} {f : D → Option Int → Option Int → Option D} {p2 : Pos} (hf : SlOk dSlQ f) (he : XV C ax X W e ma) (hl : XO C ax X W lo ol) (hh : XO C ax X W hi oh) : XE C ax X W (.Subscript e (.Slice lo hi none p2) pos) (mSl f ma ol oh) :=
  deI (de_slice he hl hh) fun E σ S Q ⟨fx, μ, r, p⟩ => by
    unfold mSl at p; rw [post_bind] at p
    refine ⟨fx, μ, r, post_mono (fun x p x0 v => ?_) p⟩
    rw [post_bind] at p
    refine ⟨fx, μ, r, post_mono (fun l p => ?_) p⟩
    rw [post_bind] at p
    refine ⟨fx, μ, r, post_mono (fun h p => ?_) p⟩
    obtain ⟨d, e, q⟩ := post_opt p
    exact hf x x0 l h S d Q v e q
/-! ### calls of defs -/
def spP (C : Str → Addr) (n : Nat) (m : List D → P D) : DSp := fun ds S Q E => ds.length = n ∧ post C E S (fun d => Q d S) (m ds)
theorem xe_has {k n : Nat} {ps : List Str} {m : List D → P D} {x : Str} {p : Pos} (hl : LenIs ml n) (tk : Takes X W) (F : Has X.prog X.w X.K X.mg X.base k x ps (spP C n m)) (hr : Room k X.A) (hg : Gl X x) (ha : XA C ax X W (e :: es) ml) (hd : (x == ("__debug__" : Str)) = false := by decide)
    (hs : starEach (e :: es) X.env = (false, eval e X.env) :: starEach es X.env := by rfl) (hpl : (backTo pos (starEach es X.env)).any (·.1) = false := by rfl) :
    XE C ax X W (.Call (.Name x p) (e :: es) [] pos) (mFn m ml) := deI (de_has tk F hr hg ha hd hs hpl) fun E σ S Q ⟨fx, μ, r, p⟩ => by
  refine ⟨fx, μ, D, _, fun d => Q d S, r, ?_, post_len hl p⟩
  exact fun ds p => len_cut p
end
end KM

set_option maxRecDepth 100000
set_option maxHeartbeats 4000000
/-! Km2: mirrors of statements; expressions that change what a slot holds. -/
namespace KM
open PySem PySem.Spec PyProof.Rows L2 KD
/-- how a statement goes on -/
structure ZM (β : Type) where
  nx : Env → β
  rt : D → Env → β
  bk : Env → β
  ct : Env → β
  ex : Str → Flds → Env → β
  bad : β
abbrev MS := (β : Type) → ZM β → Env → β
abbrev MC := (β : Type) → Env → (D → Env → β) → (Str → Flds → Env → β) → β → β
abbrev MT := (β : Type) → Env → (Bool → Env → β) → (Str → Flds → Env → β) → β → β
structure ZOk (C : Str → Addr) (ax : Ax) (fx : Fx) (Z : DEnds) {β : Type} (z : ZM β) (Φ : β → Prop) : Prop where
  bad : ¬ Φ z.bad
  nx : ∀ μ σ S, Rel ax fx μ σ S → Φ (z.nx μ) → Z.nx σ S
  rt : ∀ d μ σ S, Rel ax fx μ σ S → Φ (z.rt d μ) → Z.rt d S
  bk : ∀ μ σ S, Rel ax fx μ σ S → Φ (z.bk μ) → Z.bk σ S
  ct : ∀ μ σ S, Rel ax fx μ σ S → Φ (z.ct μ) → Z.ct σ S
  ex : ∀ c fs μ σ S, Rel ax fx μ σ S → Φ (z.ex c fs μ) → ∀ p, S p = none → Z.ex (C c) p σ (put S p (.xd fs))
structure KOk (C : Str → Addr) (ax : Ax) (fx : Fx) (E : DEr) (σ : DSt) {α β : Type} (k : α → Env → β) (ex : Str → Flds → Env → β) (b : β) (Q : α → Sto → Prop) (Φ : β → Prop) : Prop where
  bad : ¬ Φ b
  k : ∀ d μ S, Rel ax fx μ σ S → Φ (k d μ) → Q d S
  ex : ∀ c fs μ S, Rel ax fx μ σ S → Φ (ex c fs μ) → ∀ p, S p = none → E (C c) p (put S p (.xd fs))
def rdS (C : Str → Addr) (ax : Ax) (m : MS) : DTS := fun Z σ S => ∃ (fx : Fx) (μ : Env) (β : Type) (z : ZM β) (Φ : β → Prop), Rel ax fx μ σ S ∧ ZOk C ax fx Z z Φ ∧ Φ (m β z μ)
def rdC (C : Str → Addr) (ax : Ax) (m : MC) : DTE := fun E σ S Q => ∃ (fx : Fx) (μ : Env) (β : Type) (k : D → Env → β) (ex : Str → Flds → Env → β) (b : β) (Φ : β → Prop), Rel ax fx μ σ S ∧ KOk C ax fx E σ k ex b Q Φ ∧ Φ (m β μ k ex b)
def rdCT (C : Str → Addr) (ax : Ax) (m : MT) : DTT := fun E σ S Q => ∃ (fx : Fx) (μ : Env) (β : Type) (k : Bool → Env → β) (ex : Str → Flds → Env → β) (b : β) (Φ : β → Prop), Rel ax fx μ σ S ∧ KOk C ax fx E σ k ex b Q Φ ∧ Φ (m β μ k ex b)
def XS (C : Str → Addr) (ax : Ax) (X : Cx) (W : WX) (st : Stmt) (m : MS) : Prop := DS X W st (rdS C ax m)
def XSs (C : Str → Addr) (ax : Ax) (X : Cx) (W : WX) (st : List Stmt) (m : MS) : Prop := DSs X W st (rdS C ax m)
def XC (C : Str → Addr) (ax : Ax) (X : Cx) (W : WX) (e : Expr) (m : MC) : Prop := DE X W e (rdC C ax m)
def XCT (C : Str → Addr) (ax : Ax) (X : Cx) (W : WX) (e : Expr) (m : MT) : Prop := DT X W e (rdCT C ax m)
/-! ### words -/
def gotO {α β : Type} (o : Option α) (k : α → β) (b : β) : β := match o with
  | some a => k a
  | none => b
def setS {β : Type} (i : Nat) (s : SV) (μ : Env) (k : Env → β) (b : β) : β := match freeS false μ[i]? with
  | true => k (μ.set i s)
  | false => b
def mPure (p : Env → P D) : MC := fun β μ k ex b => got (p μ) (fun d _ => k d μ) (fun c fs _ => ex c fs μ) b
def mPureT (p : Env → P Bool) : MT := fun β μ k ex b => got (p μ) (fun d _ => k d μ) (fun c fs _ => ex c fs μ) b
def mOpC (f : D → D → Option D) (a b : MC) : MC := fun β μ k ex bd => a β μ (fun x μ1 => b β μ1 (fun y μ2 => gotO (f x y) (fun d => k d μ2) bd) ex bd) ex bd
def mCmpC (f : D → D → Option Bool) (a b : MC) : MC := fun β μ k ex bd => a β μ (fun x μ1 => b β μ1 (fun y μ2 => gotO (f x y) (fun d => k (.bl d) μ2) bd) ex bd) ex bd
def mCmpT (f : D → D → Option Bool) (a b : MC) : MT := fun β μ k ex bd => a β μ (fun x μ1 => b β μ1 (fun y μ2 => gotO (f x y) (fun d => k d μ2) bd) ex bd) ex bd
def mAndT (a b : MT) : MT := fun β μ k ex bd => a β μ (fun x μ1 => if x then b β μ1 k ex bd else k false μ1) ex bd
def mOrT (a b : MT) : MT := fun β μ k ex bd => a β μ (fun x μ1 => if x then k true μ1 else b β μ1 k ex bd) ex bd
def mNotT (a : MT) : MT := fun β μ k ex bd => a β μ (fun x μ1 => k (!x) μ1) ex bd
def mTruT (f : D → Option Bool) (a : MC) : MT := fun β μ k ex bd => a β μ (fun x μ1 => gotO (f x) (fun d => k d μ1) bd) ex bd
def mIfC (c : MT) (a b : MC) : MC := fun β μ k ex bd => c β μ (fun x μ1 => if x then a β μ1 k ex bd else b β μ1 k ex bd) ex bd
/-! ends of statements -/
def mNx : MS := fun β z μ => z.nx μ
def mNev : MS := fun β z μ => z.bad
def mBk : MS := fun β z μ => z.bk μ
def mCt : MS := fun β z μ => z.ct μ
def mSeq (s t : MS) : MS := fun β z μ => s β ⟨fun μ' => t β z μ', z.rt, z.bk, z.ct, z.ex, z.bad⟩ μ
def mEx (e : MC) : MS := fun β z μ => e β μ (fun _ μ1 => z.nx μ1) z.ex z.bad
def mRt (e : MC) : MS := fun β z μ => e β μ (fun d μ1 => z.rt d μ1) z.ex z.bad
def mRtN : MS := fun β z μ => z.rt .non μ
def mSet (i : Nat) (e : MC) : MS := fun β z μ => e β μ (fun d μ1 => setS i (.v d) μ1 z.nx z.bad) z.ex z.bad
def mSetL (i : Nat) (p : Env → P (List D)) : MS := fun β z μ => got (p μ) (fun xs _ => setS i (.l false xs) μ z.nx z.bad) (fun c fs _ => z.ex c fs μ) z.bad
def mSetK (i : Nat) (p : Env → P (List (Key × D))) : MS := fun β z μ => got (p μ) (fun xs _ => setS i (.k false xs) μ z.nx z.bad) (fun c fs _ => z.ex c fs μ) z.bad
def mIf (c : MT) (s t : MS) : MS := fun β z μ => c β μ (fun x μ1 => if x then s β z μ1 else t β z μ1) z.ex z.bad
/-- a list that may change becomes data -/
def mFrz (i : Nat) (s : MS) : MS := fun β z μ => match μ[i]? with
  | some (.l false xs) => s β z (μ.set i (.v (.lst xs)))
  | _ => z.bad
def mRais (c : Str) (n : Str) (e : MC) : MS := fun β z μ => e β μ (fun d μ1 => z.ex c [(n, d)] μ1) z.ex z.bad
def getL {β : Type} (μ : Env) (i : Nat) (k : Bool → List D → β) (b : β) : β := match μ[i]? with
  | some (.l q xs) => k q xs
  | _ => b
def getK {β : Type} (μ : Env) (i : Nat) (k : Bool → List (Key × D) → β) (b : β) : β := match μ[i]? with
  | some (.k q xs) => k q xs
  | _ => b
def guard {β : Type} (c : Bool) (a b : β) : β := match c with
  | true => a
  | false => b
def sizeB (n : Nat) : Bool := decide (n ≤ 16777216)
def mApp (i : Nat) (e : MC) : MS := fun β z μ => getL μ i (fun _ _ => e β μ (fun d μ1 => getL μ1 i (fun q xs => guard (sizeB (xs.length + 1)) (z.nx (μ1.set i (.l q (xs ++ [d])))) z.bad) z.bad) z.ex z.bad) z.bad
def ixW (n : Nat) : D → Option Nat
  | .int i => ixN n i
  | _ => none
def mSetIx (i : Nat) (j e : MC) : MS := fun β z μ => e β μ (fun d μ1 => getL μ1 i (fun _ _ => j β μ1 (fun y μ2 => getL μ2 i (fun q xs => gotO (ixW xs.length y) (fun n => z.nx (μ2.set i (.l q (xs.set n d)))) z.bad) z.bad) z.ex z.bad) z.bad) z.ex z.bad
/-! ### joined ways and loops -/
inductive B (ε α : Type) where
  | nx (a : α) | bk (a : α) | ct (a : α) | rt (d : D) (s : ε) | er (c : Str) (fs : Flds) (s : ε) | bad
def zB (I J : Js) : ZM (B (T I) (T J)) where
  nx := fun μ => getJ J μ (fun t => .nx t) .bad
  rt := fun d μ => getJ I μ (fun s => .rt d s) .bad
  bk := fun μ => getJ J μ (fun t => .bk t) .bad
  ct := fun μ => getJ J μ (fun t => .ct t) .bad
  ex := fun c fs μ => getJ I μ (fun s => .er c fs s) .bad
  bad := .bad
def outB {ε α β : Type} (o : B ε α) (nx bk ct : α → β) (rt : D → ε → β) (er : Str → Flds → ε → β) (b : β) : β := match o with
  | .nx a => nx a
  | .bk a => bk a
  | .ct a => ct a
  | .rt d s => rt d s
  | .er c fs s => er c fs s
  | .bad => b
def nonI (I J : Js) (K : List Nat) : List Nat := K ++ (ixJ J).filter fun i => !(ixJ I).contains i
def okB (I J : Js) (K : List Nat) (μ : Env) : Bool := freeK (nonI I J K) μ && (freeJ J μ && (freeJ I μ && (ixJ I).all fun i => (ixJ J).contains i || K.contains i))
/-- the ways of s joined: J is what lives on, K what does not, I what the caller sees of what s changes -/
def mJoin (I J : Js) (K : List Nat) (s : MS) : MS := fun β z μ => guard (okB I J K μ)
  (outB (s _ (zB I J) (protN (ixJ J ++ K) 0 μ)) (fun t => z.nx (setJ J t (killK K μ))) (fun t => z.bk (setJ J t (killK K μ))) (fun t => z.ct (setJ J t (killK K μ)))
    (fun d t => z.rt d (setJ I t (killK (nonI I J K) μ))) (fun c fs t => z.ex c fs (setJ I t (killK (nonI I J K) μ))) z.bad) z.bad
def stepB {ε α : Type} (o : B ε α) (go : α → B ε α) : B ε α := match o with
  | .nx a => go a
  | .ct a => go a
  | .bk a => .nx a
  | .rt d s => .rt d s
  | .er c fs s => .er c fs s
  | .bad => .bad
def loopB {ε α : Type} (f : α → D → B ε α) : List D → α → B ε α
  | [], a => .nx a
  | x :: xs, a => stepB (f a x) fun b => loopB f xs b
def whileB {ε α : Type} (c : α → P Bool) (er : Str → Flds → α → B ε α) (f : α → B ε α) : Nat → α → B ε α
  | 0, _ => .bad
  | n + 1, a => got (c a) (fun g _ => if g then stepB (f a) fun b => whileB c er f n b else .nx a) (fun e fs _ => er e fs a) .bad
abbrev MG := (β : Type) → D → Env → (Env → β) → β → β
def headE (J : Js) (K : List Nat) (μ : Env) (t : T J) : Env := setJ J t (killK K (protN (ixJ J ++ K) 0 μ))
def mFor (I J : Js) (K : List Nat) (it : Env → P (List D)) (g : MG) (s : MS) : MS := fun β z μ => guard (okB I J K μ)
  (got (it μ) (fun xs _ => getJ J μ (fun t0 => outB (loopB (fun t x => g _ x (headE J K μ t) (fun μ' => s _ (zB I J) μ') .bad) xs t0)
      (fun t => z.nx (setJ J t (killK K μ))) (fun t => z.bk (setJ J t (killK K μ))) (fun t => z.ct (setJ J t (killK K μ)))
      (fun d t => z.rt d (setJ I t (killK (nonI I J K) μ))) (fun c fs t => z.ex c fs (setJ I t (killK (nonI I J K) μ))) z.bad) z.bad) (fun c fs _ => z.ex c fs μ) z.bad) z.bad
def fuelN : Nat := 1000000
def mWhile (I J : Js) (K : List Nat) (c : Env → P Bool) (s : MS) : MS := fun β z μ => guard (okB I J K μ)
  (getJ J μ (fun t0 => outB (whileB (fun t => c (headE J K μ t)) (fun e fs t => getJ I (headE J K μ t) (fun u => .er e fs u) .bad) (fun t => s _ (zB I J) (headE J K μ t)) fuelN t0)
      (fun t => z.nx (setJ J t (killK K μ))) (fun t => z.bk (setJ J t (killK K μ))) (fun t => z.ct (setJ J t (killK K μ)))
      (fun d t => z.rt d (setJ I t (killK (nonI I J K) μ))) (fun c fs t => z.ex c fs (setJ I t (killK (nonI I J K) μ))) z.bad) z.bad) z.bad
def mGName (i : Nat) : MG := fun β d μ k b => setS i (.v d) μ k b
/-! ### rules -/
section
variable {C : Str → Addr} {ax : Ax} {X : Cx} {W : WX} {a b c e : Expr} {ma mb mc : MC} {na nb : MT} {pos : Pos} {st : Stmt} {rest : List Stmt} {s t : MS}
theorem gotO_ok {α β : Type} {o : Option α} {k : α → β} {b : β} {Φ : β → Prop} (h : Φ (gotO o k b)) (hb : ¬ Φ b) : ∃ a, o = some a ∧ Φ (k a) := by
  cases o with
  | none => exact absurd h hb
  | some a => exact ⟨a, rfl, h⟩
theorem setS_ok {β : Type} {i : Nat} {s : SV} {μ : Env} {k : Env → β} {b : β} {Φ : β → Prop} (h : Φ (setS i s μ k b)) (hb : ¬ Φ b) : Φ (k (μ.set i s)) ∧ ∃ u, μ[i]? = some u ∧ (∀ t, μ[i]? ≠ some (.p t)) ∧ u.own = false := by
  unfold setS at h
  cases f : freeS false μ[i]? with
  | false => rw [f] at h; exact absurd h hb
  | true =>
    rw [f] at h
    obtain ⟨u, h1, h2, h3⟩ := freeS_ok f
    exact ⟨h, u, h1, fun t z => h2 t (Option.some.inj (h1.symm.trans z)), h3⟩
theorem guard_ok {β : Type} {c : Bool} {a b : β} {Φ : β → Prop} (h : Φ (guard c a b)) (hb : ¬ Φ b) : c = true ∧ Φ a := by
  cases c with
  | true => exact ⟨rfl, h⟩
  | false => exact absurd h hb
theorem getL_ok {β : Type} {μ : Env} {i : Nat} {k : Bool → List D → β} {b : β} {Φ : β → Prop} (h : Φ (getL μ i k b)) (hb : ¬ Φ b) : ∃ q xs, μ[i]? = some (.l q xs) ∧ Φ (k q xs) := by
  unfold getL at h
  split at h
  · exact ⟨_, _, by assumption, h⟩
  · exact absurd h hb
theorem getK_ok {β : Type} {μ : Env} {i : Nat} {k : Bool → List (Key × D) → β} {b : β} {Φ : β → Prop} (h : Φ (getK μ i k b)) (hb : ¬ Φ b) : ∃ q xs, μ[i]? = some (.k q xs) ∧ Φ (k q xs) := by
  unfold getK at h
  split at h
  · exact ⟨_, _, by assumption, h⟩
  · exact absurd h hb
section
variable {α β : Type} {fx : Fx} {E : DEr} {σ : DSt} {S : Sto} {μ : Env} {k : α → Env → β} {ex : Str → Flds → Env → β} {bd : β} {Q : α → Sto → Prop} {Φ : β → Prop}
theorem got_ok {m : P α} (h : Φ (got m (fun d _ => k d μ) (fun c fs _ => ex c fs μ) bd)) (r : Rel ax fx μ σ S) (z : KOk C ax fx E σ k ex bd Q Φ) : post C E S (fun d => Φ (k d μ)) m := by
  cases m with
  | ok d s => exact h
  | er c fs s => exact z.ex c fs μ S r h
  | bad => exact absurd h z.bad
theorem KOk.to {α' : Type} {k' : α' → Env → β} {Q' : α' → Sto → Prop} (z : KOk C ax fx E σ k ex bd Q Φ) (h : ∀ d μ S, Rel ax fx μ σ S → Φ (k' d μ) → Q' d S) : KOk C ax fx E σ k' ex bd Q' Φ := ⟨z.bad, h, z.ex⟩
theorem ZOk.kok {Z : DEnds} {z : ZM β} (o : ZOk C ax fx Z z Φ) (h : ∀ d μ S, Rel ax fx μ σ S → Φ (k d μ) → Q d S) : KOk C ax fx (exOf Z σ) σ k z.ex z.bad Q Φ := ⟨o.bad, h, fun c fs μ S r h p hp => o.ex c fs μ σ S r h p hp⟩
end
theorem xc_p {m : Env → P D} (h : XE C ax X W e m) : XC C ax X W e (mPure m) := deI h fun E σ S Q ⟨fx, μ, β, k, ex, bd, Φ, r, z, h⟩ => ⟨fx, μ, r, post_mono (fun d q => z.k d μ S r q) (got_ok h r z)⟩
theorem xct_p {m : Env → P Bool} (h : XT C ax X W e m) : XCT C ax X W e (mPureT m) := dtI h fun E σ S Q ⟨fx, μ, β, k, ex, bd, Φ, r, z, h⟩ => ⟨fx, μ, r, post_mono (fun d q => z.k d μ S r q) (got_ok h r z)⟩
theorem xc_op {op : Operator} {q : D → D → Sto → DK → Prop} {f : D → D → Option D} (ho : DOp X (binaryOp op) q) (hf : OpOk q f) (ha : XC C ax X W a ma) (hb : XC C ax X W b mb) : XC C ax X W (.BinOp a op b pos) (mOpC f ma mb) :=
  deI (de_op ho ha hb) fun E σ S Q ⟨fx, μ, β, k, ex, bd, Φ, r, z, h⟩ => ⟨fx, μ, β, _, ex, bd, Φ, r, z.to fun x μ1 S1 r1 h1 => ⟨fx, μ1, β, _, ex, bd, Φ, r1, z.to fun y μ2 S2 r2 h2 => by
    obtain ⟨d, e, h⟩ := gotO_ok h2 z.bad
    exact hf x y x y S2 d Q (.inl rfl) (.inl rfl) e (z.k d μ2 S2 r2 h), h1⟩, h⟩
theorem xc_ix {q : D → D → Sto → DK → Prop} {f : D → D → Option D} (ho : DIx X q) (hf : OpOk q f) (ha : XC C ax X W a ma) (hb : XC C ax X W b mb) (hs : PlainIx b := by exact fun _ _ => rfl) : XC C ax X W (.Subscript a b pos) (mOpC f ma mb) :=
  deI (de_ix ho ha hb hs) fun E σ S Q ⟨fx, μ, β, k, ex, bd, Φ, r, z, h⟩ => ⟨fx, μ, β, _, ex, bd, Φ, r, z.to fun x μ1 S1 r1 h1 => ⟨fx, μ1, β, _, ex, bd, Φ, r1, z.to fun y μ2 S2 r2 h2 => by
    obtain ⟨d, e, h⟩ := gotO_ok h2 z.bad
    exact hf x y x y S2 d Q (.inl rfl) (.inl rfl) e (z.k d μ2 S2 r2 h), h1⟩, h⟩
theorem xc_cmp {op : CmpOp} {q : D → D → Sto → DK → Prop} {f : D → D → Option Bool} (ho : DOp X (compareOp op) q) (hf : CmOk q f) (ha : XC C ax X W a ma) (hb : XC C ax X W b mb) (hm : behindInMarks op b = false := by first | exact nomark _ | rfl) : XC C ax X W (.Compare a [op] [b] pos) (mCmpC f ma mb) :=
  deI (de_cmp ho ha hb hm) fun E σ S Q ⟨fx, μ, β, k, ex, bd, Φ, r, z, h⟩ => ⟨fx, μ, β, _, ex, bd, Φ, r, z.to fun x μ1 S1 r1 h1 => ⟨fx, μ1, β, _, ex, bd, Φ, r1, z.to fun y μ2 S2 r2 h2 => by
    obtain ⟨d, e, h⟩ := gotO_ok h2 z.bad
    exact hf x y x y S2 d Q (.inl rfl) (.inl rfl) e (z.k _ μ2 S2 r2 h), h1⟩, h⟩
theorem xct_cmp {op : CmpOp} {q : D → D → Sto → DK → Prop} {f : D → D → Option Bool} (ho : DOp X (compareOp op) q) (hf : CmOk q f) (ha : XC C ax X W a ma) (hb : XC C ax X W b mb) (hm : behindInMarks op b = false := by first | exact nomark _ | rfl) : XCT C ax X W (.Compare a [op] [b] pos) (mCmpT f ma mb) :=
  dtI (dt_cmp ho ha hb hm) fun E σ S Q ⟨fx, μ, β, k, ex, bd, Φ, r, z, h⟩ => ⟨fx, μ, β, _, ex, bd, Φ, r, z.to fun x μ1 S1 r1 h1 => ⟨fx, μ1, β, _, ex, bd, Φ, r1, z.to fun y μ2 S2 r2 h2 => by
    obtain ⟨d, e, h⟩ := gotO_ok h2 z.bad
    exact hf x y x y S2 d _ (.inl rfl) (.inl rfl) e (z.k _ μ2 S2 r2 h), h1⟩, h⟩
theorem xct_tru {f : D → Option Bool} (hf : TrOk f) (h : XC C ax X W e ma) (he : ∀ whole, isTrue e X.env whole = (do let v ← whole; standAt e.pos; holding [v] (truthy v)) := by intro _; rfl) : XCT C ax X W e (mTruT f ma) := dtI (dt_truth h he) fun E σ S Q ⟨fx, μ, β, k, ex, bd, Φ, r, z, h⟩ =>
  ⟨fx, μ, β, _, ex, bd, Φ, r, z.to fun x μ1 S1 r1 h1 => by
    obtain ⟨d, e, h⟩ := gotO_ok h1 z.bad
    exact hf x x S1 d Q (.inl rfl) e (z.k d μ1 S1 r1 h), h⟩
theorem xct_not (ha : XCT C ax X W a na) : XCT C ax X W (.UnaryOp .Not a pos) (mNotT na) := dtI (dt_not ha) fun E σ S Q ⟨fx, μ, β, k, ex, bd, Φ, r, z, h⟩ => ⟨fx, μ, β, _, ex, bd, Φ, r, z.to fun x μ1 S1 r1 h1 => z.k _ μ1 S1 r1 h1, h⟩
theorem xc_ifE (hc : XCT C ax X W c na) (ha : XC C ax X W a ma) (hb : XC C ax X W b mb) : XC C ax X W (.IfExp c a b pos) (mIfC na ma mb) := deI (de_ifE hc ha hb) fun E σ S Q ⟨fx, μ, β, k, ex, bd, Φ, r, z, h⟩ =>
  ⟨fx, μ, β, _, ex, bd, Φ, r, z.to fun x μ1 S1 r1 h1 => by
    cases x with
    | true => rw [if_pos rfl] at h1 ⊢; exact ⟨fx, μ1, β, k, ex, bd, Φ, r1, z, h1⟩
    | false => rw [if_neg Bool.false_ne_true] at h1 ⊢; exact ⟨fx, μ1, β, k, ex, bd, Φ, r1, z, h1⟩, h⟩
def XCW (C : Str → Addr) (ax : Ax) (X : Cx) (W : WX) (e : Expr) (m : MT) : Prop := DW X W e (rdCT C ax m)
theorem xcw_t (h : XCW C ax X W e na) : XCT C ax X W e na := h.dt
theorem xcw_and1 (h : XCT C ax X W a na) : XCW C ax X W (.BoolOp .And [a] pos) na := dw_and1 h
theorem xcw_or1 (h : XCT C ax X W a na) : XCW C ax X W (.BoolOp .Or [a] pos) na := dw_or1 h
theorem xcw_and {rest : List Expr} (ha : XCT C ax X W a na) (hb : XCW C ax X W (.BoolOp .And (b :: rest) pos) nb) : XCW C ax X W (.BoolOp .And (a :: b :: rest) pos) (mAndT na nb) := dwI (dw_and ha hb) fun E σ S Q ⟨fx, μ, β, k, ex, bd, Φ, r, z, h⟩ =>
  ⟨fx, μ, β, _, ex, bd, Φ, r, z.to fun x μ1 S1 r1 h1 => by
    cases x with
    | true => rw [if_pos rfl] at h1 ⊢; exact ⟨fx, μ1, β, k, ex, bd, Φ, r1, z, h1⟩
    | false => rw [if_neg Bool.false_ne_true] at h1 ⊢; exact z.k _ μ1 S1 r1 h1, h⟩
theorem xcw_or {rest : List Expr} (ha : XCT C ax X W a na) (hb : XCW C ax X W (.BoolOp .Or (b :: rest) pos) nb) : XCW C ax X W (.BoolOp .Or (a :: b :: rest) pos) (mOrT na nb) := dwI (dw_or ha hb) fun E σ S Q ⟨fx, μ, β, k, ex, bd, Φ, r, z, h⟩ =>
  ⟨fx, μ, β, _, ex, bd, Φ, r, z.to fun x μ1 S1 r1 h1 => by
    cases x with
    | true => rw [if_pos rfl] at h1 ⊢; exact z.k _ μ1 S1 r1 h1
    | false => rw [if_neg Bool.false_ne_true] at h1 ⊢; exact ⟨fx, μ1, β, k, ex, bd, Φ, r1, z, h1⟩, h⟩
/-! statements -/
theorem xs_pass : XS C ax X W (.Pass pos) mNx := dsI ds_pass fun Z σ S ⟨fx, μ, β, z, Φ, r, o, h⟩ => o.nx μ σ S r h
theorem xs_break : XS C ax X W (.Break pos) mBk := dsI ds_break fun Z σ S ⟨fx, μ, β, z, Φ, r, o, h⟩ => o.bk μ σ S r h
theorem xs_continue : XS C ax X W (.Continue pos) mCt := dsI ds_continue fun Z σ S ⟨fx, μ, β, z, Φ, r, o, h⟩ => o.ct μ σ S r h
theorem xs_never : XS C ax X W st mNev := dsI ds_never fun Z σ S ⟨fx, μ, β, z, Φ, r, o, h⟩ => o.bad h
theorem xss_nil : XSs C ax X W [] mNx := dssI dss_nil fun Z σ S ⟨fx, μ, β, z, Φ, r, o, h⟩ => o.nx μ σ S r h
theorem xss_one (h : XS C ax X W st s) : XSs C ax X W [st] s := dss_one h
theorem xss_cons (h1 : XS C ax X W st s) (h2 : XSs C ax X W rest t) : XSs C ax X W (st :: rest) (mSeq s t) := dssI (dss_cons h1 h2) fun Z σ S ⟨fx, μ, β, z, Φ, r, o, h⟩ =>
  ⟨fx, μ, β, ⟨fun μ' => t β z μ', z.rt, z.bk, z.ct, z.ex, z.bad⟩, Φ, r, ⟨o.bad, fun μ1 σ1 S1 r1 (h1 : Φ (t β z μ1)) => ⟨fx, μ1, β, z, Φ, r1, o, h1⟩, o.rt, o.bk, o.ct, o.ex⟩, h⟩
theorem xs_expr (h : XC C ax X W e ma) (hs : swapsWith e none pos.line X.env = pure false := by rfl) : XS C ax X W (.Expr e pos) (mEx ma) := dsI (ds_expr h hs) fun Z σ S ⟨fx, μ, β, z, Φ, r, o, h⟩ =>
  ⟨fx, μ, β, _, z.ex, z.bad, Φ, r, o.kok fun d μ1 S1 r1 h1 => o.nx μ1 σ S1 r1 h1, h⟩
theorem xs_ret (h : XC C ax X W e ma) : XS C ax X W (.Return (some e) pos) (mRt ma) := dsI (ds_ret h) fun Z σ S ⟨fx, μ, β, z, Φ, r, o, h⟩ =>
  ⟨fx, μ, β, _, z.ex, z.bad, Φ, r, o.kok fun d μ1 S1 r1 h1 => o.rt d μ1 σ S1 r1 h1, h⟩
theorem xs_retN : XS C ax X W (.Return none pos) mRtN := dsI ds_retN fun Z σ S ⟨fx, μ, β, z, Φ, r, o, h⟩ => o.rt .non μ σ S r h
theorem xs_if {as bs : List Stmt} (hc : XCT C ax X W c na) (ha : XSs C ax X W as s) (hb : XSs C ax X W bs t) : XS C ax X W (.If c as bs pos) (mIf na s t) := dsI (ds_if hc ha hb) fun Z σ S ⟨fx, μ, β, z, Φ, r, o, h⟩ =>
  ⟨fx, μ, β, _, z.ex, z.bad, Φ, r, o.kok fun x μ1 S1 r1 h1 => by
    cases x with
    | true => rw [if_pos rfl] at h1 ⊢; exact ⟨fx, μ1, β, z, Φ, r1, o, h1⟩
    | false => rw [if_neg Bool.false_ne_true] at h1 ⊢; exact ⟨fx, μ1, β, z, Φ, r1, o, h1⟩, h⟩
/-- a statement that sets a slot -/
theorem xs_set {i : Nat} (h : DS X W st (dAsg (rdC C ax ma) (dgName i))) : XS C ax X W st (mSet i ma) := dsI h fun Z σ S ⟨fx, μ, β, z, Φ, r, o, h⟩ =>
  ⟨fx, μ, β, _, z.ex, z.bad, Φ, r, o.kok fun d μ1 S1 r1 h1 => by
    obtain ⟨h, u, h2, h3, h4⟩ := setS_ok h1 o.bad
    exact o.nx _ _ S1 (r1.setV d h3 h2 h4) h, h⟩
theorem xs_setL {i : Nat} {p : Env → P (List D)} (h : DS X W st (dAsg (rdF C ax p) (dgName i))) : XS C ax X W st (mSetL i p) := dsI h fun Z σ S ⟨fx, μ, β, z, Φ, r, o, h⟩ =>
  ⟨fx, μ, r, post_mono (fun xs h1 q hq => by
    obtain ⟨h, u, h2, h3, h4⟩ := setS_ok h1 o.bad
    exact o.nx _ _ _ (r.newL hq xs h3 h2 h4) h) (got_ok (k := fun xs μ => setS i (.l false xs) μ z.nx z.bad) h r (o.kok (Q := fun _ _ => True) fun _ _ _ _ _ => trivial))⟩
theorem xs_setK {i : Nat} {p : Env → P (List (Key × D))} (h : DS X W st (dAsg (rdG C ax p) (dgName i))) : XS C ax X W st (mSetK i p) := dsI h fun Z σ S ⟨fx, μ, β, z, Φ, r, o, h⟩ =>
  ⟨fx, μ, r, post_mono (fun xs h1 q hq => by
    obtain ⟨h, u, h2, h3, h4⟩ := setS_ok h1 o.bad
    exact o.nx _ _ _ (r.newK hq xs h3 h2 h4) h) (got_ok (k := fun xs μ => setS i (.k false xs) μ z.nx z.bad) h r (o.kok (Q := fun _ _ => True) fun _ _ _ _ _ => trivial))⟩
theorem xss_frz (i : Nat) (h : XSs C ax X W rest s) : XSs C ax X W rest (mFrz i s) := dssI (ds_frzS i h) fun Z σ S ⟨fx, μ, β, z, Φ, r, o, h⟩ => by
  unfold mFrz at h
  split at h
  · rename_i xs hx
    obtain ⟨p, h1, h2, _, h3⟩ := r.getL hx
    exact ⟨p, xs, h1, h2, fx, _, β, z, Φ, h3 rfl, o, h⟩
  · exact absurd h o.bad
theorem xs_raise1 {x n : Str} {p p2 : Pos} (hc : X.calm = true) (tk : Takes X W) (E : ErrC X.K X.mg X.prog X.w X.base x (C x) n [] []) (hr : Room 2 X.A) (hg : Gl X x) (ha : XC C ax X W e ma) (hdb : (x == ("__debug__" : Str)) = false := by decide)
    (hs : starEach [e] X.env = (false, eval e X.env) :: starEach [] X.env := by rfl) (hpl : (backTo pos (starEach [] X.env)).any (·.1) = false := by rfl) : XS C ax X W (.Raise (some (.Call (.Name x p) [e] [] pos)) none p2) (mRais x n ma) :=
  dsI (ds_raise1 hc tk E hr hg (da_cons ha da_nil hs) hdb hs hpl) fun Z σ S ⟨fx, μ, β, z, Φ, r, o, h⟩ => ⟨fx, μ, β, _, z.ex, z.bad, Φ, r, o.kok fun d μ1 S1 r1 h1 p hp => o.ex x _ μ1 σ S1 r1 h1 p hp, h⟩
/-! lists that change -/
theorem size_dec {n : Nat} (h : sizeB n = true) : n ≤ sizeLine := size_ok (of_decide_eq_true h)
theorem xs_app {i : Nat} {o : Expr} {apos cpos : Pos} (ho : DE X W o (dVar i)) (he : XC C ax X W e ma) (hbase : attributeBase o "append" X.env (eval o X.env) = eval o X.env := by rfl)
    (hfew : ((backTo cpos (starEach [e] X.env)).all (fun x => !x.1) && (backToKw cpos (keywordEach [] X.env)).all (fun x => x.1.isSome)
      && decide (([e] : List Expr).length + ([] : List Keyword).length + (if ([] : List Keyword).isEmpty then 0 else 1) < 30)) = true := by rfl)
    (hline : (apos.endLine == cpos.line) = true := by rfl) (hs1 : starEach [e] X.env = (false, eval e X.env) :: starEach [] X.env := by rfl) (hplain : (backTo cpos (starEach [] X.env)).any (·.1) = false := by rfl)
    (hs : swapsWith (.Call (.Attribute o "append" apos) [e] [] cpos) none pos.line X.env = pure false := by rfl) : XS C ax X W (.Expr (.Call (.Attribute o "append" apos) [e] [] cpos) pos) (mApp i ma) :=
  dsI (ds_expr (de_append ho he hbase hfew hline hs1 hplain) hs) fun Z σ S ⟨fx, μ, β, z, Φ, r, o, h⟩ => by
    obtain ⟨q, xs, hx, h⟩ := getL_ok h o.bad
    obtain ⟨p, hσ, hS, _, _⟩ := r.getL hx
    unfold dDrop dBM dVar
    simp only [hσ]
    refine ⟨by rw [vw_l hS]; rfl, fx, μ, β, _, z.ex, z.bad, Φ, r, o.kok fun d μ1 S1 r1 h1 => ?_, h⟩
    obtain ⟨q1, xs1, hx1, h1⟩ := getL_ok h1 o.bad
    obtain ⟨hz, h1⟩ := guard_ok h1 o.bad
    obtain ⟨p1, hσ1, hS1, hch, _⟩ := r1.getL hx1
    rw [hσ] at hσ1
    cases hσ1
    exact ⟨xs1, hS1, size_dec hz, o.nx _ σ _ (hch _) h1⟩
theorem xs_setIx {i : Nat} {o j : Expr} {p2 : Pos} (ho : DE X W o (dVar i)) (hj : XC C ax X W j mb) (he : XC C ax X W e ma) (hs : swapsWithSole [.Subscript o j p2] e pos.line X.env = pure false := by rfl) (hw : swappedStores [.Subscript o j p2] e X.env = pure none := by rfl)
    (ha : ∀ v, assign (.Subscript o j p2) X.env v = (do
      let ov ← holding [v] (eval o X.env)
      let iv ← holding [v, ov] (eval j X.env)
      standAt p2
      holding [v, ov, iv] (setItem ov iv v)
      release [v, ov, iv] []) := by intro _; rfl) : XS C ax X W (.Assign [.Subscript o j p2] e pos) (mSetIx i mb ma) := dsI (ds_setIx ho hj he hs hw ha) fun Z σ S ⟨fx, μ, β, z, Φ, r, o, h⟩ =>
  ⟨fx, μ, β, _, z.ex, z.bad, Φ, r, o.kok fun d μ1 S1 r1 h1 => by
    obtain ⟨q0, xs0, hx0, h1⟩ := getL_ok h1 o.bad
    obtain ⟨p, hσ, hS, _, _⟩ := r1.getL hx0
    show dVar i _ σ S1 _
    unfold dVar; rw [hσ]
    refine ⟨fx, μ1, β, _, z.ex, z.bad, Φ, r1, o.kok fun y μ2 S2 r2 h2 => ?_, h1⟩
    obtain ⟨q2, xs2, hx2, h2⟩ := getL_ok h2 o.bad
    obtain ⟨n, e, h4⟩ := gotO_ok h2 o.bad
    obtain ⟨p2, hσ2, hS2, hch, _⟩ := r2.getL hx2
    rw [hσ] at hσ2
    cases hσ2
    cases y <;> simp only [ixW, reduceCtorEq] at e
    exact ⟨p, xs2, _, n, rfl, rfl, hS2, e, o.nx _ σ _ (hch _) h4⟩, h⟩
/-! joined ways, loops -/
theorem freeK_app {K M : List Nat} {μ : Env} (h : freeK (K ++ M) μ = true) : freeK K μ = true := by
  induction K with
  | nil => rfl
  | cons i r ih =>
    rw [List.cons_append, freeK, Bool.and_eq_true] at h
    rw [freeK, Bool.and_eq_true]; exact ⟨h.1, ih h.2⟩
structure OkB (I J : Js) (K : List Nat) (μ : Env) : Prop where
  m : freeK (nonI I J K) μ = true
  k : freeK K μ = true
  j : freeJ J μ = true
  i : freeJ I μ = true
  sub : ∀ i ∈ ixJ I, i ∈ ixJ J ++ K
theorem okB_ok {I J : Js} {K : List Nat} {μ : Env} (h : okB I J K μ = true) : OkB I J K μ := by
  unfold okB at h
  rw [Bool.and_eq_true, Bool.and_eq_true, Bool.and_eq_true, List.all_eq_true] at h
  obtain ⟨h1, h2, h3, h4⟩ := h
  refine ⟨h1, freeK_app h1, h2, h3, fun i hi => ?_⟩
  have := h4 i hi
  rw [Bool.or_eq_true] at this
  rw [List.mem_append]
  rcases this with h | h
  · exact .inl (by simpa using h)
  · exact .inr (by simpa using h)
section
variable {fx : Fx} {I J : Js} {K : List Nat} {μ μ' : Env} {σ σ' : DSt} {S S' : Sto}
theorem OkB.ix (h : OkB I J K μ) : ∀ i ∈ ixJ J ++ K, ∀ t : SV, μ[i]? ≠ some (.p t) := fun i hi t z => by
  have key : ∃ s, μ[i]? = some s ∧ ∀ t, s ≠ .p t := by
    rcases List.mem_append.mp hi with hi | hi
    · exact freeJ_ok h.j i hi
    · obtain ⟨s, q, w, _⟩ := freeK_ok h.k i hi
      exact ⟨s, q, w⟩
  obtain ⟨s, q, w⟩ := key
  rw [z] at q; cases q; exact w _ rfl
/-- what a state tells of the slots behind -/
def Told (L : Js) (t : T L) (μ' : Env) : Prop := ∀ (ν : Env) (i : Nat) (s : SV), ν.length = μ'.length → (setJ L t ν)[i]? = some s → (i ∉ ixJ L ∧ ν[i]? = some s) ∨ μ'[i]? = some s
/-- out of the part, by what lives on -/
theorem Rel.outJ (r : Rel ax fx μ σ S) (ok : OkB I J K μ) (r' : Rel ax (fx.inn (ixJ J ++ K) μ) μ' σ' S') {L : Js} {M : List Nat} {t : T L} (hL : Told L t μ')
    (h1 : ∀ i, i ∈ ixJ J ++ K ↔ i ∈ ixJ L ++ M) (hLf : freeJ L μ = true) (hM : freeK M μ = true) : Rel ax fx (setJ L t (killK M μ)) σ' S' := by
  have hlen : (killK M μ).length = μ'.length := by
    obtain ⟨A, a⟩ := r
    obtain ⟨A', a'⟩ := r'
    rw [kill_len, a.lenμ, a'.lenμ]; rfl
  refine r.out ok.ix r' (setJ_len.trans kill_len) (fun i s e => ?_) (fun i hi => ?_) (setJ_own hLf (kill_own hM))
  · rcases hL _ i s hlen e with ⟨c, e⟩ | e
    · rcases kill_get e with e | ⟨c', e⟩
      · exact .inl e
      · refine .inr (.inl ⟨fun z => ?_, e⟩)
        rcases List.mem_append.mp ((h1 i).mp z) with z | z
        · exact c z
        · exact c' z
    · exact .inr (.inr e)
  · have hi' : i ∉ ixJ L ++ M := fun z => hi ((h1 i).mpr z)
    rw [List.mem_append, not_or] at hi'
    rw [setJ_ne hi'.1, kill_ne hi'.2]
theorem Rel.outN (r : Rel ax fx μ σ S) (ok : OkB I J K μ) (r' : Rel ax (fx.inn (ixJ J ++ K) μ) μ' σ' S') {t : T J} (hL : Told J t μ') : Rel ax fx (setJ J t (killK K μ)) σ' S' := r.outJ ok r' hL (fun _ => .rfl) ok.j ok.k
theorem Rel.outI (r : Rel ax fx μ σ S) (ok : OkB I J K μ) (r' : Rel ax (fx.inn (ixJ J ++ K) μ) μ' σ' S') {t : T I} (hL : Told I t μ') : Rel ax fx (setJ I t (killK (nonI I J K) μ)) σ' S' := r.outJ ok r' hL (fun i => by
  unfold nonI
  constructor
  · intro h
    rcases List.mem_append.mp h with h | h
    · by_cases c : i ∈ ixJ I
      · exact List.mem_append_left _ c
      · exact List.mem_append_right _ (List.mem_append_right _ (List.mem_filter.mpr ⟨h, by simpa using c⟩))
    · exact List.mem_append_right _ (List.mem_append_left _ h)
  · intro h
    rcases List.mem_append.mp h with h | h
    · exact ok.sub i h
    · rcases List.mem_append.mp h with h | h
      · exact List.mem_append_right _ h
      · exact List.mem_append_left _ (List.mem_filter.mp h).1) ok.i ok.m
theorem setJ_in : ∀ {L : Js} {t : T L} {μ ν : Env} {i : Nat}, i ∈ ixJ L → ν.length = μ.length → (setJ L t ν)[i]? = (setJ L t μ)[i]?
  | (j, m) :: r, t, μ, ν, i, h, hl => by
    by_cases c : i ∈ ixJ r
    · rw [setJ, setJ]; exact setJ_in (L := r) c (by rw [List.length_set, List.length_set, hl])
    · have e : i = j := by
        rcases List.mem_cons.mp h with h | h
        · exact h
        · exact absurd h c
      subst e
      rw [setJ, setJ, setJ_ne c, setJ_ne c]
      by_cases l : i < μ.length
      · rw [List.getElem?_set_self l, List.getElem?_set_self (by rw [hl]; exact l)]
      · rw [List.getElem?_eq_none (by rw [List.length_set]; omega), List.getElem?_eq_none (by rw [List.length_set]; omega)]
theorem told_self {L : Js} {t : T L} {μ : Env} : Told L t (setJ L t μ) := fun ν i s hl e => by
  by_cases c : i ∈ ixJ L
  · refine .inr ?_
    rw [← setJ_in c (hl.trans setJ_len)]; exact e
  · rw [setJ_ne c] at e; exact .inl ⟨c, e⟩
theorem told_get {L : Js} {t : T L} (h : ∀ ν i s, (setJ L t ν)[i]? = some s → (i ∉ ixJ L ∧ ν[i]? = some s) ∨ μ'[i]? = some s) : Told L t μ' := fun ν i s _ e => h ν i s e
/-- the next turn's slots -/
theorem Rel.head (r : Rel ax fx μ σ S) (ok : OkB I J K μ) (r' : Rel ax (fx.inn (ixJ J ++ K) μ) μ' σ' S') {t : T J} (hL : Told J t μ') : Rel ax (fx.inn (ixJ J ++ K) μ) (headE J K μ t) σ' S' := by
  obtain ⟨A, a⟩ := r
  obtain ⟨A', a'⟩ := r'
  have pn : ∀ i, i ∉ ixJ J ++ K → (headE J K μ t)[i]? = (protN (ixJ J ++ K) 0 μ)[i]? := fun i hi => by
    rw [List.mem_append, not_or] at hi
    unfold headE; rw [setJ_ne hi.1, kill_ne hi.2]
  have hlen : (killK K (protN (ixJ J ++ K) 0 μ)).length = μ'.length := by rw [kill_len, prot_len, a.lenμ, a'.lenμ]; rfl
  have hq : ∀ (i : Nat) (s : SV), μ[i]? = some s → s.own = true → ∃ u : SV, (headE J K μ t)[i]? = some u ∧ u.own = true := by
    refine setJ_own ok.j fun i s hs ho => ?_
    by_cases c : i ∈ K
    · obtain ⟨s', f1, _, f3⟩ := freeK_ok ok.k i c
      rw [hs] at f1; cases f1; rw [ho] at f3; cases f3
    · rw [kill_ne c, prot_get, hs]
      refine ⟨_, rfl, ?_⟩
      dsimp only
      split
      · exact ho
      · rw [core_own, core_prot, ← core_own]; exact ho
  refine ⟨A', a'.mix rfl rfl rfl (fun i p e => let ⟨_, s, e, f⟩ := a.io i p e; hq i s e f) ((setJ_len.trans (kill_len.trans prot_len)).trans a.lenμ) (fun i s e => ?_) fun i s e => ?_⟩
  · rcases hL _ i s hlen e with ⟨c, e⟩ | e
    · rcases kill_get e with e | ⟨c', e⟩
      · exact .inl e
      · have e2 := e
        rw [prot_get] at e
        rcases f : μ[i]? with _ | u
        · rw [f] at e; cases e
        · rw [f] at e
          have hc : (ixJ J ++ K).contains (0 + i) = false := by
            rw [Nat.zero_add]; simp [c, c']
          simp only [Option.map_some, hc, Option.some.injEq] at e
          subst e
          have key : ∀ w, u.prot = .p w → ∃ s', μ'[i]? = some s' ∧ s'.core = u.prot.core := fun w hw => ⟨.p w, a'.fr i w (by simp only [Fx.inn, e2]; simp [hw]), by rw [hw]⟩
          cases u with
          | un => exact .inl rfl
          | v d => exact .inr (key _ rfl)
          | l q d => exact .inr (key _ rfl)
          | k q d => exact .inr (key _ rfl)
          | x c fs => exact .inr (key _ rfl)
          | p t => exact .inr (key _ rfl)
    · exact .inr ⟨s, e, rfl⟩
  · have hi : i ∉ ixJ J ++ K := fun z => by
      simp only [Fx.inn] at e
      split at e
      · rename_i w f
        rw [prot_get] at f
        rcases g : μ[i]? with _ | u
        · rw [g] at f; cases f
        · rw [g] at f
          have hc : (ixJ J ++ K).contains (0 + i) = true := by rw [Nat.zero_add]; simpa using z
          simp only [Option.map_some, hc, if_true, Option.some.injEq] at f
          exact ok.ix i z w (by rw [g, f])
      · cases e
    rw [pn i hi]
    simp only [Fx.inn] at e
    split at e
    · cases e; assumption
    · cases e
end
theorem xs_join {I J : Js} {K : List Nat} (h : XS C ax X W st s) : XS C ax X W st (mJoin I J K s) := dsI h fun Z σ S ⟨fx, μ, β, z, Φ, r, o, h⟩ => by
  obtain ⟨hf, h⟩ := guard_ok h o.bad
  have ok := okB_ok hf
  let Φ0 : B (T I) (T J) → Prop := fun b => Φ (outB b (fun t => z.nx (setJ J t (killK K μ))) (fun t => z.bk (setJ J t (killK K μ))) (fun t => z.ct (setJ J t (killK K μ)))
    (fun d t => z.rt d (setJ I t (killK (nonI I J K) μ))) (fun c fs t => z.ex c fs (setJ I t (killK (nonI I J K) μ))) z.bad)
  refine ⟨_, _, _, zB I J, Φ0, r.inn (ixJ J ++ K), ⟨o.bad, ?_, ?_, ?_, ?_, ?_⟩, h⟩
  · intro μ' σ' S' r' h'
    obtain ⟨t, h', q⟩ := getJ_ok (Φ := Φ0) h' o.bad
    exact o.nx _ σ' S' (r.outN ok r' (told_get q)) h'
  · intro d μ' σ' S' r' h'
    obtain ⟨t, h', q⟩ := getJ_ok (Φ := Φ0) h' o.bad
    exact o.rt d _ σ' S' (r.outI ok r' (told_get q)) h'
  · intro μ' σ' S' r' h'
    obtain ⟨t, h', q⟩ := getJ_ok (Φ := Φ0) h' o.bad
    exact o.bk _ σ' S' (r.outN ok r' (told_get q)) h'
  · intro μ' σ' S' r' h'
    obtain ⟨t, h', q⟩ := getJ_ok (Φ := Φ0) h' o.bad
    exact o.ct _ σ' S' (r.outN ok r' (told_get q)) h'
  · intro c fs μ' σ' S' r' h' p hp
    obtain ⟨t, h', q⟩ := getJ_ok (Φ := Φ0) h' o.bad
    exact o.ex c fs _ σ' S' (r.outI ok r' (told_get q)) h' p hp
/-- the ends within a turn -/
theorem turn_ok {Z : DEnds} {fx : Fx} {I J : Js} {K : List Nat} {μ : Env} {σ : DSt} {S : Sto} {β : Type} {z : ZM β} {Φ : β → Prop} (r : Rel ax fx μ σ S) (ok : OkB I J K μ) (o : ZOk C ax fx Z z Φ) (go : T J → B (T I) (T J)) (N : DSt → Sto → Prop)
    (hgo : ∀ t σ' S', Rel ax (fx.inn (ixJ J ++ K) μ) (headE J K μ t) σ' S' → Φ (outB (go t) (fun t => z.nx (setJ J t (killK K μ))) (fun t => z.bk (setJ J t (killK K μ))) (fun t => z.ct (setJ J t (killK K μ))) (fun d t => z.rt d (setJ I t (killK (nonI I J K) μ))) (fun c fs t => z.ex c fs (setJ I t (killK (nonI I J K) μ))) z.bad) → N σ' S') :
    ZOk C ax (fx.inn (ixJ J ++ K) μ) ⟨N, Z.rt, Z.nx, N, Z.ex⟩ (zB I J) (fun b => Φ (outB (stepB b go) (fun t => z.nx (setJ J t (killK K μ))) (fun t => z.bk (setJ J t (killK K μ))) (fun t => z.ct (setJ J t (killK K μ))) (fun d t => z.rt d (setJ I t (killK (nonI I J K) μ))) (fun c fs t => z.ex c fs (setJ I t (killK (nonI I J K) μ))) z.bad)) := by
  let Φ0 : B (T I) (T J) → Prop := fun b => Φ (outB (stepB b go) (fun t => z.nx (setJ J t (killK K μ))) (fun t => z.bk (setJ J t (killK K μ))) (fun t => z.ct (setJ J t (killK K μ))) (fun d t => z.rt d (setJ I t (killK (nonI I J K) μ))) (fun c fs t => z.ex c fs (setJ I t (killK (nonI I J K) μ))) z.bad)
  refine ⟨o.bad, ?_, ?_, ?_, ?_, ?_⟩
  · intro μ' σ' S' r' h'
    obtain ⟨t, h', q⟩ := getJ_ok (Φ := Φ0) h' o.bad
    exact hgo t σ' S' (r.head ok r' (told_get q)) h'
  · intro d μ' σ' S' r' h'
    obtain ⟨t, h', q⟩ := getJ_ok (Φ := Φ0) h' o.bad
    exact o.rt d _ σ' S' (r.outI ok r' (told_get q)) h'
  · intro μ' σ' S' r' h'
    obtain ⟨t, h', q⟩ := getJ_ok (Φ := Φ0) h' o.bad
    exact o.nx _ σ' S' (r.outN ok r' (told_get q)) h'
  · intro μ' σ' S' r' h'
    obtain ⟨t, h', q⟩ := getJ_ok (Φ := Φ0) h' o.bad
    exact hgo t σ' S' (r.head ok r' (told_get q)) h'
  · intro c fs μ' σ' S' r' h' p hp
    obtain ⟨t, h', q⟩ := getJ_ok (Φ := Φ0) h' o.bad
    exact o.ex c fs _ σ' S' (r.outI ok r' (told_get q)) h' p hp
def GOk (js : List Nat) (g : DTG) (m : MG) : Prop := ∀ ax fx β d μ σ S (k : Env → β) (b : β) (Φ : β → Prop) (N : DSt → Sto → Prop), Rel ax fx μ σ S → ¬ Φ b → (∀ μ' σ', Rel ax fx μ' σ' S → (∀ j, j ∉ js → σ'[j]? = σ[j]?) → Φ (k μ') → N σ' S) → Φ (m β d μ k b) → g d σ S N
theorem gok_name (i : Nat) : GOk [i] (dgName i) (mGName i) := fun ax fx β d μ σ S k b Φ N r hb hk h => by
  obtain ⟨h, u, h2, h3, h4⟩ := setS_ok h hb
  exact hk _ _ (r.setV d h3 h2 h4) (fun j hj => List.getElem?_set_ne fun z => hj (by simp [z])) h
theorem for_post {I J : Js} {K : List Nat} {it : Env → P (List D)} {js : List Nat} {g : DTG} {mg : MG} (hgo : GOk js g mg) {Z : DEnds} {σ : DSt} {S : Sto} {fx : Fx} {μ : Env} {β : Type} {z : ZM β} {Φ : β → Prop} (r : Rel ax fx μ σ S) (o : ZOk C ax fx Z z Φ) (h : Φ (mFor I J K it mg s β z μ)) : dFor (rdI C ax it) g (rdS C ax s) Z σ S := by
  obtain ⟨hf, h⟩ := guard_ok h o.bad
  have ok := okB_ok hf
  let Φ0 : B (T I) (T J) → Prop := fun b => Φ (outB b (fun t => z.nx (setJ J t (killK K μ))) (fun t => z.bk (setJ J t (killK K μ))) (fun t => z.ct (setJ J t (killK K μ)))
    (fun d t => z.rt d (setJ I t (killK (nonI I J K) μ))) (fun c fs t => z.ex c fs (setJ I t (killK (nonI I J K) μ))) z.bad)
  let f : T J → D → B (T I) (T J) := fun t x => mg _ x (headE J K μ t) (fun μ' => s _ (zB I J) μ') .bad
  have loop : ∀ (xs : List D) (t : T J) (σ' : DSt) (S' : Sto), Rel ax (fx.inn (ixJ J ++ K) μ) (headE J K μ t) σ' S' → Φ0 (loopB f xs t) → dLoop g (rdS C ax s) Z xs σ' S' := by
    intro xs
    induction xs with
    | nil => exact fun t σ' S' r' h' => o.nx _ σ' S' (r.outN ok r' told_self) h'
    | cons x xs ih =>
      intro t σ' S' r' h'
      refine hgo ax _ _ x _ σ' S' (fun μ' => s _ (zB I J) μ') .bad (fun b => Φ0 (stepB b fun t' => loopB f xs t')) _ r' o.bad (fun μ2 σ2 r2 _ h2 => ?_) h'
      exact ⟨_, μ2, _, zB I J, _, r2, turn_ok r ok o (fun t' => loopB f xs t') (dLoop g (rdS C ax s) Z xs) (fun t' σ3 S3 r3 h3 => ih t' σ3 S3 r3 h3), h2⟩
  refine ⟨fx, μ, r, post_mono (fun xs h' => ?_) (got_ok (C := C) (E := exOf Z σ) (Q := fun _ _ => True) (k := fun xs μ' => getJ J μ (fun t0 => outB (loopB f xs t0) _ _ _ _ _ z.bad) z.bad) h r ⟨o.bad, fun _ _ _ _ _ => trivial, fun c fs μ1 S1 r1 h1 p hp => o.ex c fs μ1 σ S1 r1 h1 p hp⟩)⟩
  obtain ⟨t, h', q⟩ := getJ_ok (Φ := Φ) h' o.bad
  have told : Told J t (protN (ixJ J ++ K) 0 μ) := fun ν i s' hl e => by
    rcases q ν i s' e with e1 | e1
    · exact .inl e1
    · by_cases c : i ∈ ixJ J
      · refine .inr ?_
        rw [prot_get, e1]
        have : (ixJ J ++ K).contains (0 + i) = true := by rw [Nat.zero_add]; simp [c]
        simp only [Option.map_some, this, if_true]
      · rw [setJ_ne c] at e; exact .inl ⟨c, e⟩
  exact loop xs t σ S (r.head ok (r.inn _) told) h'
theorem xs_for {I J : Js} {K : List Nat} {tg iter : Expr} {body : List Stmt} {it : Env → P (List D)} {js : List Nat} {g : DTG} {mg : MG} (hp : PassesOwn (model X.prog X.w) X.A X.env X.xe) (hc : X.calm = true) (hi : XI C ax X W tg iter it) (hg : DG X tg js g) (hgo : GOk js g mg) (hb : XSs C ax X W body s)
    (hs : ∀ x, foldedSetIterable iter X.env x = pure x := by intro _; rfl) : XS C ax X W (.For tg iter body [] pos) (mFor I J K it mg s) := dsI (ds_for hp hc hi hg hb hs) fun Z σ S ⟨fx, μ, β, z, Φ, r, o, h⟩ => for_post hgo r o h
theorem xs_while {I J : Js} {K : List Nat} {body : List Stmt} {mc : Env → P Bool} (hp : PassesOwn (model X.prog X.w) X.A X.env X.xe) (hc : XT C ax X W c mc) (hb : XSs C ax X W body s) : XS C ax X W (.While c body [] pos) (mWhile I J K mc s) := dsI (ds_while hp hc hb) fun Z σ S ⟨fx, μ, β, z, Φ, r, o, h⟩ => by
  obtain ⟨hf, h⟩ := guard_ok h o.bad
  have ok := okB_ok hf
  let Φ0 : B (T I) (T J) → Prop := fun b => Φ (outB b (fun t => z.nx (setJ J t (killK K μ))) (fun t => z.bk (setJ J t (killK K μ))) (fun t => z.ct (setJ J t (killK K μ)))
    (fun d t => z.rt d (setJ I t (killK (nonI I J K) μ))) (fun c fs t => z.ex c fs (setJ I t (killK (nonI I J K) μ))) z.bad)
  let wh : Nat → T J → B (T I) (T J) := whileB (fun t => mc (headE J K μ t)) (fun e fs t => getJ I (headE J K μ t) (fun u => .er e fs u) .bad) (fun t => s _ (zB I J) (headE J K μ t))
  obtain ⟨t0, h, q⟩ := getJ_ok (Φ := Φ) h o.bad
  have told : Told J t0 (protN (ixJ J ++ K) 0 μ) := fun ν i s' hl e => by
    rcases q ν i s' e with e1 | e1
    · exact .inl e1
    · by_cases c : i ∈ ixJ J
      · refine .inr ?_
        rw [prot_get, e1]
        have : (ixJ J ++ K).contains (0 + i) = true := by rw [Nat.zero_add]; simp [c]
        simp only [Option.map_some, this, if_true]
      · rw [setJ_ne c] at e; exact .inl ⟨c, e⟩
  refine ⟨fun m σ' S' => ∃ t, Rel ax (fx.inn (ixJ J ++ K) μ) (headE J K μ t) σ' S' ∧ Φ0 (wh m t), ⟨fuelN, t0, r.head ok (r.inn _) told, h⟩, fun m σ' S' ⟨t, r', h'⟩ => ?_⟩
  cases m with
  | zero => exact absurd h' o.bad
  | succ m =>
    refine ⟨_, _, r', ?_⟩
    have h' : Φ0 (got (mc (headE J K μ t)) (fun g _ => if g then stepB (s _ (zB I J) (headE J K μ t)) fun b => wh m b else .nx t) (fun e fs _ => getJ I (headE J K μ t) (fun u => .er e fs u) .bad) .bad) := h'
    cases g : mc (headE J K μ t) with
    | bad => rw [g] at h'; exact absurd h' o.bad
    | er e fs u =>
      rw [g] at h'
      obtain ⟨u, h', q⟩ := getJ_ok (Φ := Φ0) h' o.bad
      exact fun p hp => o.ex e fs _ σ' S' (r.outI ok r' (told_get q)) h' p hp
    | ok b u =>
      rw [g] at h'
      show if b = true then _ else _
      have h' : Φ0 (if b then stepB (s _ (zB I J) (headE J K μ t)) fun b => wh m b else .nx t) := h'
      cases b with
      | false =>
        rw [if_neg Bool.false_ne_true] at h' ⊢
        exact o.nx _ σ' S' (r.outN ok r' told_self) h'
      | true =>
        rw [if_pos rfl] at h' ⊢
        exact ⟨fun σ' S' => ∃ t, Rel ax (fx.inn (ixJ J ++ K) μ) (headE J K μ t) σ' S' ∧ Φ0 (wh m t), fun σ2 S2 h2 => ⟨m, Nat.lt_succ_self m, h2⟩, _, _, _, zB I J, _, r', turn_ok r ok o (fun t' => wh m t') _ (fun t' σ3 S3 r3 h3 => ⟨t', r3, h3⟩), h'⟩
/-! ### arguments that may be slots, and what a call leaves in them -/
inductive Act where
  | ref (i : Nat) | val (d : D)
abbrev MA := (β : Type) → Env → (List Act → Env → β) → (Str → Flds → Env → β) → β → β
inductive ActOk (σ : DSt) : List Act → List D → Prop
  | nil : ActOk σ [] []
  | val {d : D} {l : List Act} {ds : List D} : ActOk σ l ds → ActOk σ (.val d :: l) (d :: ds)
  | ref {i : Nat} {d : D} {l : List Act} {ds : List D} : σ[i]? = some (some d) → ActOk σ l ds → ActOk σ (.ref i :: l) (d :: ds)
def rdAC (C : Str → Addr) (ax : Ax) (m : MA) : DTA := fun E σ S Q => ∃ (fx : Fx) (μ : Env) (β : Type) (k : List Act → Env → β) (ex : Str → Flds → Env → β) (b : β) (Φ : β → Prop), Rel ax fx μ σ S ∧ KOk C ax fx E σ k ex b (fun acts S => ∀ ds, ActOk σ acts ds → Q ds S) Φ ∧ Φ (m β μ k ex b)
def XAC (C : Str → Addr) (ax : Ax) (X : Cx) (W : WX) (es : List Expr) (m : MA) : Prop := DA X W es (rdAC C ax m)
def aNil : MA := fun β μ k ex b => k [] μ
def aVal (a : MC) (l : MA) : MA := fun β μ k ex b => a β μ (fun d μ1 => l β μ1 (fun ds μ2 => k (.val d :: ds) μ2) ex b) ex b
def aRef (i : Nat) (l : MA) : MA := fun β μ k ex b => match μ[i]? with
  | some (.l _ _) => l β μ (fun ds μ2 => k (.ref i :: ds) μ2) ex b
  | some (.k _ _) => l β μ (fun ds μ2 => k (.ref i :: ds) μ2) ex b
  | _ => b
def valsO : List Act → Option (List D)
  | [] => some []
  | .val d :: r => match valsO r with
    | some ds => some (d :: ds)
    | none => none
  | .ref _ :: _ => none
def mFnC (f : List D → P D) (l : MA) : MC := fun β μ k ex b => l β μ (fun as μ1 => gotO (valsO as) (fun ds => got (f ds) (fun d _ => k d μ1) (fun c fs _ => ex c fs μ1) b) b) ex b
def mCallC (f : List D → Option D) (l : MA) : MC := fun β μ k ex b => l β μ (fun as μ1 => gotO (valsO as) (fun ds => gotO (f ds) (fun d => k d μ1) b) b) ex b
def mTupC (l : MA) : MC := fun β μ k ex b => l β μ (fun as μ1 => gotO (valsO as) (fun ds => guard (sizeB ds.length) (k (.tup ds) μ1) b) b) ex b
def mLstC (l : MA) : MC := fun β μ k ex b => l β μ (fun as μ1 => gotO (valsO as) (fun ds => guard (sizeB ds.length) (k (.lst ds) μ1) b) b) ex b
def refs : List Act → List Nat
  | [] => []
  | .val _ :: r => refs r
  | .ref i :: r => i :: refs r
def nodupB : List Nat → Bool
  | [] => true
  | i :: r => !r.contains i && nodupB r
/-- what a parameter is: data, a list that changes, a dict that changes -/
inductive Pk where
  | v | l | k
@[reducible] def Ct : List Pk → Type
  | [] => Unit
  | .v :: r => Ct r
  | .l :: r => List D × Ct r
  | .k :: r => List (Key × D) × Ct r
/-- the slots of the called def -/
def argE : (ps : List Pk) → List D → Ct ps → Env
  | [], _, _ => []
  | .v :: r, d :: ds, c => .v d :: argE r ds c
  | .v :: r, [], c => .un :: argE r [] c
  | .l :: r, ds, c => .l true c.1 :: argE r ds c.2
  | .k :: r, ds, c => .k true c.1 :: argE r ds c.2
def argU : (ps : List Pk) → Ct ps → Env
  | [], _ => []
  | .v :: r, c => .un :: argU r c
  | .l :: r, c => .l true c.1 :: argU r c.2
  | .k :: r, c => .k true c.1 :: argU r c.2
def takeA {β : Type} : (ps : List Pk) → List Act → Env → (List D → Ct ps → β) → β → β
  | [], [], _, k, _ => k [] ()
  | .v :: r, .val d :: as, μ, k, b => takeA r as μ (fun ds c => k (d :: ds) c) b
  | .l :: r, .ref i :: as, μ, k, b => match μ[i]? with
    | some (.l _ xs) => takeA r as μ (fun ds c => k ds (xs, c)) b
    | _ => b
  | .k :: r, .ref i :: as, μ, k, b => match μ[i]? with
    | some (.k _ xs) => takeA r as μ (fun ds c => k ds (xs, c)) b
    | _ => b
  | _, _, _, _, b => b
/-- what it leaves in the caller's -/
def giveA {β : Type} : (ps : List Pk) → List Act → Ct ps → Env → (Env → β) → β → β
  | [], [], _, μ, k, _ => k μ
  | .v :: r, .val _ :: as, c, μ, k, b => giveA r as c μ k b
  | .l :: r, .ref i :: as, c, μ, k, b => match μ[i]? with
    | some (.l q _) => giveA r as c.2 (μ.set i (.l q c.1)) k b
    | _ => b
  | .k :: r, .ref i :: as, c, μ, k, b => match μ[i]? with
    | some (.k q _) => giveA r as c.2 (μ.set i (.k q c.1)) k b
    | _ => b
  | _, _, _, _, _, b => b
def mCallI (ps : List Pk) (m : List D → Ct ps → R (Ct ps) D) (l : MA) : MC := fun β μ k ex b => l β μ (fun as μ1 => guard (nodupB (refs as)) (takeA ps as μ1 (fun ds c => got (m ds c) (fun d c' => giveA ps as c' μ1 (fun μ2 => k d μ2) b) (fun e fs c' => giveA ps as c' μ1 (fun μ2 => ex e fs μ2) b) b) b) b) ex b
theorem xac_nil : XAC C ax X W [] aNil := daI da_nil fun E σ S Q ⟨fx, μ, β, k, ex, bd, Φ, r, z, h⟩ => z.k _ μ S r h _ .nil
theorem xac_val {es : List Expr} {l : MA} (ha : XC C ax X W e ma) (hr : XAC C ax X W es l) (hs : starEach (e :: es) X.env = (false, eval e X.env) :: starEach es X.env := by rfl) : XAC C ax X W (e :: es) (aVal ma l) := daI (da_cons ha hr hs) fun E σ S Q ⟨fx, μ, β, k, ex, bd, Φ, r, z, h⟩ =>
  ⟨fx, μ, β, _, ex, bd, Φ, r, z.to fun d μ1 S1 r1 h1 => ⟨fx, μ1, β, _, ex, bd, Φ, r1, z.to fun as μ2 S2 r2 h2 ds hd => z.k _ μ2 S2 r2 h2 _ (.val hd), h1⟩, h⟩
theorem xac_ref {es : List Expr} {l : MA} {i : Nat} (ha : DE X W e (dVar i)) (hr : XAC C ax X W es l) (hs : starEach (e :: es) X.env = (false, eval e X.env) :: starEach es X.env := by rfl) : XAC C ax X W (e :: es) (aRef i l) := daI (da_cons ha hr hs) fun E σ S Q ⟨fx, μ, β, k, ex, bd, Φ, r, z, h⟩ => by
  have key : ∃ d, σ[i]? = some (some d) ∧ Φ (l β μ (fun ds μ2 => k (.ref i :: ds) μ2) ex bd) := by
    unfold aRef at h
    split at h
    · rename_i hx
      obtain ⟨p, h1, _⟩ := r.getL hx
      exact ⟨_, h1, h⟩
    · rename_i hx
      obtain ⟨p, h1, _⟩ := r.getK hx
      exact ⟨_, h1, h⟩
    · exact absurd h z.bad
  obtain ⟨d, hd, h⟩ := key
  show dVar i _ σ S _
  unfold dVar; rw [hd]
  exact ⟨fx, μ, β, _, ex, bd, Φ, r, z.to fun as μ2 S2 r2 h2 ds ha => z.k _ μ2 S2 r2 h2 _ (.ref hd ha), h⟩
theorem vals_ok {σ : DSt} : ∀ {as : List Act} {ds es : List D}, valsO as = some ds → ActOk σ as es → es = ds
  | [], _, _, h, a => by cases a; cases h; rfl
  | .val d :: r, ds, _, h, a => by
    cases a with
    | val a =>
      simp only [valsO] at h
      cases g : valsO r with
      | none => rw [g] at h; cases h
      | some es => rw [g] at h; cases h; rw [vals_ok g a]
  | .ref _ :: _, _, _, h, _ => nomatch h
end
end KM

set_option maxRecDepth 100000
set_option maxHeartbeats 4000000
/-! Km3: calls of defs, also of those that change what they are given; the rule of a def. -/
namespace KM
open PySem PySem.Spec PyProof.Rows L2 KD
section
variable {C : Str → Addr} {ax : Ax} {X : Cx} {W : WX} {a b c e : Expr} {ma mb mc : MC} {pos : Pos} {es : List Expr} {l : MA}
/-- nothing for another number of arguments -/
def Ar (n : Nat) (m : List D → P D) : Prop := ∀ ds, ds.length ≠ n → m ds = .bad
theorem xc_has {k n : Nat} {ps : List Str} {m : List D → P D} {x : Str} {p : Pos} (hA : Ar n m) (tk : Takes X W) (F : Has X.prog X.w X.K X.mg X.base k x ps (spP C n m)) (hr : Room k X.A) (hg : Gl X x) (ha : XAC C ax X W (e :: es) l) (hd : (x == ("__debug__" : Str)) = false := by decide)
    (hs : starEach (e :: es) X.env = (false, eval e X.env) :: starEach es X.env := by rfl) (hpl : (backTo pos (starEach es X.env)).any (·.1) = false := by rfl) :
    XC C ax X W (.Call (.Name x p) (e :: es) [] pos) (mFnC m l) := deI (de_has tk F hr hg ha hd hs hpl) fun E σ S Q ⟨fx, μ, β, k, ex, bd, Φ, r, z, h⟩ =>
  ⟨fx, μ, β, _, ex, bd, Φ, r, z.to fun as μ1 S1 r1 h1 ds hds => by
    obtain ⟨ds', e1, h1⟩ := gotO_ok h1 z.bad
    have := vals_ok e1 hds
    subst this
    refine ⟨Classical.byContradiction fun c => ?_, ?_⟩
    · rw [hA ds c] at h1; exact absurd h1 z.bad
    · cases g : m ds with
      | bad => rw [g] at h1; exact absurd h1 z.bad
      | ok d s => rw [g] at h1; exact z.k d μ1 S1 r1 h1
      | er c fs s => rw [g] at h1; exact z.ex c fs μ1 S1 r1 h1, h⟩
theorem xc_tup {x1} (h : XAC C ax X W es l) : XC C ax X W (.Tuple es x1 pos) (mTupC l) := deI (de_tup h) fun E σ S Q ⟨fx, μ, β, k, ex, bd, Φ, r, z, h⟩ =>
  ⟨fx, μ, β, _, ex, bd, Φ, r, z.to fun as μ1 S1 r1 h1 ds hds => by
    obtain ⟨ds', e1, h1⟩ := gotO_ok h1 z.bad
    have := vals_ok e1 hds
    subst this
    obtain ⟨hz, h1⟩ := guard_ok h1 z.bad
    exact ⟨size_dec hz, z.k _ μ1 S1 r1 h1⟩, h⟩
theorem xc_lst (h : XAC C ax X W es l) : XC C ax X W (.List es pos) (mLstC l) := deI (de_lst h) fun E σ S Q ⟨fx, μ, β, k, ex, bd, Φ, r, z, h⟩ =>
  ⟨fx, μ, β, _, ex, bd, Φ, r, z.to fun as μ1 S1 r1 h1 ds hds => by
    obtain ⟨ds', e1, h1⟩ := gotO_ok h1 z.bad
    have := vals_ok e1 hds
    subst this
    obtain ⟨hz, h1⟩ := guard_ok h1 z.bad
    exact ⟨size_dec hz, z.k _ μ1 S1 r1 h1⟩, h⟩
theorem vwl_refl {S : Sto} : ∀ {l : List D}, VwL S l l
  | [] => .nil
  | _ :: _ => .cons (.inl rfl) vwl_refl
theorem cl_okC {q : List D → Sto → DK → Prop} {f : List D → Option D} (hf : ClOk q f) {E : DEr} {σ : DSt} {S : Sto} {Q : DK} (h : rdC C ax (mCallC f l) E σ S Q) : dCall q (rdAC C ax l) E σ S Q := by
  obtain ⟨fx, μ, β, k, ex, bd, Φ, r, z, h⟩ := h
  exact ⟨fx, μ, β, _, ex, bd, Φ, r, z.to fun as μ1 S1 r1 h1 ds hds => by
    obtain ⟨ds', e1, h1⟩ := gotO_ok h1 z.bad
    have := vals_ok e1 hds
    subst this
    obtain ⟨d, e2, h1⟩ := gotO_ok h1 z.bad
    exact hf _ _ S1 d Q vwl_refl e2 (z.k _ μ1 S1 r1 h1), h⟩
theorem xc_callB {id : String} {x : Str} {p : Pos} {f : List D → Option D} {q : List D → Sto → DK → Prop} (hc : DC X (.builtin id) q) (hf : ClOk q f) (hg : Gl X x) (hm : X.mg x = none) (hv : bootBuiltins x = some (.builtin id)) (ha : XAC C ax X W (e :: es) l)
    (hn : x ≠ "__name__" := by decide) (hdb : (x == ("__debug__" : Str)) = false := by decide) (hs : starEach (e :: es) X.env = (false, eval e X.env) :: starEach es X.env := by rfl) (hpl : (backTo pos (starEach es X.env)).any (·.1) = false := by rfl) :
    XC C ax X W (.Call (.Name x p) (e :: es) [] pos) (mCallC f l) := deI (de_callB hc hg hm hv ha hn hdb hs hpl) fun E σ S Q h => cl_okC hf h
theorem xc_callTy {T : String} {x : Str} {p : Pos} {f : List D → Option D} {q : List D → Sto → DK → Prop} (hc : DC X (.type T) q) (hf : ClOk q f) (hg : Gl X x) (hm : X.mg x = none) (hv : bootBuiltins x = some (.type T)) (ha : XAC C ax X W (e :: es) l)
    (hn : x ≠ "__name__" := by decide) (hdb : (x == ("__debug__" : Str)) = false := by decide) (hs : starEach (e :: es) X.env = (false, eval e X.env) :: starEach es X.env := by rfl) (hpl : (backTo pos (starEach es X.env)).any (·.1) = false := by rfl) :
    XC C ax X W (.Call (.Name x p) (e :: es) [] pos) (mCallC f l) := deI (de_callTy hc hg hm hv ha hn hdb hs hpl) fun E σ S Q h => cl_okC hf h
end
def ax0 : Ax := ⟨0, 0, ""⟩
/-! ### the promise of a def that changes what it is given -/
def spI (C : Str → Addr) (ps : List Pk) (m : List D → Ct ps → R (Ct ps) D) : DSp := fun ds S Q E => ds.length = ps.length ∧ ∃ (S0 : Sto) (io : Nat → Option Addr) (vs : List D) (c : Ct ps) (A : Nat → Addr), Rl ax0 ⟨ps.length, fun _ => none, S0, io⟩ (argE ps vs c) (ds.map some) S A ∧
  match m vs c with
  | .ok d c' => ∀ S', Rel ax0 ⟨ps.length, fun _ => none, S0, io⟩ (argU ps c') (ds.map some) S' → Q d S'
  | .er x fs c' => ∀ S', Rel ax0 ⟨ps.length, fun _ => none, S0, io⟩ (argU ps c') (ds.map some) S' → ∀ p, S' p = none → E (C x) p (put S' p (.xd fs))
  | .bad => False
section
variable {β : Type} {Φ : β → Prop} {b : β}
theorem nodup_ok : ∀ {l : List Nat}, nodupB l = true → l.Nodup
  | [], _ => List.nodup_nil
  | i :: r, h => by
    rw [nodupB, Bool.and_eq_true] at h
    exact List.nodup_cons.mpr ⟨by simpa using h.1, nodup_ok h.2⟩
/-- a slot that is handed on -/
def Hand (s t : SV) : Prop := (∃ q xs, s = .l q xs ∧ t = .l true xs) ∨ ∃ q xs, s = .k q xs ∧ t = .k true xs
theorem takeA_ok : ∀ {ps : List Pk} {as : List Act} {μ : Env} {k : List D → Ct ps → β}, Φ (takeA ps as μ k b) → ¬ Φ b → ∃ ds c, Φ (k ds c) ∧ (argE ps ds c).length = as.length ∧ ps.length = as.length ∧ (∀ (j : Nat) (d : D), as[j]? = some (Act.val d) → (argE ps ds c)[j]? = some (SV.v d)) ∧ ∀ j i : Nat, as[j]? = some (Act.ref i) → ∃ s t : SV, μ[i]? = some s ∧ (argE ps ds c)[j]? = some t ∧ Hand s t
  | [], [], μ, k, h, hb => ⟨[], (), h, rfl, rfl, fun j d e => by simp at e, fun j i e => by simp at e⟩
  | .v :: r, .val d :: as, μ, k, h, hb => by
    obtain ⟨ds, c, h1, h2, h0, h3, h4⟩ := takeA_ok (ps := r) (as := as) (k := fun ds c => k (d :: ds) c) h hb
    refine ⟨d :: ds, c, h1, by simp [argE, h2], by simp [h0], fun j d' e => ?_, fun j i e => ?_⟩
    · cases j with
      | zero => simp at e ⊢; subst e; rfl
      | succ j => exact h3 j d' (by simpa using e)
    · cases j with
      | zero => simp at e
      | succ j => exact h4 j i (by simpa using e)
  | .l :: r, .ref i0 :: as, μ, k, h, hb => by
    have key : ∃ q xs, μ[i0]? = some (.l q xs) ∧ Φ (takeA r as μ (fun ds c => k ds (xs, c)) b) := by
      unfold takeA at h
      split at h
      · exact ⟨_, _, by assumption, h⟩
      · exact absurd h hb
    obtain ⟨q, xs, hx, h⟩ := key
    obtain ⟨ds, c, h1, h2, h0, h3, h4⟩ := takeA_ok (ps := r) (as := as) (k := fun ds c => k ds (xs, c)) h hb
    refine ⟨ds, (xs, c), h1, by simp [argE, h2], by simp [h0], fun j d' e => ?_, fun j i e => ?_⟩
    · cases j with
      | zero => simp at e
      | succ j => exact h3 j d' (by simpa using e)
    · cases j with
      | zero => simp at e; subst e; exact ⟨_, _, hx, rfl, .inl ⟨q, xs, rfl, rfl⟩⟩
      | succ j => exact h4 j i (by simpa using e)
  | .k :: r, .ref i0 :: as, μ, k, h, hb => by
    have key : ∃ q xs, μ[i0]? = some (.k q xs) ∧ Φ (takeA r as μ (fun ds c => k ds (xs, c)) b) := by
      unfold takeA at h
      split at h
      · exact ⟨_, _, by assumption, h⟩
      · exact absurd h hb
    obtain ⟨q, xs, hx, h⟩ := key
    obtain ⟨ds, c, h1, h2, h0, h3, h4⟩ := takeA_ok (ps := r) (as := as) (k := fun ds c => k ds (xs, c)) h hb
    refine ⟨ds, (xs, c), h1, by simp [argE, h2], by simp [h0], fun j d' e => ?_, fun j i e => ?_⟩
    · cases j with
      | zero => simp at e
      | succ j => exact h3 j d' (by simpa using e)
    · cases j with
      | zero => simp at e; subst e; exact ⟨_, _, hx, rfl, .inr ⟨q, xs, rfl, rfl⟩⟩
      | succ j => exact h4 j i (by simpa using e)
  | [], _ :: _, _, _, h, hb => absurd h hb
  | .v :: _, [], _, _, h, hb => absurd h hb
  | .l :: _, [], _, _, h, hb => absurd h hb
  | .k :: _, [], _, _, h, hb => absurd h hb
  | .v :: _, .ref _ :: _, _, _, h, hb => absurd h hb
  | .l :: _, .val _ :: _, _, _, h, hb => absurd h hb
  | .k :: _, .val _ :: _, _, _, h, hb => absurd h hb
/-- the same list or dict, changed -/
def Like (s t u : SV) : Prop := (∃ q xs ys, s = .l q xs ∧ t = .l true ys ∧ u = .l q ys) ∨ ∃ q xs ys, s = .k q xs ∧ t = .k true ys ∧ u = .k q ys
theorem giveA_ok : ∀ {ps : List Pk} {as : List Act} {c : Ct ps} {μ : Env} {k : Env → β}, Φ (giveA ps as c μ k b) → ¬ Φ b → (refs as).Nodup → ∃ μ2, Φ (k μ2) ∧ μ2.length = μ.length ∧ (∀ i : Nat, i ∉ refs as → μ2[i]? = μ[i]?) ∧ ∀ i ∈ refs as, ∃ (j : Nat) (s t u : SV), as[j]? = some (Act.ref i) ∧ μ[i]? = some s ∧ (argU ps c)[j]? = some t ∧ μ2[i]? = some u ∧ Like s t u
  | [], [], c, μ, k, h, hb, _ => ⟨μ, h, rfl, fun _ _ => rfl, fun i hi => by simp [refs] at hi⟩
  | .v :: r, .val d :: as, c, μ, k, h, hb, nd => by
    obtain ⟨μ2, h1, h2, h3, h4⟩ := giveA_ok (ps := r) (as := as) (c := c) h hb nd
    refine ⟨μ2, h1, h2, h3, fun i hi => ?_⟩
    obtain ⟨j, s', t, u, q1, q2, q3, q4, q5⟩ := h4 i hi
    exact ⟨j + 1, s', t, u, by simpa using q1, q2, by simpa [argU] using q3, q4, q5⟩
  | .l :: r, .ref i0 :: as, c, μ, k, h, hb, nd => by
    have nd := List.nodup_cons.mp (show (i0 :: refs as).Nodup from nd)
    have key : ∃ q xs, μ[i0]? = some (.l q xs) ∧ Φ (giveA r as c.2 (μ.set i0 (.l q c.1)) k b) := by
      unfold giveA at h
      split at h
      · exact ⟨_, _, by assumption, h⟩
      · exact absurd h hb
    obtain ⟨q, xs, hs, h⟩ := key
    obtain ⟨μ2, h1, h2, h3, h4⟩ := giveA_ok (ps := r) (as := as) (c := c.2) h hb nd.2
    have li : i0 < μ.length := (List.getElem?_eq_some_iff.mp hs).1
    refine ⟨μ2, h1, by rw [h2, List.length_set], fun i hi => ?_, fun i hi => ?_⟩
    · simp only [refs, List.mem_cons, not_or] at hi
      rw [h3 i hi.2, List.getElem?_set_ne fun z => hi.1 z.symm]
    · rcases List.mem_cons.mp hi with rfl | hi
      · exact ⟨0, _, .l true c.1, _, by simp, hs, by simp [argU], by rw [h3 i nd.1, List.getElem?_set_self li], .inl ⟨q, xs, c.1, rfl, rfl, rfl⟩⟩
      · have ne : i0 ≠ i := fun z => nd.1 (by rw [z]; exact hi)
        obtain ⟨j, s2, t, u2, q1, q2, q3, q4, q5⟩ := h4 i hi
        exact ⟨j + 1, s2, t, u2, by simpa using q1, by rw [← List.getElem?_set_ne ne (a := SV.l q c.1)]; exact q2, by simpa [argU] using q3, q4, q5⟩
  | .k :: r, .ref i0 :: as, c, μ, k, h, hb, nd => by
    have nd := List.nodup_cons.mp (show (i0 :: refs as).Nodup from nd)
    have key : ∃ q xs, μ[i0]? = some (.k q xs) ∧ Φ (giveA r as c.2 (μ.set i0 (.k q c.1)) k b) := by
      unfold giveA at h
      split at h
      · exact ⟨_, _, by assumption, h⟩
      · exact absurd h hb
    obtain ⟨q, xs, hs, h⟩ := key
    obtain ⟨μ2, h1, h2, h3, h4⟩ := giveA_ok (ps := r) (as := as) (c := c.2) h hb nd.2
    have li : i0 < μ.length := (List.getElem?_eq_some_iff.mp hs).1
    refine ⟨μ2, h1, by rw [h2, List.length_set], fun i hi => ?_, fun i hi => ?_⟩
    · simp only [refs, List.mem_cons, not_or] at hi
      rw [h3 i hi.2, List.getElem?_set_ne fun z => hi.1 z.symm]
    · rcases List.mem_cons.mp hi with rfl | hi
      · exact ⟨0, _, .k true c.1, _, by simp, hs, by simp [argU], by rw [h3 i nd.1, List.getElem?_set_self li], .inr ⟨q, xs, c.1, rfl, rfl, rfl⟩⟩
      · have ne : i0 ≠ i := fun z => nd.1 (by rw [z]; exact hi)
        obtain ⟨j, s2, t, u2, q1, q2, q3, q4, q5⟩ := h4 i hi
        exact ⟨j + 1, s2, t, u2, by simpa using q1, by rw [← List.getElem?_set_ne ne (a := SV.k q c.1)]; exact q2, by simpa [argU] using q3, q4, q5⟩
  | [], _ :: _, _, _, _, h, hb, _ => absurd h hb
  | .v :: _, [], _, _, _, h, hb, _ => absurd h hb
  | .l :: _, [], _, _, _, h, hb, _ => absurd h hb
  | .k :: _, [], _, _, _, h, hb, _ => absurd h hb
  | .v :: _, .ref _ :: _, _, _, _, h, hb, _ => absurd h hb
  | .l :: _, .val _ :: _, _, _, _, h, hb, _ => absurd h hb
  | .k :: _, .val _ :: _, _, _, _, h, hb, _ => absurd h hb
end
section
variable {ax : Ax} {fx : Fx} {μ : Env} {σ : DSt} {S S' : Sto} {as : List Act} {ds : List D}
theorem act_get : ∀ {as : List Act} {ds : List D}, ActOk σ as ds → as.length = ds.length ∧ (∀ (j : Nat) (d : D), as[j]? = some (Act.val d) → ds[j]? = some d) ∧ ∀ j i : Nat, as[j]? = some (Act.ref i) → ∃ d : D, ds[j]? = some d ∧ σ[i]? = some (some d)
  | _, _, .nil => ⟨rfl, fun j d e => by simp at e, fun j i e => by simp at e⟩
  | _, _, .val a => by
    obtain ⟨h1, h2, h3⟩ := act_get a
    refine ⟨by simp [h1], fun j d e => ?_, fun j i e => ?_⟩
    · cases j with
      | zero => simp at e ⊢; exact e
      | succ j => simpa using h2 j d (by simpa using e)
    · cases j with
      | zero => simp at e
      | succ j => simpa using h3 j i (by simpa using e)
  | _, _, .ref hi a => by
    obtain ⟨h1, h2, h3⟩ := act_get a
    refine ⟨by simp [h1], fun j d e => ?_, fun j i e => ?_⟩
    · cases j with
      | zero => simp at e
      | succ j => simpa using h2 j d (by simpa using e)
    · cases j with
      | zero => simp at e ⊢; subst e; exact hi
      | succ j => simpa using h3 j i (by simpa using e)
theorem refs_mem : ∀ {as : List Act} {i : Nat}, i ∈ refs as ↔ ∃ j : Nat, as[j]? = some (.ref i)
  | [], i => by simp [refs]
  | .val d :: r, i => by
    rw [refs, refs_mem]
    constructor
    · rintro ⟨j, h⟩; exact ⟨j + 1, by simpa using h⟩
    · rintro ⟨j, h⟩
      cases j with
      | zero => simp at h
      | succ j => exact ⟨j, by simpa using h⟩
  | .ref k :: r, i => by
    rw [refs, List.mem_cons, refs_mem]
    constructor
    · rintro (rfl | ⟨j, h⟩)
      · exact ⟨0, by simp⟩
      · exact ⟨j + 1, by simpa using h⟩
    · rintro ⟨j, h⟩
      cases j with
      | zero => simp at h; exact .inl h.symm
      | succ j => exact .inr ⟨j, by simpa using h⟩
theorem refs_one : ∀ {as : List Act} {i j k : Nat}, (refs as).Nodup → as[j]? = some (.ref i) → as[k]? = some (.ref i) → j = k
  | [], i, j, k, _, h, _ => by simp at h
  | .val d :: r, i, j, k, nd, h, h' => by
    cases j with
    | zero => simp at h
    | succ j =>
      cases k with
      | zero => simp at h'
      | succ k => exact congrArg Nat.succ (refs_one (as := r) (i := i) nd (by simpa using h) (by simpa using h'))
  | .ref m :: r, i, j, k, nd, h, h' => by
    have nd := List.nodup_cons.mp (show (m :: refs r).Nodup from nd)
    cases j with
    | zero =>
      simp at h; subst h
      cases k with
      | zero => rfl
      | succ k => exact absurd (refs_mem.mpr ⟨k, by simpa using h'⟩) nd.1
    | succ j =>
      cases k with
      | zero =>
        simp at h'; subst h'
        exact absurd (refs_mem.mpr ⟨j, by simpa using h⟩) nd.1
      | succ k => exact congrArg Nat.succ (refs_one (as := r) (i := i) nd.2 (by simpa using h) (by simpa using h'))
open Classical in
/-- into a def and out of it -/
theorem Rel.call (r : Rel ax fx μ σ S) (ha : ActOk σ as ds) (nd : (refs as).Nodup) {μa : Env} (hl : μa.length = as.length) (hv : ∀ (j : Nat) (d : D), as[j]? = some (Act.val d) → μa[j]? = some (SV.v d)) (hr : ∀ (j i : Nat), as[j]? = some (.ref i) → ∃ s t : SV, μ[i]? = some s ∧ μa[j]? = some t ∧ Hand s t) :
    ∃ (S0 : Sto) (io : Nat → Option Addr) (Aa : Nat → Addr), Rl ax0 ⟨ds.length, fun _ => none, S0, io⟩ μa (ds.map some) S Aa ∧ ∀ μb S', Rel ax0 ⟨ds.length, fun _ => none, S0, io⟩ μb (ds.map some) S' → ∀ μ2, μ2.length = μ.length → (∀ i : Nat, i ∉ refs as → μ2[i]? = μ[i]?) →
      (∀ i ∈ refs as, ∃ (j : Nat) (s t u : SV), as[j]? = some (Act.ref i) ∧ μ[i]? = some s ∧ μb[j]? = some t ∧ μ2[i]? = some u ∧ Like s t u) → Rel ax fx μ2 σ S' := by
  obtain ⟨A, a⟩ := r
  obtain ⟨al, av, ar⟩ := act_get ha
  let Rf : Addr → Prop := fun p => ∃ i, i ∈ refs as ∧ A i = p
  let S0 : Sto := fun p => if Rf p then none else S p
  let Aa : Nat → Addr := fun j => match as[j]? with
    | some (.ref i) => A i
    | _ => 0
  have aA : ∀ j i : Nat, as[j]? = some (Act.ref i) → Aa j = A i := fun j i e => by simp only [Aa, e]
  have hand : ∀ {s t : SV} {i j : Nat} {d : D}, Hand s t → SlotOk ax A σ S i s → as[j]? = some (.ref i) → ds[j]? = some d → σ[i]? = some (some d) → SlotOk ax0 Aa (ds.map some) S j t ∧ (∃ m, t.dm = some m) ∧ ∃ m, s.dm = some m := fun {s t i j d} h q e f g => by
    have fd : (ds.map some)[j]? = some (some d) := by rw [List.getElem?_map, f]; rfl
    rcases h with ⟨w, xs, rfl, rfl⟩ | ⟨w, xs, rfl, rfl⟩
    · have := q.1
      rw [g] at this; cases this
      exact ⟨⟨by rw [aA j i e]; exact fd, by rw [aA j i e]; exact q.2⟩, ⟨_, rfl⟩, ⟨_, rfl⟩⟩
    · have := q.1
      rw [g] at this; cases this
      exact ⟨⟨by rw [aA j i e]; exact fd, by rw [aA j i e]; exact q.2⟩, ⟨_, rfl⟩, ⟨_, rfl⟩⟩
  have kind : ∀ (j : Nat) (s : SV), μa[j]? = some s → (∃ d : D, as[j]? = some (Act.val d) ∧ s = SV.v d) ∨ ∃ (i : Nat) (s' : SV), as[j]? = some (Act.ref i) ∧ μ[i]? = some s' ∧ Hand s' s := fun j s e => by
    have lj : j < as.length := by rw [← hl]; exact (List.getElem?_eq_some_iff.mp e).1
    cases f : as[j] with
    | val d =>
      have f' : as[j]? = some (.val d) := by rw [List.getElem?_eq_getElem lj, f]
      have := hv j d f'
      rw [e] at this; cases this
      exact .inl ⟨d, f', rfl⟩
    | ref i =>
      have f' : as[j]? = some (.ref i) := by rw [List.getElem?_eq_getElem lj, f]
      obtain ⟨s', t, h1, h2, h3⟩ := hr j i f'
      rw [e] at h2; cases h2
      exact .inr ⟨i, s', f', h1, h3⟩
  let io : Nat → Option Addr := fun j => match as[j]? with
    | some (.ref i) => some (A i)
    | _ => none
  have ioA : ∀ j i : Nat, as[j]? = some (Act.ref i) → io j = some (A i) := fun j i e => by simp only [io, e]
  refine ⟨S0, io, Aa, ⟨hl.trans al, by simp, fun j s e => ?_, fun j k s t m n e f g q w => ?_, fun j s m e g => ?_, fun p m e => ?_, (fun _ _ e => by cases e), fun j p e => ?_, fun j s e o => ?_⟩, ?_⟩
  · rcases kind j s e with ⟨d, f, rfl⟩ | ⟨i, s', f, g, h⟩
    · show (ds.map some)[j]? = _
      rw [List.getElem?_map, av j d f]; rfl
    · obtain ⟨d, g1, g2⟩ := ar j i f
      exact (hand h (a.slot i s' g) f g1 g2).1
  · rcases kind j s e with ⟨d, _, rfl⟩ | ⟨i, s', f1, g1, h1⟩
    · cases g
    rcases kind k t f with ⟨d, _, rfl⟩ | ⟨i', t', f2, g2, h2⟩
    · cases q
    rw [aA j i f1, aA k i' f2] at w
    obtain ⟨d1, c1, c2⟩ := ar j i f1
    obtain ⟨d2, c3, c4⟩ := ar k i' f2
    obtain ⟨_, _, m1, e1⟩ := hand h1 (a.slot i s' g1) f1 c1 c2
    obtain ⟨_, _, m2, e2⟩ := hand h2 (a.slot i' t' g2) f2 c3 c4
    have := a.inj i i' s' t' m1 m2 g1 g2 e1 e2 w
    subst this
    exact refs_one nd f1 f2
  · rcases kind j s e with ⟨d, _, rfl⟩ | ⟨i, s', f1, g1, h1⟩
    · cases g
    show (if Rf (Aa j) then none else S (Aa j)) = none
    rw [if_pos ⟨i, refs_mem.mpr ⟨j, f1⟩, (aA j i f1).symm⟩]
  · show S p = some m
    by_cases c : Rf p
    · simp only [S0, if_pos c] at e; cases e
    · simp only [S0, if_neg c] at e; exact e
  · cases f : as[j]? with
    | none => simp only [io, f] at e; cases e
    | some w =>
      cases w with
      | val d => simp only [io, f] at e; cases e
      | ref i =>
        have e : io j = some p := e
        rw [ioA j i f] at e
        cases e
        obtain ⟨s, t, _, h2, h3⟩ := hr j i f
        refine ⟨aA j i f, t, h2, ?_⟩
        rcases h3 with ⟨_, _, _, rfl⟩ | ⟨_, _, _, rfl⟩ <;> rfl
  · rcases kind j s e with ⟨d, _, rfl⟩ | ⟨i, s', f1, g1, h1⟩
    · cases o
    · show (io j).isSome = true
      rw [ioA j i f1]; rfl
  · intro μb S' ⟨B, b⟩ μ2 h2 hne hre
    have hb : ∀ i ∈ refs as, ∃ s u : SV, μ[i]? = some s ∧ μ2[i]? = some u ∧ SlotOk ax A σ S' i u ∧ (∃ m, s.dm = some m) ∧ s.own = u.own := fun i hi => by
      obtain ⟨j, s, t, u, e1, e2, e3, e4, e5⟩ := hre i hi
      obtain ⟨d, g1, g2⟩ := ar j i e1
      have fd : (ds.map some)[j]? = some (some d) := by rw [List.getElem?_map, g1]; rfl
      have q := b.slot j t e3
      have qs := a.slot i s e2
      rcases e5 with ⟨w, xs, ys, rfl, rfl, rfl⟩ | ⟨w, xs, ys, rfl, rfl, rfl⟩
      · have z1 := qs.1
        rw [g2] at z1; cases z1
        have z2 := q.1
        rw [fd] at z2
        have z3 : B j = A i := by injection z2 with z2; injection z2 with z2; injection z2 with z2; exact z2.symm
        exact ⟨_, _, e2, e4, ⟨qs.1, by rw [← z3]; exact q.2⟩, ⟨_, rfl⟩, rfl⟩
      · have z1 := qs.1
        rw [g2] at z1; cases z1
        have z2 := q.1
        rw [fd] at z2
        have z3 : B j = A i := by injection z2 with z2; injection z2 with z2; injection z2 with z2; exact z2.symm
        exact ⟨_, _, e2, e4, ⟨qs.1, by rw [← z3]; exact q.2⟩, ⟨_, rfl⟩, rfl⟩
    have keep : ∀ p m, S p = some m → ¬ Rf p → S' p = some m := fun p m e c => b.ext p m (by show (if Rf p then none else S p) = _; rw [if_neg c]; exact e)
    have old : ∀ (i : Nat) (u : SV) (m : DM), μ2[i]? = some u → u.dm = some m → ∃ (s : SV) (m' : DM), μ[i]? = some s ∧ s.dm = some m' := fun i u m e g => by
      by_cases c : i ∈ refs as
      · obtain ⟨s, u', f1, f2, _, ⟨m', f4⟩, _⟩ := hb i c
        exact ⟨s, m', f1, f4⟩
      · rw [hne i c] at e; exact ⟨u, m, e, g⟩
    refine ⟨A, h2.trans a.lenμ, a.lenσ, fun i u e => ?_, fun i j s t m n e f g q w => ?_, fun i u m e g => ?_, fun p m e => ?_, fun i s e => ?_, fun i p e => ?_, fun i u e o => ?_⟩
    · by_cases c : i ∈ refs as
      · obtain ⟨s, u', f1, f2, f3, _⟩ := hb i c
        rw [e] at f2; cases f2; exact f3
      · rw [hne i c] at e
        refine slot_same rfl rfl (fun m g => ?_) (a.slot i u e)
        have hS := slot_dm (a.slot i u e) g
        rw [hS]
        refine keep _ _ hS fun ⟨i', hi', w⟩ => ?_
        obtain ⟨s, _, f1, _, _, ⟨m', f4⟩, _⟩ := hb i' hi'
        have := a.inj i' i s u m' m f1 e f4 g w
        subst this; exact c hi'
    · obtain ⟨s', m', e1, e2⟩ := old i s m e g
      obtain ⟨t', n', f1, f2⟩ := old j t n f q
      exact a.inj i j s' t' m' n' e1 f1 e2 f2 w
    · obtain ⟨s', m', e1, e2⟩ := old i u m e g
      exact a.new i s' m' e1 e2
    · refine keep p m (a.ext p m e) fun ⟨i, hi, w⟩ => ?_
      obtain ⟨s, _, f1, _, _, ⟨m', f4⟩, _⟩ := hb i hi
      have := a.new i s m' f1 f4
      rw [w, e] at this; cases this
    · have f := a.fr i s e
      rw [hne i fun c => ?_]
      · exact f
      · obtain ⟨j, hj⟩ := refs_mem.mp c
        obtain ⟨s', t, h1, _, h3⟩ := hr j i hj
        rw [f] at h1; cases h1
        rcases h3 with ⟨q, xs, z, _⟩ | ⟨q, xs, z, _⟩ <;> cases z
    · obtain ⟨e1, s, e2, e3⟩ := a.io i p e
      refine ⟨e1, ?_⟩
      by_cases c : i ∈ refs as
      · obtain ⟨s', u, f1, f2, _, _, f5⟩ := hb i c
        rw [e2] at f1; cases f1
        exact ⟨u, f2, by rw [← f5]; exact e3⟩
      · exact ⟨s, by rw [hne i c]; exact e2, e3⟩
    · by_cases c : i ∈ refs as
      · obtain ⟨s', u', f1, f2, _, _, f5⟩ := hb i c
        rw [e] at f2; cases f2
        exact a.oi i s' f1 (by rw [f5]; exact o)
      · rw [hne i c] at e; exact a.oi i u e o
end
section
variable {C : Str → Addr} {ax : Ax} {X : Cx} {W : WX} {e : Expr} {pos : Pos} {es : List Expr} {l : MA}
theorem xc_hasI {k : Nat} {ps : List Pk} {ns : List Str} {m : List D → Ct ps → R (Ct ps) D} {x : Str} {p : Pos} (tk : Takes X W) (F : Has X.prog X.w X.K X.mg X.base k x ns (spI C ps m)) (hr : Room k X.A) (hg : Gl X x) (ha : XAC C ax X W (e :: es) l) (hd : (x == ("__debug__" : Str)) = false := by decide)
    (hs : starEach (e :: es) X.env = (false, eval e X.env) :: starEach es X.env := by rfl) (hpl : (backTo pos (starEach es X.env)).any (·.1) = false := by rfl) :
    XC C ax X W (.Call (.Name x p) (e :: es) [] pos) (mCallI ps m l) := deI (de_has tk F hr hg ha hd hs hpl) fun E σ S Q ⟨fx, μ, β, k, ex, bd, Φ, r, z, h⟩ =>
  ⟨fx, μ, β, _, ex, bd, Φ, r, z.to fun as μ1 S1 r1 h1 ds hds => by
    obtain ⟨hn, h1⟩ := guard_ok h1 z.bad
    have nd := nodup_ok hn
    obtain ⟨vs, c, h1, hl, hp, hv, hr⟩ := takeA_ok (Φ := Φ) h1 z.bad
    obtain ⟨S0, io, Aa, ra, back⟩ := r1.call hds nd hl hv hr
    have en : ds.length = ps.length := by rw [← (act_get hds).1, hp]
    rw [en] at ra back
    refine ⟨en, S0, io, vs, c, Aa, ra, ?_⟩
    cases g : m vs c with
    | bad => rw [g] at h1; exact absurd h1 z.bad
    | ok d c' =>
      rw [g] at h1
      intro S' rb
      obtain ⟨μ2, h2, q1, q2, q3⟩ := giveA_ok (Φ := Φ) h1 z.bad nd
      exact z.k d μ2 S' (back _ S' rb μ2 q1 q2 q3) h2
    | er y fs c' =>
      rw [g] at h1
      intro S' rb
      obtain ⟨μ2, h2, q1, q2, q3⟩ := giveA_ok (Φ := Φ) h1 z.bad nd
      exact z.ex y fs μ2 S' (back _ S' rb μ2 q1 q2 q3) h2, h⟩
end
/-! ### the rule of a def -/
def Sub (S' S : Sto) : Prop := ∀ b m, S' b = some m → S b = some m
def dropZ (Z : DEnds) : DEnds where
  nx := fun σ S => ∃ S', Sub S' S ∧ Z.nx σ S'
  rt := fun d S => ∃ S', Sub S' S ∧ Z.rt d S'
  bk := fun σ S => ∃ S', Sub S' S ∧ Z.bk σ S'
  ct := fun σ S => ∃ S', Sub S' S ∧ Z.ct σ S'
  ex := fun C d σ S => ∃ S', Sub S' S ∧ Z.ex C d σ S'
section
variable {K : PySem.W.Frag} {G H G' H' : Hp} {S S' S1 : Sto}
theorem wok_sub (w : Wok K G H S) (h : Sub S' S) : Wok K G H S' := ⟨w.ext, fun p m e => w.sto p m (h p m e)⟩
theorem fr_sub (f : Fr G H S G' H' S') (h : Sub S1 S') : Fr G H S G' H' S1 := ⟨f.g, fun a o e g s => by
  obtain ⟨h1, h2, h3⟩ := f.fr a o e g s
  refine ⟨h1, h2, ?_⟩
  cases q : S1 a with
  | none => rfl
  | some m => rw [h a m q] at h3; cases h3⟩
theorem dss_drop {X : Cx} {W : WX} {sts : List Stmt} {r : DTS} (h : DSs X W sts r) : DSs X W sts (fun Z σ S => r (dropZ Z) σ S) := by
  obtain ⟨t, p, ev⟩ := h
  refine ⟨t, p, ⟨fun Dd G H S σV σ Dh eo k s h => ev.run (dropZ Dd) G H S σV σ Dh ⟨⟨?_⟩, ?_, ⟨?_⟩, ⟨?_⟩, ?_⟩ k s h⟩⟩
  · exact fun σ' S' G' H' σV' ⟨S2, u, q⟩ k f s => eo.nx.go σ' S2 G' H' σV' q (wok_sub k u) (fr_sub f u) s
  · exact fun d S' G' H' v ⟨S2, u, q⟩ k f r => eo.rt d S2 G' H' v q (wok_sub k u) (fr_sub f u) r
  · exact fun σ' S' G' H' σV' ⟨S2, u, q⟩ k f s => eo.bk.go σ' S2 G' H' σV' q (wok_sub k u) (fr_sub f u) s
  · exact fun σ' S' G' H' σV' ⟨S2, u, q⟩ k f s => eo.ct.go σ' S2 G' H' σV' q (wok_sub k u) (fr_sub f u) s
  · exact fun C d σ' S' G' H' σV' ⟨S2, u, q⟩ k f s => eo.ex C d σ' S2 G' H' σV' q (wok_sub k u) (fr_sub f u) s
end
def zTop : ZM (P D) := ⟨fun _ => .ok .non (), fun d _ => .ok d (), fun _ => .bad, fun _ => .bad, fun c fs _ => .er c fs (), .bad⟩
def getC {β : Type} : (ps : List Pk) → Nat → Env → (Ct ps → β) → β → β
  | [], _, _, k, _ => k ()
  | .v :: r, n, μ, k, b => getC r (n + 1) μ k b
  | .l :: r, n, μ, k, b => match μ[n]? with
    | some (.l true xs) => getC r (n + 1) μ (fun c => k (xs, c)) b
    | _ => b
  | .k :: r, n, μ, k, b => match μ[n]? with
    | some (.k true xs) => getC r (n + 1) μ (fun c => k (xs, c)) b
    | _ => b
def zTopI (ps : List Pk) : ZM (R (Ct ps) D) := ⟨fun μ => getC ps 0 μ (fun c => .ok .non c) .bad, fun d μ => getC ps 0 μ (fun c => .ok d c) .bad, fun _ => .bad, fun _ => .bad, fun x fs μ => getC ps 0 μ (fun c => .er x fs c) .bad, .bad⟩
section
variable {P : Program} {w : World} {K : PySem.W.Frag} {mg : Str → Option Value} {base : Heap} {C : Str → Addr}
theorem start_get {N : List Str} {ds : List D} {i : Nat} {s : SV} (h : (ds.map SV.v ++ List.replicate (N.length - ds.length) SV.un)[i]? = some s) : s = .un ∨ ∃ d, s = .v d ∧ (dstart N ds)[i]? = some (some d) := by
  by_cases c : i < ds.length
  · rw [List.getElem?_append_left (by simpa using c), List.getElem?_map, List.getElem?_eq_getElem c] at h
    simp only [Option.map_some, Option.some.injEq] at h
    refine .inr ⟨ds[i], h.symm, ?_⟩
    unfold dstart
    rw [List.getElem?_append_left (by simpa using c), List.getElem?_map, List.getElem?_eq_getElem c]; rfl
  · rw [List.getElem?_append_right (by simpa using c), List.getElem?_replicate] at h
    split at h
    · cases h; exact .inl rfl
    · cases h
theorem pureP {N ps : List Str} {m : List D → KM.P D} {s : MS} (hN : ps.length ≤ N.length) (hm : ∀ ds, ds.length = ps.length → m ds = s _ zTop (ds.map .v ++ List.replicate (N.length - ds.length) .un)) (ds : List D) (S : Sto) (Q : DK) (E : DEr) (h : spP C ps.length m ds S Q E) : rdS C ax0 s (dropZ (dends Q E)) (dstart N ds) S := by
  obtain ⟨hl, hp⟩ := h
  rw [hm ds hl] at hp
  refine ⟨⟨N.length, fun _ => none, S, fun _ => none⟩, _, _, zTop, fun y => post C E S (fun d => Q d S) y, ⟨fun _ => 0, ?_⟩, ⟨id, ?_, ?_, ?_, ?_, ?_⟩, hp⟩
  · refine ⟨by simp; omega, by simp [dstart]; omega, fun i t e => ?_, fun i j t u a b e f g q _ => ?_, fun i t a e g => ?_, fun b a e => e, (fun i t e => by cases e), (fun i t e => by cases e), fun i t e o => ?_⟩
    · rcases start_get e with rfl | ⟨d, rfl, h⟩
      · trivial
      · exact h
    · rcases start_get e with rfl | ⟨d, rfl, h⟩ <;> cases g
    · rcases start_get e with rfl | ⟨d, rfl, h⟩ <;> cases g
    · rcases start_get e with rfl | ⟨d, rfl, h⟩ <;> cases o
  · exact fun μ σ S' ⟨_, r⟩ h => ⟨S, r.ext, h⟩
  · exact fun d μ σ S' ⟨_, r⟩ h => ⟨S, r.ext, h⟩
  · exact fun μ σ S' _ h => h.elim
  · exact fun μ σ S' _ h => h.elim
  · intro c fs μ σ S' ⟨_, r⟩ h p hp
    have h0 : S p = none := by
      cases q : S p with
      | none => rfl
      | some a => have := r.ext p a q; rw [hp] at this; cases this
    refine ⟨put S p (.xd fs), fun b a e => ?_, h p h0⟩
    by_cases z : b = p
    · subst z; rw [put_same] at e ⊢; exact e
    · rw [put_ne z] at e ⊢; exact r.ext b a e
theorem okP {x : Str} {st : Stmt} {N ps : List Str} {k : Nat} {m : List D → KM.P D} {s : MS} (A : At K mg x st ps) (Sc : FnScope N ps (defScope st)) (hN : ps.length ≤ N.length) (hm : ∀ ds, ds.length = ps.length → m ds = s _ zTop (ds.map .v ++ List.replicate (N.length - ds.length) .un))
    (hb : ∀ (f : Addr) (cdv : Value) (A : Around) (outer : List PySem.Env) (s0 : Shared) (H : Hp) (E : XK), Room k (A.deeper (envOfC x (defScope st) s0.heap.objs.size f cdv)) →
      XSs C ax0 (cxOf (L2.CX P w) P w K mg base N x (defScope st) f cdv A outer s0 H E) (fun cls d _ H' => E cls d H') (defBody st) s) : Has P w K mg base (k + 1) x ps (spP C ps.length m) :=
  okH (k := k) A Sc (fun ds S Q E h => h.1) fun f cdv A outer s0 H E hr => ⟨_, dss_drop (hb f cdv A outer s0 H E hr), pureP hN hm⟩
/-- the law's own def -/
theorem okLaw {st : Stmt} {f : Addr} {fd : FuncData} {N : List Str} {k : Nat} {m : D → KM.P D} {s : MS} (F : Fun K "law" "law" st f fd) (Sc : FnScope N ["script"] (defScope st)) (hN : 1 ≤ N.length) (hm : ∀ d, m d = s _ zTop (SV.v d :: List.replicate (N.length - 1) .un)) (hl : ∀ ns : List Int, ns.length ≤ 63 → m (.scr ns) = .ok (.bl true) ())
    (hb : ∀ (f : Addr) (cdv : Value) (A : Around) (outer : List PySem.Env) (s0 : Shared) (H : Hp) (E : XK), Room k (A.deeper (envOfC "law" (defScope st) s0.heap.objs.size f cdv)) →
      XSs C ax0 (cxOf (L2.CX P w) P w K mg base N "law" (defScope st) f cdv A outer s0 H E) (fun cls d _ H' => E cls d H') (defBody st) s) : FnOk P w K mg base (L2.CX P w) (k + 1) f fd ["script"] (lift K spLaw) :=
  okD (k := k) F Sc (fun ds S Q E h => by obtain ⟨ns, rfl, _⟩ := h; rfl) fun cdv A outer s0 H E hr => ⟨_, dss_drop (hb f cdv A outer s0 H E hr), fun ds S Q E ⟨ns, e1, e2, e3, e4⟩ => by
    subst e1
    refine pureP (m := fun ds => match ds with | [d] => m d | _ => .bad) (ps := ["script"]) hN (fun ds hd => ?_) _ S Q E ⟨rfl, ?_⟩
    · match ds, hd with
      | [d], _ => exact hm d
    · show post C E S _ (m (.scr ns))
      rw [hl ns e2]; exact e4 S⟩
theorem getC_ok {β : Type} {Φ : β → Prop} {b : β} : ∀ {ps : List Pk} {n : Nat} {μ : Env} {k : Ct ps → β}, Φ (getC ps n μ k b) → ¬ Φ b → ∃ c, Φ (k c) ∧ ∀ (j : Nat) (t : SV), (argU ps c)[j]? = some t → t = .un ∨ (μ[n + j]? = some t ∧ t.own = true ∧ ((∃ xs, t = .l true xs) ∨ ∃ xs, t = .k true xs))
  | [], n, μ, k, h, hb => ⟨(), h, fun j t e => by simp [argU] at e⟩
  | .v :: r, n, μ, k, h, hb => by
    obtain ⟨c, h1, h2⟩ := getC_ok (ps := r) (n := n + 1) h hb
    refine ⟨c, h1, fun j t e => ?_⟩
    cases j with
    | zero => simp [argU] at e; exact .inl e.symm
    | succ j =>
      rcases h2 j t (by simpa [argU] using e) with h | h
      · exact .inl h
      · exact .inr (by rw [show n + (j + 1) = n + 1 + j by omega]; exact h)
  | .l :: r, n, μ, k, h, hb => by
    have key : ∃ xs, μ[n]? = some (.l true xs) ∧ Φ (getC r (n + 1) μ (fun c => k (xs, c)) b) := by
      unfold getC at h
      split at h
      · exact ⟨_, by assumption, h⟩
      · exact absurd h hb
    obtain ⟨xs, hx, h⟩ := key
    obtain ⟨c, h1, h2⟩ := getC_ok (ps := r) (n := n + 1) h hb
    refine ⟨(xs, c), h1, fun j t e => ?_⟩
    cases j with
    | zero => simp [argU] at e; subst e; exact .inr ⟨hx, rfl, .inl ⟨xs, rfl⟩⟩
    | succ j =>
      rcases h2 j t (by simpa [argU] using e) with h | h
      · exact .inl h
      · exact .inr (by rw [show n + (j + 1) = n + 1 + j by omega]; exact h)
  | .k :: r, n, μ, k, h, hb => by
    have key : ∃ xs, μ[n]? = some (.k true xs) ∧ Φ (getC r (n + 1) μ (fun c => k (xs, c)) b) := by
      unfold getC at h
      split at h
      · exact ⟨_, by assumption, h⟩
      · exact absurd h hb
    obtain ⟨xs, hx, h⟩ := key
    obtain ⟨c, h1, h2⟩ := getC_ok (ps := r) (n := n + 1) h hb
    refine ⟨(xs, c), h1, fun j t e => ?_⟩
    cases j with
    | zero => simp [argU] at e; subst e; exact .inr ⟨hx, rfl, .inr ⟨xs, rfl⟩⟩
    | succ j =>
      rcases h2 j t (by simpa [argU] using e) with h | h
      · exact .inl h
      · exact .inr (by rw [show n + (j + 1) = n + 1 + j by omega]; exact h)
theorem argU_len : ∀ {ps : List Pk} {c : Ct ps}, (argU ps c).length = ps.length
  | [], _ => rfl
  | .v :: r, c => by simp [argU, argU_len (ps := r)]
  | .l :: r, c => by simp [argU, argU_len (ps := r)]
  | .k :: r, c => by simp [argU, argU_len (ps := r)]
theorem argE_own : ∀ {ps : List Pk} {ds : List D} {c c' : Ct ps} {i : Nat} {t : SV}, (argE ps ds c)[i]? = some t → t.core = t ∧ (t.own = true → ∃ u : SV, (argU ps c')[i]? = some u ∧ u.own = true)
  | [], ds, c, c', i, t, e => by simp [argE] at e
  | .v :: r, d :: ds, c, c', i, t, e => by
    cases i with
    | zero => simp [argE] at e; subst e; exact ⟨rfl, fun h => by cases h⟩
    | succ i => simpa [argU] using argE_own (ps := r) (ds := ds) (c := c) (c' := c') (i := i) (by simpa [argE] using e)
  | .v :: r, [], c, c', i, t, e => by
    cases i with
    | zero => simp [argE] at e; subst e; exact ⟨rfl, fun h => by cases h⟩
    | succ i => simpa [argU] using argE_own (ps := r) (ds := []) (c := c) (c' := c') (i := i) (by simpa [argE] using e)
  | .l :: r, ds, c, c', i, t, e => by
    cases i with
    | zero => simp [argE] at e; subst e; exact ⟨rfl, fun h => ⟨.l true c'.1, by simp [argU], rfl⟩⟩
    | succ i => simpa [argU] using argE_own (ps := r) (ds := ds) (c := c.2) (c' := c'.2) (i := i) (by simpa [argE] using e)
  | .k :: r, ds, c, c', i, t, e => by
    cases i with
    | zero => simp [argE] at e; subst e; exact ⟨rfl, fun h => ⟨.k true c'.1, by simp [argU], rfl⟩⟩
    | succ i => simpa [argU] using argE_own (ps := r) (ds := ds) (c := c.2) (c' := c'.2) (i := i) (by simpa [argE] using e)
theorem core_p : ∀ {t s : SV}, t.core ≠ .p s
  | .un, _, h => nomatch h
  | .v _, _, h => nomatch h
  | .l _ _, _, h => nomatch h
  | .k _ _, _, h => nomatch h
  | .x _ _, _, h => nomatch h
  | .p t, _, h => core_p (t := t) h
theorem okI {x : Str} {st : Stmt} {N ns : List Str} {k : Nat} {ps : List Pk} {m : List D → Ct ps → R (Ct ps) D} {s : MS} (A : At K mg x st ns) (Sc : FnScope N ns (defScope st)) (hn : ns.length = ps.length) (hN : ps.length ≤ N.length) (hm : ∀ vs c, m vs c = .bad ∨ m vs c = s _ (zTopI ps) (argE ps vs c ++ List.replicate (N.length - ps.length) .un))
    (hb : ∀ (f : Addr) (cdv : Value) (A : Around) (outer : List PySem.Env) (s0 : Shared) (H : Hp) (E : XK), Room k (A.deeper (envOfC x (defScope st) s0.heap.objs.size f cdv)) →
      XSs C ax0 (cxOf (L2.CX P w) P w K mg base N x (defScope st) f cdv A outer s0 H E) (fun cls d _ H' => E cls d H') (defBody st) s) : Has P w K mg base (k + 1) x ns (spI C ps m) := by
  have key : ∀ ds S Q E, spI C ps m ds S Q E → rdS C ax0 s (dends Q E) (dstart N ds) S := by
    intro ds S Q E ⟨hl, S0, io, vs, c, B, r, hp⟩
    rcases hm vs c with hf | hf
    · rw [hf] at hp; exact hp.elim
    rw [hf] at hp
    generalize hμ : argE ps vs c = μ at r hp
    have lm : μ.length = ps.length := r.lenμ
    have hcore : ∀ (i : Nat) (t : SV), μ[i]? = some t → t.core = t := fun i t e => (argE_own (c' := c) (by rw [hμ]; exact e)).1
    have sg : ∀ {i : Nat} {t : SV}, (μ ++ List.replicate (N.length - ps.length) SV.un)[i]? = some t → t = .un ∨ (i < ps.length ∧ μ[i]? = some t) := fun {i t} e => by
      by_cases c : i < μ.length
      · rw [List.getElem?_append_left c] at e
        exact .inr ⟨by omega, e⟩
      · rw [List.getElem?_append_right (by omega), List.getElem?_replicate] at e
        split at e
        · cases e; exact .inl rfl
        · cases e
    have dg : ∀ i, i < ps.length → (dstart N ds)[i]? = (ds.map some)[i]? := fun i h => by
      unfold dstart; rw [List.getElem?_append_left (by simp; omega)]
    have start : Rl ax0 ⟨N.length, fun _ => none, S0, io⟩ (μ ++ List.replicate (N.length - ps.length) SV.un) (dstart N ds) S B := by
      refine ⟨by simp; omega, by simp [dstart]; omega, fun i t e => ?_, fun i j t u a b e f g q z => ?_, fun i t a e g => ?_, r.ext, (fun i t e => by cases e), fun i p e => ?_, fun i t e o => ?_⟩
      · rcases sg e with rfl | ⟨h, e⟩
        · trivial
        · exact slot_same (dg i h) rfl (fun _ _ => rfl) (r.slot i t e)
      · rcases sg e with rfl | ⟨h, e⟩
        · cases g
        rcases sg f with rfl | ⟨h, f⟩
        · cases q
        exact r.inj i j t u a b e f g q z
      · rcases sg e with rfl | ⟨h, e⟩
        · cases g
        exact r.new i t a e g
      · obtain ⟨e1, t, e2, e3⟩ := r.io i p e
        exact ⟨e1, t, by rw [List.getElem?_append_left (List.getElem?_eq_some_iff.mp e2).1]; exact e2, e3⟩
      · rcases sg e with rfl | ⟨h, e⟩
        · cases o
        exact r.oi i t e o
    have fin : ∀ μ' σ S' (c' : Ct ps), Rel ax0 ⟨N.length, fun _ => none, S0, io⟩ μ' σ S' → (∀ (j : Nat) (t : SV), (argU ps c')[j]? = some t → t = .un ∨ (μ'[0 + j]? = some t ∧ t.own = true ∧ ((∃ xs, t = .l true xs) ∨ ∃ xs, t = .k true xs))) → Rel ax0 ⟨ps.length, fun _ => none, S0, io⟩ (argU ps c') (ds.map some) S' := fun μ' σ S' c' ⟨A', r'⟩ hc => by
      have hc : ∀ (j : Nat) (t : SV), (argU ps c')[j]? = some t → t = .un ∨ (μ'[j]? = some t ∧ t.own = true ∧ ((∃ xs, t = .l true xs) ∨ ∃ xs, t = .k true xs)) := fun j t e => by have := hc j t e; rwa [Nat.zero_add] at this
      have own : ∀ i t, μ'[i]? = some t → t.own = true → ∃ p, io i = some p ∧ A' i = p ∧ (ds.map some)[i]? = some (some (.ref p)) := fun i t e o => by
        have := r'.oi i t e o
        cases q : io i with
        | none => rw [show (Fx.mk N.length (fun _ => none) S0 io).io i = io i from rfl, q] at this; cases this
        | some p =>
          obtain ⟨e1, _⟩ := r'.io i p q
          obtain ⟨e2, t', e3, e4⟩ := r.io i p q
          refine ⟨p, rfl, e1, ?_⟩
          have sl := r.slot i t' e3
          have hc := hcore i t' e3
          rw [← e2]
          cases t' with
          | l _ xs => exact sl.1
          | k _ xs => exact sl.1
          | p t' => exact absurd hc core_p
          | _ => cases e4
      refine ⟨A', argU_len, by simp [hl], fun i t e => ?_, fun i j t u a b e f g q z => ?_, fun i t a e g => ?_, r'.ext, (fun i t e => by cases e), fun i p e => ?_, fun i t e o => ?_⟩
      · rcases hc i t e with rfl | ⟨e', o, w⟩
        · trivial
        · obtain ⟨p, _, h2, h3⟩ := own i t e' o
          have sl := r'.slot i t e'
          rcases w with ⟨xs, rfl⟩ | ⟨xs, rfl⟩
          · exact ⟨by rw [h2]; exact h3, sl.2⟩
          · exact ⟨by rw [h2]; exact h3, sl.2⟩
      · rcases hc i t e with rfl | ⟨e', _⟩
        · cases g
        rcases hc j u f with rfl | ⟨f', _⟩
        · cases q
        exact r'.inj i j t u a b e' f' g q z
      · rcases hc i t e with rfl | ⟨e', _⟩
        · cases g
        exact r'.new i t a e' g
      · obtain ⟨e1, _⟩ := r'.io i p e
        obtain ⟨_, t, e2, e3⟩ := r.io i p e
        exact ⟨e1, (argE_own (c' := c') (by rw [hμ]; exact e2)).2 e3⟩
      · rcases hc i t e with rfl | ⟨e', _⟩
        · cases o
        exact r'.oi i t e' o
    let Φ : R (Ct ps) D → Prop := fun y => (match y with
      | .ok d c' => ∀ S', Rel ax0 ⟨ps.length, fun _ => none, S0, io⟩ (argU ps c') (ds.map some) S' → Q d S'
      | .er x fs c' => ∀ S', Rel ax0 ⟨ps.length, fun _ => none, S0, io⟩ (argU ps c') (ds.map some) S' → ∀ p, S' p = none → E (C x) p (put S' p (.xd fs))
      | .bad => False)
    have nb : ¬ Φ .bad := id
    refine ⟨⟨N.length, fun _ => none, S0, io⟩, _, _, zTopI ps, Φ, ⟨B, start⟩, ⟨nb, ?_, ?_, ?_, ?_, ?_⟩, hp⟩
    · intro μ' σ S' r' h
      obtain ⟨c', h, q⟩ := getC_ok (Φ := Φ) h nb
      exact h S' (fin μ' σ S' c' r' q)
    · intro d μ' σ S' r' h
      obtain ⟨c', h, q⟩ := getC_ok (Φ := Φ) h nb
      exact h S' (fin μ' σ S' c' r' q)
    · exact fun μ' σ S' _ h => h.elim
    · exact fun μ' σ S' _ h => h.elim
    · intro x fs μ' σ S' r' h p hp
      obtain ⟨c', h, q⟩ := getC_ok (Φ := Φ) h nb
      exact h S' (fin μ' σ S' c' r' q) p hp
  exact okH (k := k) A Sc (fun ds S Q E h => h.1.trans hn.symm) fun f cdv A outer s0 H E hr => ⟨_, hb f cdv A outer s0 H E hr, fun ds S Q E h => key ds S Q E h⟩
end
end KM

set_option maxRecDepth 100000
set_option maxHeartbeats 4000000
/-! Km4: operators and built-ins as functions upon data. -/
namespace KM
open PySem PySem.Spec PyProof.Rows L2 KD
section
variable {S : Sto} {x0 x y0 y : D}
theorem vwx (h : Vw S x0 x) (hx : ∀ p, x ≠ .ref p) : vw S x0 = x := by
  rcases h with rfl | h
  · cases x0 <;> first | rfl | exact absurd rfl (hx _)
  · exact h
theorem vw_refs {p : Addr} : (∃ xs, vw S (.ref p) = .lst xs) ∨ (∃ xs, vw S (.ref p) = .dic xs) ∨ (∃ xs, vw S (.ref p) = .dit xs) ∨ vw S (.ref p) = .ref p := by
  simp only [vw]
  split <;> simp
theorem vw_exact (h : Vw S x0 x) (h1 : ∀ xs, x ≠ .lst xs) (h2 : ∀ xs, x ≠ .dic xs) (h3 : ∀ xs, x ≠ .dit xs) : x0 = x := by
  rcases h with h | h
  · exact h
  · cases x0 with
    | ref p =>
      rcases vw_refs (S := S) (p := p) with ⟨_, e⟩ | ⟨_, e⟩ | ⟨_, e⟩ | e
      · exact absurd (h.symm.trans e) (h1 _)
      · exact absurd (h.symm.trans e) (h2 _)
      · exact absurd (h.symm.trans e) (h3 _)
      · exact e.symm.trans h
    | _ => exact h
theorem vw_flatD (h : Vw S x0 x) (hx : flatD x = true) : x0 = x := vw_exact h (fun _ e => by subst e; cases hx) (fun _ e => by subst e; cases hx) (fun _ e => by subst e; cases hx)
end
/-! ### ints -/
def intOp (g : Int → Int → Option D) : D → D → Option D := fun x y => match x, y with
  | .int i, .int j => g i j
  | _, _ => none
theorem intOp_ok {g : Int → Int → Option D} {x y d : D} (h : intOp g x y = some d) : ∃ i j, x = .int i ∧ y = .int j ∧ g i j = some d := by
  cases x <;> cases y <;> first | (cases h; done) | exact ⟨_, _, rfl, rfl, h⟩
theorem ok_I {P : Int → Int → Prop} {g' : Int → Int → D} {g : Int → Int → Option D} (h : ∀ i j d, g i j = some d → P i j ∧ d = g' i j) : OpOk (dI P g') (intOp g) := fun x y x0 y0 S d Q v w e q => by
  obtain ⟨i, j, rfl, rfl, e⟩ := intOp_ok e
  obtain ⟨h1, rfl⟩ := h i j d e
  have := vw_flatD v rfl; subst this
  have := vw_flatD w rfl; subst this
  exact ⟨h1, q⟩
theorem ok_I0 {g' : Int → Int → D} {g : Int → Int → Option D} (h : ∀ i j d, g i j = some d → d = g' i j) : OpOk (dI0 g') (intOp g) := fun x y x0 y0 S d Q v w e q => by
  obtain ⟨i, j, rfl, rfl, e⟩ := intOp_ok e
  have := h i j d e; subst this
  have := vw_flatD v rfl; subst this
  have := vw_flatD w rfl; subst this
  exact q
def subD : D → D → Option D := intOp fun i j => some (.int (i - j))
def modD : D → D → Option D := intOp fun i j => if 0 < j then some (.int (i % j)) else none
def fdivD : D → D → Option D := intOp fun i j => if 0 < j ∧ j < 18446744073709551616 then some (.int (i / j)) else none
def powD : D → D → Option D := intOp fun i j => if 0 ≤ j ∧ j ≤ 1000000 ∧ i.natAbs < 18446744073709551616 then some (.int (i ^ j.toNat)) else none
def xorD : D → D → Option D := intOp fun i j => some (.int (Builtin.bitXor i j))
theorem ok_sub : OpOk dSub subD := ok_I0 fun i j d h => (Option.some.inj h).symm
theorem ok_xor : OpOk dXor xorD := ok_I0 fun i j d h => (Option.some.inj h).symm
theorem ok_mod : OpOk dMod modD := ok_I fun i j d h => by
  split at h
  · exact ⟨by assumption, (Option.some.inj h).symm⟩
  · cases h
theorem ok_fdiv : OpOk dFdiv fdivD := ok_I fun i j d h => by
  split at h
  · rename_i c
    refine ⟨⟨c.1, ?_⟩, (Option.some.inj h).symm⟩
    have h0 : j.natAbs ≠ 0 := by omega
    have h1 : j.natAbs < 2 ^ 64 := by omega
    exact Nat.lt_of_lt_of_le ((Nat.log2_lt h0).mpr h1) (by decide)
  · cases h
theorem ok_pow : OpOk dPow powD := ok_I fun i j d h => by
  split at h
  · rename_i c
    exact ⟨c, (Option.some.inj h).symm⟩
  · cases h
def cmpI (g : Int → Int → Bool) : D → D → Option Bool := fun x y => match x, y with
  | .int i, .int j => some (g i j)
  | _, _ => none
theorem ok_cmp {g : Int → Int → Bool} : CmOk (dI0 fun i j => .bl (g i j)) (cmpI g) := fun x y x0 y0 S d Q v w e q => by
  cases x <;> cases y <;> simp only [cmpI, reduceCtorEq, Option.some.injEq] at e
  subst e
  have := vw_flatD v rfl; subst this
  have := vw_flatD w rfl; subst this
  exact q
def ltD := cmpI fun i j => decide (i < j)
def leD := cmpI fun i j => decide (i ≤ j)
def gtD := cmpI fun i j => decide (j < i)
def geD := cmpI fun i j => decide (j ≤ i)
theorem ok_lt : CmOk dLt ltD := ok_cmp
theorem ok_le : CmOk dLe leD := ok_cmp
theorem ok_gt : CmOk dGt gtD := ok_cmp
theorem ok_ge : CmOk dGe geD := ok_cmp
def negD : D → Option D
  | .int i => some (.int (-i))
  | _ => none
theorem ok_neg : UnOk (fun i => -i) negD := fun x d h => by
  cases x <;> simp only [negD, reduceCtorEq, Option.some.injEq] at h
  exact ⟨_, rfl, h.symm⟩
/-! ### + and * -/
def szO {α : Type} (n : Nat) (a : α) : Option α := if n ≤ 16777216 then some a else none
theorem szO_ok {α : Type} {n : Nat} {a d : α} (h : szO n a = some d) : n ≤ sizeLine ∧ d = a := by
  unfold szO at h
  split at h
  · exact ⟨size_ok (by assumption), (Option.some.inj h).symm⟩
  · cases h
def addD (x y : D) : Option D := match x, y with
  | .int i, .int j => some (.int (i + j))
  | .str i, .str j => szO (i.length + j.length) (.str (i ++ j))
  | .lst xs, .lst ys => szO (xs.length + ys.length) (.lst (xs ++ ys))
  | .tup xs, .tup ys => szO (xs.length + ys.length) (.tup (xs ++ ys))
  | _, _ => none
theorem ok_add : OpOk dAdd addD := fun x y x0 y0 S d Q v w e q => by
  unfold dAdd
  cases x <;> cases y <;> simp only [addD, reduceCtorEq] at e
  · rw [vwx v (by simp), vwx w (by simp)]; cases e; exact q
  · rw [vwx v (by simp), vwx w (by simp)]
    obtain ⟨h1, rfl⟩ := szO_ok e; exact ⟨h1, q⟩
  · rw [vwx v (by simp), vwx w (by simp)]
    obtain ⟨h1, rfl⟩ := szO_ok e; exact ⟨h1, q⟩
  · rw [vwx v (by simp), vwx w (by simp)]
    obtain ⟨h1, rfl⟩ := szO_ok e; exact ⟨h1, q⟩
def mulOk (i j : Int) : Prop := i.natAbs < 18446744073709551616 ∨ j.natAbs < 18446744073709551616
instance {i j : Int} : Decidable (mulOk i j) := inferInstanceAs (Decidable (_ ∨ _))
theorem mulOk_ok {i j : Int} (h : mulOk i j) : IntMulOk i j := by
  rcases h with h | h
  · exact CMul.ok (.inl ⟨by omega, by omega⟩)
  · exact CMul.ok (.inr ⟨by omega, by omega⟩)
def mulD (x y : D) : Option D := match x, y with
  | .int i, .int j => if mulOk i j then some (.int (i * j)) else none
  | .lst xs, .int k => if -9223372036854775808 ≤ k ∧ k < 9223372036854775808 ∧ xs.length * k.toNat ≤ 16777216 then some (.lst (List.replicate k.toNat xs).flatten) else none
  | .tup xs, .int k => if 1 ≤ k ∧ k ≤ 1000 ∧ xs.length ≤ 1000 then some (.tup (List.replicate k.toNat xs).flatten) else none
  | _, _ => none
theorem ok_mul : OpOk dMulG mulD := fun x y x0 y0 S d Q v w e q => by
  unfold dMulG
  cases x <;> cases y <;> simp only [mulD, reduceCtorEq] at e
  · rw [vwx v (by simp)]; have := vw_flatD w rfl; subst this
    split at e
    · cases e; exact ⟨mulOk_ok (by assumption), q⟩
    · cases e
  · rw [vwx v (by simp)]; have := vw_flatD w rfl; subst this
    split at e
    · rename_i c
      cases e; exact ⟨by omega, by omega, size_ok c.2.2, q⟩
    · cases e
  · rw [vwx v (by simp)]; have := vw_flatD w rfl; subst this
    split at e
    · rename_i c
      cases e; exact ⟨c.1, c.2.1, c.2.2, q⟩
    · cases e
/-! ### == -/
def eqC (x y : D) : Option Bool := match flatD x && flatD y with
  | true => some (eqF x y)
  | false => match x, y with
    | .lst [], .lst ys => some ys.isEmpty
    | .lst xs, .lst [] => some xs.isEmpty
    | _, _ => if plD 64 x = true ∧ plD 64 y = true then some (eqD x y) else match x, y with
      | .lst xs, .lst ys => if xs.length ≠ ys.length then some false else none
      | _, _ => none
theorem eq_flat (v : Vw S x0 x) (w : Vw S y0 y) (h : (flatD x && flatD y) = false) : (match flatD x0, flatD y0 with | true, true => false | _, _ => true) = true := by
  split
  · rename_i h1 h2
    have e1 : x = x0 := by rcases v with v | v; exact v.symm; rw [vw_flat h1] at v; exact v.symm
    have e2 : y = y0 := by rcases w with v | v; exact v.symm; rw [vw_flat h2] at v; exact v.symm
    rw [e1, e2, h1, h2] at h; cases h
  · rfl
theorem eqC_ok {x y : D} {b : Bool} (h : eqC x y = some b) (hf : (flatD x && flatD y) = false) : (∀ p, x ≠ .ref p) ∧ (∀ p, y ≠ .ref p) ∧ ((∃ p q, toPy x = some p ∧ toPy y = some q ∧ SeqAt.shaped p = true ∧ SeqAt.shaped q = true ∧ b = PyData.eqv p q) ∨ ∃ xs ys, x = .lst xs ∧ y = .lst ys ∧ ((xs.length ≠ ys.length ∧ b = false) ∨ (xs = [] ∧ ys = [] ∧ b = true))) := by
  unfold eqC at h
  rw [hf] at h
  dsimp only at h
  have lcase : ∀ (xs ys : List D) (b : Bool), (xs = [] ∧ b = ys.isEmpty) ∨ (ys = [] ∧ b = xs.isEmpty) → (xs.length ≠ ys.length ∧ b = false) ∨ (xs = [] ∧ ys = [] ∧ b = true) := fun xs ys b h => by
    rcases h with ⟨rfl, rfl⟩ | ⟨rfl, rfl⟩
    · cases ys with
      | nil => exact .inr ⟨rfl, rfl, rfl⟩
      | cons a l => exact .inl ⟨by simp, rfl⟩
    · cases xs with
      | nil => exact .inr ⟨rfl, rfl, rfl⟩
      | cons a l => exact .inl ⟨by simp, rfl⟩
  split at h
  · cases h; exact ⟨by simp, by simp, .inr ⟨_, _, rfl, rfl, lcase _ _ _ (.inl ⟨rfl, rfl⟩)⟩⟩
  · cases h; exact ⟨by simp, by simp, .inr ⟨_, _, rfl, rfl, lcase _ _ _ (.inr ⟨rfl, rfl⟩)⟩⟩
  · split at h
    · rename_i c
      obtain ⟨p, h1, h2, h3⟩ := py_of 64 x c.1
      obtain ⟨q, h4, h5, h6⟩ := py_of 64 y c.2
      cases h
      refine ⟨fun p e => by subst e; simp [toPy] at h1, fun p e => by subst e; simp [toPy] at h4, .inl ⟨p, q, h1, h4, ?_, ?_, (eqv_eqD x y p q h1 h4).symm⟩⟩
      · unfold SeqAt.shaped; rw [h2, decide_eq_true h3]; rfl
      · unfold SeqAt.shaped; rw [h5, decide_eq_true h6]; rfl
    · split at h
      · split at h
        · cases h; exact ⟨by simp, by simp, .inr ⟨_, _, rfl, rfl, .inl ⟨by assumption, rfl⟩⟩⟩
        · cases h
      · cases h
theorem ok_eq : CmOk dEqG eqC := fun x y x0 y0 S b Q v w e q => by
  cases hf : flatD x && flatD y with
  | true =>
    have hf2 := hf
    rw [Bool.and_eq_true] at hf
    have := vw_flatD v hf.1; subst this
    have := vw_flatD w hf.2; subst this
    unfold dEqG
    rw [hf.1, hf.2]
    unfold eqC at e
    rw [hf2] at e; cases e; exact q
  | false =>
    obtain ⟨n1, n2, h⟩ := eqC_ok e hf
    have z := eq_flat v w hf
    have g : dEq x0 y0 S Q ∨ dEqLen false x0 y0 S Q := by
      rcases h with ⟨p, q', h1, h2, h3, h4, rfl⟩ | ⟨xs, ys, rfl, rfl, h⟩
      · exact .inl ⟨p, q', by rw [vwx v n1]; exact h1, by rw [vwx w n2]; exact h2, h3, h4, q⟩
      · refine .inr ⟨xs, ys, vwx v n1, vwx w n2, ?_⟩
        rcases h with ⟨h, rfl⟩ | ⟨h1, h2, rfl⟩
        · exact .inl ⟨h, q⟩
        · exact .inr ⟨h1, h2, q⟩
    unfold dEqG
    split at z
    · cases z
    · first
      | exact g
      | (split
         · rename_i a b; simp_all
         · exact g)
def neC (x y : D) : Option Bool := match eqC x y with
  | some b => some (!b)
  | none => none
theorem ok_ne : CmOk dNeG neC := fun x y x0 y0 S b Q v w e q => by
  unfold neC at e
  cases e2 : eqC x y with
  | none => rw [e2] at e; cases e
  | some c =>
    rw [e2] at e; cases e
    cases hf : flatD x && flatD y with
    | true =>
      have hf2 := hf
      rw [Bool.and_eq_true] at hf
      have := vw_flatD v hf.1; subst this
      have := vw_flatD w hf.2; subst this
      unfold dNeG
      rw [hf.1, hf.2]
      unfold eqC at e2
      rw [hf2] at e2; cases e2; exact q
    | false =>
      obtain ⟨n1, n2, h⟩ := eqC_ok e2 hf
      have z := eq_flat v w hf
      have g : dNe x0 y0 S Q ∨ dEqLen true x0 y0 S Q := by
        rcases h with ⟨p, q', h1, h2, h3, h4, rfl⟩ | ⟨xs, ys, rfl, rfl, h⟩
        · exact .inl ⟨p, q', by rw [vwx v n1]; exact h1, by rw [vwx w n2]; exact h2, h3, h4, q⟩
        · refine .inr ⟨xs, ys, vwx v n1, vwx w n2, ?_⟩
          rcases h with ⟨h, rfl⟩ | ⟨h1, h2, rfl⟩
          · exact .inl ⟨h, q⟩
          · exact .inr ⟨h1, h2, q⟩
      unfold dNeG
      split at z
      · cases z
      · first
        | exact g
        | (split
           · rename_i a b; simp_all
           · exact g)
/-! ### in -/
def inC (x y : D) : Option Bool := match y with
  | .lst xs => if flatD x = true ∧ xs.all flatD = true then some (inF x xs) else none
  | .tup xs => if flatD x = true ∧ xs.all flatD = true then some (inF x xs) else none
  | .str z => match x with
    | .str s => some (inStr s z)
    | _ => none
  | .dic kvs => match keyOf x with
    | some k => some (valD kvs k).isSome
    | none => none
  | _ => none
def notInC (x y : D) : Option Bool := match inC x y with
  | some b => some (!b)
  | none => none
theorem ok_inB (neg : Bool) {b : Bool} {x y x0 y0 : D} {S : Sto} {Q : DK} (v : Vw S x0 x) (w : Vw S y0 y) (e : inC x y = some b) (q : Q (.bl (if neg then !b else b)) S) : dInGB neg x0 y0 S Q := by
  unfold dInGB
  cases y <;> simp only [inC, reduceCtorEq] at e
  · rw [vwx w (by simp)]
    cases x <;> simp only [reduceCtorEq, Option.some.injEq] at e
    have := vw_flatD v rfl; subst this
    subst e; exact q
  · rw [vwx w (by simp)]
    split at e
    · rename_i c
      have := vw_flatD v c.1; subst this
      cases e; exact ⟨c.1, c.2, q⟩
    · cases e
  · rw [vwx w (by simp)]
    split at e
    · rename_i c
      have := vw_flatD v c.1; subst this
      cases e; exact ⟨c.1, c.2, q⟩
    · cases e
  · rw [vwx w (by simp)]
    split at e
    · rename_i k hk
      have : flatD x = true := by cases x <;> first | rfl | (cases hk; done)
      have := vw_flatD v this; subst this
      cases e; exact ⟨k, hk, q⟩
    · cases e
theorem ok_in : CmOk dInG inC := fun x y x0 y0 S b Q v w e q => ok_inB false v w e q
theorem ok_notIn : CmOk dNotInG notInC := fun x y x0 y0 S b Q v w e q => by
  unfold notInC at e
  split at e
  · cases e; exact ok_inB true v w (by assumption) q
  · cases e
/-! ### subscripts, slices -/
def ixD (x y : D) : Option D := match x with
  | .dic kvs => match keyOf y with
    | some k => valD kvs k
    | none => none
  | .lst xs => match y with
    | .int i => atI xs i
    | _ => none
  | .tup xs => match y with
    | .int i => atI xs i
    | _ => none
  | .scr ns => match y with
    | .int i => match atI ns i with
      | some n => some (.int n)
      | none => none
    | _ => none
  | .str z => match y with
    | .int i => if z.length ≤ 16777216 then match atI z.cps.toList i with
      | some c => some (.str ⟨#[c]⟩)
      | none => none else none
    | _ => none
  | _ => none
theorem ok_ix : OpOk dIxG ixD := fun x y x0 y0 S d Q v w e q => by
  unfold dIxG
  cases x <;> simp only [ixD, reduceCtorEq] at e
  · rw [vwx v (by simp)]
    cases y <;> simp only [reduceCtorEq] at e
    have := vw_flatD w rfl; subst this
    split at e
    · rename_i hz
      split at e
      · rename_i c hc
        cases e; exact ⟨size_ok hz, c, hc, q⟩
      · cases e
    · cases e
  · rw [vwx v (by simp)]
    cases y <;> simp only [reduceCtorEq] at e
    have := vw_flatD w rfl; subst this
    exact ⟨d, e, q⟩
  · rw [vwx v (by simp)]
    cases y <;> simp only [reduceCtorEq] at e
    have := vw_flatD w rfl; subst this
    exact ⟨d, e, q⟩
  · rw [vwx v (by simp)]
    split at e
    · rename_i k hk
      have : flatD y = true := by cases y <;> first | rfl | (cases hk; done)
      have := vw_flatD w this; subst this
      exact ⟨k, d, hk, e, q⟩
    · cases e
  · rw [vwx v (by simp)]
    cases y <;> simp only [reduceCtorEq] at e
    have := vw_flatD w rfl; subst this
    split at e
    · rename_i n hn
      cases e; exact ⟨n, hn, q⟩
    · cases e
def slD (x : D) (lo hi : Option Int) : Option D := match x with
  | .lst xs => some (.lst (cutD xs lo hi))
  | .tup xs => some (.tup (cutD xs lo hi))
  | .str z => szO z.length (.str (cutS z lo hi))
  | _ => none
theorem ok_sl : SlOk dSlQ slD := fun x x0 lo hi S d Q v e q => by
  unfold dSlQ
  cases x <;> simp only [slD, reduceCtorEq] at e
  · rw [vwx v (by simp)]
    obtain ⟨h1, rfl⟩ := szO_ok e; exact ⟨h1, q⟩
  · rw [vwx v (by simp)]; cases e; exact q
  · rw [vwx v (by simp)]; cases e; exact q
/-! ### truth -/
def truD (x : D) : Option Bool := match x with
  | .non => some false
  | .bl b => some b
  | .int i => some (i != 0)
  | .str x => szO x.length ((x.length : Int) != 0)
  | .lst xs => some (!xs.isEmpty)
  | .tup xs => some (!xs.isEmpty)
  | _ => none
theorem ok_tru : TrOk truD := fun x x0 S b Q v e q => by
  unfold dTruth
  cases x <;> simp only [truD, reduceCtorEq] at e
  · rw [vwx v (by simp)]; cases e; exact q
  · rw [vwx v (by simp)]; cases e; exact q
  · rw [vwx v (by simp)]; cases e; exact q
  · rw [vwx v (by simp)]; obtain ⟨h1, rfl⟩ := szO_ok e; exact ⟨h1, q⟩
  · rw [vwx v (by simp)]; cases e; exact q
  · rw [vwx v (by simp)]; cases e; exact q
/-! ### built-ins -/
def on1 {α : Type} (f : D → Option α) : List D → Option α
  | [x] => f x
  | _ => none
def on2 {α : Type} (f : D → D → Option α) : List D → Option α
  | [x, y] => f x y
  | _ => none
theorem on1_ok {α : Type} {f : D → Option α} {xs xs0 : List D} {S : Sto} {a : α} (v : VwL S xs0 xs) (h : on1 f xs = some a) : ∃ x0 x, xs0 = [x0] ∧ Vw S x0 x ∧ f x = some a := by
  cases v with
  | nil => cases h
  | cons v1 v2 =>
    cases v2 with
    | nil => exact ⟨_, _, rfl, v1, h⟩
    | cons _ _ => cases h
theorem on2_ok {α : Type} {f : D → D → Option α} {xs xs0 : List D} {S : Sto} {a : α} (v : VwL S xs0 xs) (h : on2 f xs = some a) : ∃ x0 x y0 y, xs0 = [x0, y0] ∧ Vw S x0 x ∧ Vw S y0 y ∧ f x y = some a := by
  cases v with
  | nil => cases h
  | cons v1 v2 =>
    cases v2 with
    | nil => cases h
    | cons v2 v3 =>
      cases v3 with
      | nil => exact ⟨_, _, _, _, rfl, v1, v2, h⟩
      | cons _ _ => cases h
def lenD (x : D) : Option D := match x with
  | .lst xs => some (.int xs.length)
  | .tup xs => some (.int xs.length)
  | .scr ns => some (.int ns.length)
  | .str z => szO z.length (.int z.length)
  | .dic kvs => some (.int kvs.length)
  | _ => none
theorem ok_len : ClOk dLenG (on1 lenD) := fun xs xs0 S d Q v e q => by
  obtain ⟨x0, x, rfl, v, e⟩ := on1_ok v e
  unfold dLenG
  cases x <;> simp only [lenD, reduceCtorEq] at e
  · simp only [vwx v (by simp)]; obtain ⟨h1, rfl⟩ := szO_ok e; exact ⟨h1, q⟩
  · simp only [vwx v (by simp)]; cases e; exact q
  · simp only [vwx v (by simp)]; cases e; exact q
  · simp only [vwx v (by simp)]; cases e; exact q
  · simp only [vwx v (by simp)]; cases e; exact q
def listD (x : D) : Option D := match x with
  | .lst xs => some (.lst xs)
  | .tup xs => some (.lst xs)
  | .dic kvs => some (.lst (kvs.map fun kv => kD kv.1))
  | _ => none
theorem ok_list : ClOk dListG (on1 listD) := fun xs xs0 S d Q v e q => by
  obtain ⟨x0, x, rfl, v, e⟩ := on1_ok v e
  unfold dListG
  cases x <;> simp only [listD, reduceCtorEq] at e
  · simp only [vwx v (by simp)]; cases e; exact q
  · simp only [vwx v (by simp)]; cases e; exact q
  · simp only [vwx v (by simp)]; cases e; exact q
def tupleD (x : D) : Option D := match x with
  | .lst xs => some (.tup xs)
  | .tup xs => some (.tup xs)
  | _ => none
theorem ok_tuple : ClOk dTuple1 (on1 tupleD) := fun xs xs0 S d Q v e q => by
  obtain ⟨x0, x, rfl, v, e⟩ := on1_ok v e
  unfold dTuple1
  cases x <;> simp only [tupleD, reduceCtorEq] at e
  · simp only [vwx v (by simp)]; cases e; exact q
  · simp only [vwx v (by simp)]; cases e; exact q
def intD (x : D) : Option D := match x with
  | .int i => some (.int i)
  | .bl b => some (.int (if b then 1 else 0))
  | _ => none
theorem ok_int : ClOk dInt1 (on1 intD) := fun xs xs0 S d Q v e q => by
  obtain ⟨x0, x, rfl, v, e⟩ := on1_ok v e
  unfold dInt1
  cases x <;> simp only [intD, reduceCtorEq] at e
  · have := vw_flatD v rfl; subst this; cases e; exact q
  · have := vw_flatD v rfl; subst this; cases e; exact q
def max2D : D → D → Option D := intOp fun i j => some (.int (if j > i then j else i))
def min2D : D → D → Option D := intOp fun i j => some (.int (if j < i then j else i))
theorem ok_max2 : ClOk dMax2 (on2 max2D) := fun xs xs0 S d Q v e q => by
  obtain ⟨x0, x, y0, y, rfl, v, w, e⟩ := on2_ok v e
  obtain ⟨i, j, rfl, rfl, e⟩ := intOp_ok e
  have := vw_flatD v rfl; subst this
  have := vw_flatD w rfl; subst this
  cases e; exact q
theorem ok_min2 : ClOk dMin2 (on2 min2D) := fun xs xs0 S d Q v e q => by
  obtain ⟨x0, x, y0, y, rfl, v, w, e⟩ := on2_ok v e
  obtain ⟨i, j, rfl, rfl, e⟩ := intOp_ok e
  have := vw_flatD v rfl; subst this
  have := vw_flatD w rfl; subst this
  cases e; exact q
def sumD (x : D) : Option D := match x with
  | .lst xs => match intsOf xs with
    | some ns => some (.int ns.sum)
    | none => none
  | _ => none
theorem ok_sum : ClOk dSum (on1 sumD) := fun xs xs0 S d Q v e q => by
  obtain ⟨x0, x, rfl, v, e⟩ := on1_ok v e
  unfold dSum
  cases x <;> simp only [sumD, reduceCtorEq] at e
  simp only [vwx v (by simp)]
  split at e
  · rename_i ns h
    cases e; exact ⟨ns, h, q⟩
  · cases e
def allB (f : List Bool → Bool) (x : D) : Option Bool := match x with
  | .lst xs => match blsOf xs with
    | some ns => some (f ns)
    | none => none
  | _ => none
theorem ok_allB {f : List Bool → Bool} : ClOkB (dAllB f) (on1 (allB f)) := fun xs xs0 S d Q v e q => by
  obtain ⟨x0, x, rfl, v, e⟩ := on1_ok v e
  unfold dAllB
  cases x <;> simp only [allB, reduceCtorEq] at e
  simp only [vwx v (by simp)]
  split at e
  · rename_i ns h
    cases e; exact ⟨ns, h, q⟩
  · cases e
def allD := allB fun bs => bs.all id
def anyD := allB fun bs => bs.any id
theorem ok_all : ClOkB dAll (on1 allD) := ok_allB
theorem ok_any : ClOkB dAny (on1 anyD) := ok_allB
def ordD (x : D) : Option D := match x with
  | .str x => if x.length = 1 then some (.int (x.cps.getD 0 0 : Nat)) else none
  | _ => none
theorem ok_ord : ClOk dOrd (on1 ordD) := fun xs xs0 S d Q v e q => by
  obtain ⟨x0, x, rfl, v, e⟩ := on1_ok v e
  unfold dOrd
  cases x <;> simp only [ordD, reduceCtorEq] at e
  have := vw_flatD v rfl; subst this
  split at e
  · cases e; exact ⟨by assumption, q⟩
  · cases e
def isiD (x y : D) : Option Bool := match tyN x with
  | some a => match y with
    | .ty b => isaT a b
    | .tup cs => isaAny a cs
    | _ => none
  | none => none
theorem tyN_ref {x : D} {a : String} (h : tyN x = some a) : ∀ p, x ≠ .ref p := fun p e => by subst e; cases h
theorem ok_isi : ClOkB dIsi (on2 isiD) := fun xs xs0 S d Q v e q => by
  obtain ⟨x0, x, y0, y, rfl, v, w, e⟩ := on2_ok v e
  unfold isiD at e
  split at e
  · rename_i a ha
    have hv := vwx v (tyN_ref ha)
    split at e
    · rename_i b
      have hy : y0 = .ty b := vw_exact w (by simp) (by simp) (by simp)
      subst hy
      unfold dIsi
      simp only [hv, ha, e]; exact q
    · rename_i cs
      have hy : y0 = .tup cs := vw_exact w (by simp) (by simp) (by simp)
      subst hy
      unfold dIsi
      simp only [hv, ha, e]; exact q
    · cases e
  · cases e
/-! ### arguments by number -/
def ap1 (f : D → P D) : List D → P D
  | [a] => f a
  | _ => .bad
def ap2 (f : D → D → P D) : List D → P D
  | [a, b] => f a b
  | _ => .bad
def ap3 (f : D → D → D → P D) : List D → P D
  | [a, b, c] => f a b c
  | _ => .bad
def ap4 (f : D → D → D → D → P D) : List D → P D
  | [a, b, c, d] => f a b c d
  | _ => .bad
def ap5 (f : D → D → D → D → D → P D) : List D → P D
  | [a, b, c, d, e] => f a b c d e
  | _ => .bad
def ap6 (f : D → D → D → D → D → D → P D) : List D → P D
  | [a, b, c, d, e, g] => f a b c d e g
  | _ => .bad
theorem ar1 {f : D → P D} : Ar 1 (ap1 f) := fun ds h => by
  unfold ap1; split
  · exact absurd rfl h
  · rfl
theorem ar2 {f : D → D → P D} : Ar 2 (ap2 f) := fun ds h => by
  unfold ap2; split
  · exact absurd rfl h
  · rfl
theorem ar3 {f : D → D → D → P D} : Ar 3 (ap3 f) := fun ds h => by
  unfold ap3; split
  · exact absurd rfl h
  · rfl
theorem ar4 {f : D → D → D → D → P D} : Ar 4 (ap4 f) := fun ds h => by
  unfold ap4; split
  · exact absurd rfl h
  · rfl
theorem ar5 {f : D → D → D → D → D → P D} : Ar 5 (ap5 f) := fun ds h => by
  unfold ap5; split
  · exact absurd rfl h
  · rfl
theorem ar6 {f : D → D → D → D → D → D → P D} : Ar 6 (ap6 f) := fun ds h => by
  unfold ap6; split
  · exact absurd rfl h
  · rfl
end KM

set_option maxRecDepth 100000
set_option maxHeartbeats 4000000
/-! Km5: targets, what is walked, comprehensions, texts. -/
namespace KM
open PySem PySem.Spec PyProof.Rows L2 KD
/-! ### targets -/
def un2 {β : Type} (d : D) (k : D → D → β) (b : β) : β := match d with
  | .tup [x, y] => k x y
  | .lst [x, y] => k x y
  | _ => b
def un3 {β : Type} (d : D) (k : D → D → D → β) (b : β) : β := match d with
  | .tup [x, y, z] => k x y z
  | .lst [x, y, z] => k x y z
  | _ => b
def un4 {β : Type} (d : D) (k : D → D → D → D → β) (b : β) : β := match d with
  | .tup [x, y, z, w] => k x y z w
  | .lst [x, y, z, w] => k x y z w
  | _ => b
def mG2 (g h : MG) : MG := fun β d μ k b => un2 d (fun x y => g β x μ (fun μ1 => h β y μ1 k b) b) b
def mG3 (g h i : MG) : MG := fun β d μ k b => un3 d (fun x y z => g β x μ (fun μ1 => h β y μ1 (fun μ2 => i β z μ2 k b) b) b) b
def mG4 (g h i j : MG) : MG := fun β d μ k b => un4 d (fun x y z w => g β x μ (fun μ1 => h β y μ1 (fun μ2 => i β z μ2 (fun μ3 => j β w μ3 k b) b) b) b) b
theorem gok2 {g h : DTG} {m n : MG} {js ks : List Nat} (hg : GOk js g m) (hh : GOk ks h n) : GOk (js ++ (ks ++ [])) (dgTupG 2 (dgCons g (dgCons h dgNil))) (mG2 m n) := fun ax fx β d μ σ S k b Φ N r hb hk e => by
  have key : ∀ x y, Φ (m β x μ (fun μ1 => n β y μ1 k b) b) → dgCons g (dgCons h dgNil) [x, y] σ S N := fun x y e =>
    hg ax fx β x μ σ S _ b Φ _ r hb (fun μ1 σ1 r1 q1 e1 => hh ax fx β y μ1 σ1 S k b Φ _ r1 hb (fun μ2 σ2 r2 q2 e2 => ⟨rfl, hk μ2 σ2 r2 (fun w hw => by simp only [List.mem_append, not_or] at hw; rw [q2 w hw.2.1, q1 w hw.1]) e2⟩) e1) e
  unfold mG2 un2 at e
  split at e
  · exact ⟨rfl, key _ _ e⟩
  · exact ⟨rfl, key _ _ e⟩
  · exact absurd e hb
theorem gok3 {g h i : DTG} {m n o : MG} {js ks ls : List Nat} (hg : GOk js g m) (hh : GOk ks h n) (hi : GOk ls i o) : GOk (js ++ (ks ++ (ls ++ []))) (dgTupG 3 (dgCons g (dgCons h (dgCons i dgNil)))) (mG3 m n o) := fun ax fx β d μ σ S k b Φ N r hb hk e => by
  have key : ∀ x y z, Φ (m β x μ (fun μ1 => n β y μ1 (fun μ2 => o β z μ2 k b) b) b) → dgCons g (dgCons h (dgCons i dgNil)) [x, y, z] σ S N := fun x y z e =>
    hg ax fx β x μ σ S _ b Φ _ r hb (fun μ1 σ1 r1 q1 e1 => hh ax fx β y μ1 σ1 S _ b Φ _ r1 hb (fun μ2 σ2 r2 q2 e2 => hi ax fx β z μ2 σ2 S k b Φ _ r2 hb (fun μ3 σ3 r3 q3 e3 => ⟨rfl, hk μ3 σ3 r3 (fun w hw => by simp only [List.mem_append, not_or] at hw; rw [q3 w hw.2.2.1, q2 w hw.2.1, q1 w hw.1]) e3⟩) e2) e1) e
  unfold mG3 un3 at e
  split at e
  · exact ⟨rfl, key _ _ _ e⟩
  · exact ⟨rfl, key _ _ _ e⟩
  · exact absurd e hb
theorem gok4 {g h i j : DTG} {m n o p : MG} {js ks ls os : List Nat} (hg : GOk js g m) (hh : GOk ks h n) (hi : GOk ls i o) (hj : GOk os j p) : GOk (js ++ (ks ++ (ls ++ (os ++ [])))) (dgTupG 4 (dgCons g (dgCons h (dgCons i (dgCons j dgNil))))) (mG4 m n o p) := fun ax fx β d μ σ S k b Φ N r hb hk e => by
  have key : ∀ x y z w, Φ (m β x μ (fun μ1 => n β y μ1 (fun μ2 => o β z μ2 (fun μ3 => p β w μ3 k b) b) b) b) → dgCons g (dgCons h (dgCons i (dgCons j dgNil))) [x, y, z, w] σ S N := fun x y z w e =>
    hg ax fx β x μ σ S _ b Φ _ r hb (fun μ1 σ1 r1 q1 e1 => hh ax fx β y μ1 σ1 S _ b Φ _ r1 hb (fun μ2 σ2 r2 q2 e2 => hi ax fx β z μ2 σ2 S _ b Φ _ r2 hb (fun μ3 σ3 r3 q3 e3 => hj ax fx β w μ3 σ3 S k b Φ _ r3 hb (fun μ4 σ4 r4 q4 e4 => ⟨rfl, hk μ4 σ4 r4 (fun w hw => by simp only [List.mem_append, not_or] at hw; rw [q4 w hw.2.2.2.1, q3 w hw.2.2.1, q2 w hw.2.1, q1 w hw.1]) e4⟩) e3) e2) e1) e
  unfold mG4 un4 at e
  split at e
  · exact ⟨rfl, key _ _ _ _ e⟩
  · exact ⟨rfl, key _ _ _ _ e⟩
  · exact absurd e hb
def mAsg (g : MG) (e : MC) : MS := fun β z μ => e β μ (fun d μ1 => g β d μ1 z.nx z.bad) z.ex z.bad
def mPar (i j : Nat) (a b : MC) : MS := fun β z μ => a β μ (fun x μ1 => b β μ1 (fun y μ2 => setS i (.v x) μ2 (fun μ3 => setS j (.v y) μ3 z.nx z.bad) z.bad) z.ex z.bad) z.ex z.bad
def mPar3 (i j l : Nat) (a b c : MC) : MS := fun β z μ => a β μ (fun x μ1 => b β μ1 (fun y μ2 => c β μ2 (fun w μ3 => setS i (.v x) μ3 (fun μ4 => setS j (.v y) μ4 (fun μ5 => setS l (.v w) μ5 z.nx z.bad) z.bad) z.bad) z.ex z.bad) z.ex z.bad) z.ex z.bad
def augD (f : D → D → Option D) (i : Nat) (e : MC) : MS := fun β z μ => gotO (lookE μ i) (fun x => e β μ (fun y μ1 => gotO (f x y) (fun w => setS i (.v w) μ1 z.nx z.bad) z.bad) z.ex z.bad) z.bad
section
variable {C : Str → Addr} {ax : Ax} {X : Cx} {W : WX} {a b c e : Expr} {ma mb mc : MC} {pos : Pos} {st : Stmt}
theorem xs_asg {g : DTG} {m : MG} {js : List Nat} (hg : GOk js g m) (h : DS X W st (dAsg (rdC C ax ma) g)) : XS C ax X W st (mAsg m ma) := dsI h fun Z σ S ⟨fx, μ, β, z, Φ, r, o, h⟩ =>
  ⟨fx, μ, β, _, z.ex, z.bad, Φ, r, o.kok fun d μ1 S1 r1 h1 => hg ax fx β d μ1 σ S1 z.nx z.bad Φ _ r1 o.bad (fun μ2 σ2 r2 _ h2 => o.nx μ2 σ2 S1 r2 h2) h1, h⟩
theorem xs_par {i j : Nat} (h : DS X W st (dPar i j (dCons (rdC C ax ma) (dCons (rdC C ax mb) dNil)))) : XS C ax X W st (mPar i j ma mb) := dsI h fun Z σ S ⟨fx, μ, β, z, Φ, r, o, h⟩ =>
  ⟨fx, μ, β, _, z.ex, z.bad, Φ, r, o.kok fun x μ1 S1 r1 h1 => ⟨fx, μ1, β, _, z.ex, z.bad, Φ, r1, o.kok fun y μ2 S2 r2 h2 => by
    obtain ⟨h3, u, q1, q2, q3⟩ := setS_ok h2 o.bad
    obtain ⟨h4, u', q4, q5, q6⟩ := setS_ok h3 o.bad
    exact o.nx _ _ S2 ((r2.setV x q2 q1 q3).setV y q5 q4 q6) h4, h1⟩, h⟩
theorem xs_par3 {i j l : Nat} (h : DS X W st (dPar3 i j l (dCons (rdC C ax ma) (dCons (rdC C ax mb) (dCons (rdC C ax mc) dNil))))) : XS C ax X W st (mPar3 i j l ma mb mc) := dsI h fun Z σ S ⟨fx, μ, β, z, Φ, r, o, h⟩ =>
  ⟨fx, μ, β, _, z.ex, z.bad, Φ, r, o.kok fun x μ1 S1 r1 h1 => ⟨fx, μ1, β, _, z.ex, z.bad, Φ, r1, o.kok fun y μ2 S2 r2 h2 => ⟨fx, μ2, β, _, z.ex, z.bad, Φ, r2, o.kok fun w μ3 S3 r3 h3 => by
    obtain ⟨h4, u, q1, q2, q3⟩ := setS_ok h3 o.bad
    obtain ⟨h5, u', q4, q5, q6⟩ := setS_ok h4 o.bad
    obtain ⟨h6, u'', q7, q8, q9⟩ := setS_ok h5 o.bad
    exact o.nx _ _ S3 (((r3.setV x q2 q1 q3).setV y q5 q4 q6).setV w q8 q7 q9) h6, h2⟩, h1⟩, h⟩
theorem xs_aug {i : Nat} {q : D → D → Sto → DK → Prop} {f : D → D → Option D} (hf : OpOk q f) (h : DS X W st (dAug i (rdC C ax ma) q)) : XS C ax X W st (augD f i ma) := dsI h fun Z σ S ⟨fx, μ, β, z, Φ, r, o, h⟩ => by
  obtain ⟨x, e, h⟩ := gotO_ok h o.bad
  have hx : σ[i]? = some (some x) := by
    obtain ⟨A, a⟩ := r
    unfold lookE at e
    split at e
    · exact slot_look (a.slot i _ (by assumption)) e
    · cases e
  unfold dAug
  rw [hx]
  refine ⟨fx, μ, β, _, z.ex, z.bad, Φ, r, o.kok fun y μ1 S1 r1 h1 => ?_, h⟩
  obtain ⟨w, e, h2⟩ := gotO_ok h1 o.bad
  obtain ⟨h3, u, q1, q2, q3⟩ := setS_ok h2 o.bad
  exact hf x y x y S1 w _ (.inl rfl) (.inl rfl) e (o.nx _ _ S1 (r1.setV w q2 q1 q3) h3)
end
/-! ### what is walked -/
def iterD : D → Option (List D)
  | .lst xs => some xs
  | .tup xs => some xs
  | .str z => some (signs z)
  | .scr ns => some (ns.map .int)
  | .dic kvs => some (kvs.map fun kv => kD kv.1)
  | _ => none
def rng1 (x : D) : Option (List D) := match x with
  | .int j => if -4611686018427387904 ≤ j ∧ j < 4611686018427387904 then some (rangeD 0 j.toNat) else none
  | _ => none
def rng2 (x y : D) : Option (List D) := match x, y with
  | .int i, .int j => if -4611686018427387904 ≤ i ∧ i < 4611686018427387904 ∧ -4611686018427387904 ≤ j ∧ j < 4611686018427387904 then some (rangeD i (j - i).toNat) else none
  | _, _ => none
def enumI (x : D) : Option (List D) := match itemsOf x with
  | some xs => some (enumD xs)
  | none => none
def zipI (x y : D) : Option (List D) := match itemsOf x, itemsOf y with
  | some xs, some ys => some (zipD xs ys)
  | _, _ => none
def mIt1 (f : D → Option (List D)) (a : Env → P D) : Env → P (List D) := fun μ => bind (a μ) fun x => opt (f x)
def mIt2 (f : D → D → Option (List D)) (a b : Env → P D) : Env → P (List D) := fun μ => bind (a μ) fun x => bind (b μ) fun y => opt (f x y)
section
variable {C : Str → Addr} {ax : Ax} {X : Cx} {W : WX} {a b e tg : Expr} {ma mb : Env → P D} {pos : Pos}
theorem xi_any (h : XE C ax X W e ma) : XI C ax X W tg e (mIt1 iterD ma) := diI (di_any h) fun E σ S Q ⟨fx, μ, r, p⟩ => by
  unfold mIt1 at p; rw [post_bind] at p
  refine ⟨fx, μ, r, post_mono (fun x p => ?_) p⟩
  obtain ⟨xs, e, q⟩ := post_opt p
  cases x <;> simp only [iterD, reduceCtorEq, Option.some.injEq] at e <;> (subst e; exact q)
theorem xi_range1 {p : Pos} (hg : Gl X "range") (hm : X.mg "range" = none) (ha : XE C ax X W a ma) (hs : starEach [a] X.env = [(false, eval a X.env)] := by rfl) (hs' : starEach [a] X.env = (false, eval a X.env) :: starEach [] X.env := by rfl) : XI C ax X W tg (.Call (.Name "range" p) [a] [] pos) (mIt1 rng1 ma) :=
  diI (di_range1 hg hm (da_cons ha da_nil hs') hs) fun E σ S Q ⟨fx, μ, r, p⟩ => by
    unfold mIt1 at p; rw [post_bind] at p
    refine ⟨fx, μ, r, post_mono (fun x p => ?_) p⟩
    obtain ⟨xs, e, q⟩ := post_opt p
    cases x <;> simp only [rng1, reduceCtorEq] at e
    split at e
    · rename_i c
      cases e; exact ⟨by omega, by omega, q⟩
    · cases e
theorem xi_range2 {p : Pos} (hg : Gl X "range") (hm : X.mg "range" = none) (ha : XE C ax X W a ma) (hb : XE C ax X W b mb) (hs : starEach [a, b] X.env = [(false, eval a X.env), (false, eval b X.env)] := by rfl) (hs2 : starEach [b] X.env = [(false, eval b X.env)] := by rfl)
    (hs' : starEach [a, b] X.env = (false, eval a X.env) :: starEach [b] X.env := by rfl) (hs'' : starEach [b] X.env = (false, eval b X.env) :: starEach [] X.env := by rfl) : XI C ax X W tg (.Call (.Name "range" p) [a, b] [] pos) (mIt2 rng2 ma mb) :=
  diI (di_range2 hg hm (da_cons ha (da_cons hb da_nil hs'') hs') hs hs2) fun E σ S Q ⟨fx, μ, r, p⟩ => by
    unfold mIt2 at p; rw [post_bind] at p
    refine ⟨fx, μ, r, post_mono (fun x p => ?_) p⟩
    rw [post_bind] at p
    refine ⟨fx, μ, r, post_mono (fun y p => ?_) p⟩
    obtain ⟨xs, e, q⟩ := post_opt p
    cases x <;> cases y <;> simp only [rng2, reduceCtorEq] at e
    split at e
    · rename_i c
      cases e; exact ⟨⟨by omega, by omega, by omega, by omega⟩, q⟩
    · cases e
theorem xi_enum {p tpos : Pos} {elts : List Expr} {kk : Nat} (hg : Gl X "enumerate") (hm : X.mg "enumerate" = none) (ha : XE C ax X W a ma) (hs : starEach [a] X.env = [(false, eval a X.env)] := by rfl) (hs' : starEach [a] X.env = (false, eval a X.env) :: starEach [] X.env := by rfl) : XI C ax X W (.Tuple elts kk tpos) (.Call (.Name "enumerate" p) [a] [] pos) (mIt1 enumI ma) :=
  diI (di_enum hg hm (da_cons ha da_nil hs') hs) fun E σ S Q ⟨fx, μ, r, p⟩ => by
    unfold mIt1 at p; rw [post_bind] at p
    refine ⟨fx, μ, r, post_mono (fun x p => ?_) p⟩
    obtain ⟨xs, e, q⟩ := post_opt p
    unfold enumI at e
    split at e
    · rename_i ys h
      cases e
      show match itemsOf x with | some xs => Q (enumD xs) S | none => False
      rw [h]; exact q
    · cases e
theorem xi_zip {p tpos : Pos} {elts : List Expr} {kk : Nat} (hg : Gl X "zip") (hm : X.mg "zip" = none) (ha : XE C ax X W a ma) (hb : XE C ax X W b mb) (hs' : starEach [a, b] X.env = (false, eval a X.env) :: starEach [b] X.env := by rfl) (hs'' : starEach [b] X.env = (false, eval b X.env) :: starEach [] X.env := by rfl)
    (hpl : (backTo pos (starEach [b] X.env)).any (·.1) = false := by rfl) : XI C ax X W (.Tuple elts kk tpos) (.Call (.Name "zip" p) [a, b] [] pos) (mIt2 zipI ma mb) :=
  diI (di_zip hg hm (da_cons ha (da_cons hb da_nil hs'') hs') hs' hpl) fun E σ S Q ⟨fx, μ, r, p⟩ => by
    unfold mIt2 at p; rw [post_bind] at p
    refine ⟨fx, μ, r, post_mono (fun x p => ?_) p⟩
    rw [post_bind] at p
    refine ⟨fx, μ, r, post_mono (fun y p => ?_) p⟩
    obtain ⟨xs, e, q⟩ := post_opt p
    unfold zipI at e
    split at e
    · rename_i ys zs h1 h2
      cases e
      show match itemsOf x, itemsOf y with | some xs, some ys => Q (zipD xs ys) S | _, _ => False
      rw [h1, h2]; exact q
    · cases e
end
/-! ### comprehensions -/
def noer {α : Type} (x : P α) : P α := match x with
  | .er _ _ _ => .bad
  | y => y
def lcR (f : D → P (Option D)) : List D → P (List D)
  | [] => .ok [] ()
  | x :: xs => bind (f x) fun o => bind (lcR f xs) fun ys => match o with
    | some d => .ok (d :: ys) ()
    | none => .ok ys ()
def mapR (f : D → P D) : List D → P (List D)
  | [] => .ok [] ()
  | x :: xs => bind (f x) fun d => bind (mapR f xs) fun ys => .ok (d :: ys) ()
def chkR (x : P (List D)) : P (List D) := match x with
  | .ok ys _ => guard (sizeB ys.length) (.ok ys ()) .bad
  | _ => .bad
def mLc (K : List Nat) (it : Env → P (List D)) (g : MG) (t : Env → P Bool) (e : Env → P D) : Env → P (List D) := fun μ => guard (freeK K μ)
  (bind (it μ) fun xs => chkR (lcR (fun x => g _ x (killK K μ) (fun μ1 => bind (noer (t μ1)) fun b => if b then bind (noer (e μ1)) fun d => .ok (some d) () else .ok none ()) .bad) xs)) .bad
def mLcM (K : List Nat) (it : Env → P (List D)) (g : MG) (e : Env → P D) : Env → P (List D) := fun μ => guard (freeK K μ)
  (bind (it μ) fun xs => chkR (mapR (fun x => g _ x (killK K μ) (fun μ1 => noer (e μ1)) .bad) xs)) .bad
def rdTs (C : Str → Addr) (ax : Ax) (m : Env → P Bool) : DTT := fun E σ S Q => ∃ fx μ, Rel ax fx μ σ S ∧ post C E S (fun b => Q b S) (noer (m μ))
def rdEs (C : Str → Addr) (ax : Ax) (m : Env → P D) : DTE := fun E σ S Q => ∃ fx μ, Rel ax fx μ σ S ∧ post C E S (fun d => Q d S) (noer (m μ))
section
variable {C : Str → Addr} {ax : Ax} {fx : Fx} {σ : DSt} {S : Sto} {μ : Env} {K : List Nat}
theorem noer_ok {α : Type} {x : P α} {E E' : DEr} {Q : α → Prop} (h : post C E S Q (noer x)) : post C E' S Q x := by
  cases x with
  | ok a s => exact h
  | er c fs s => exact h.elim
  | bad => exact h
theorem Rel.kill : ∀ {K : List Nat}, Rel ax fx μ σ S → freeK K μ = true → Rel ax fx (killK K μ) (dwipe σ K) S
  | [], r, _ => r
  | i :: K, r, h => by
    rw [freeK, Bool.and_eq_true] at h
    obtain ⟨s, h1, h2, h3⟩ := freeS_ok h.1
    have key : ∀ t, (killK K μ)[i]? = some t → t = .un ∨ t = s := fun t e => by
      rcases kill_get e with e | ⟨_, e⟩
      · exact .inl e
      · rw [h1] at e; exact .inr (Option.some.inj e).symm
    refine (r.kill (K := K) h.2).setUn (o := none) (fun t e => ?_) (fun t e => ?_)
    · rcases key _ e with z | z
      · cases z
      · exact h2 t z.symm
    · rcases key _ e with rfl | rfl
      · rfl
      · exact h3
theorem bind_ok {α β : Type} {x : P α} {k : α → P β} {b : β} {s : Unit} (h : bind x k = .ok b s) : ∃ a, x = .ok a () ∧ k a = .ok b s := by
  cases x with
  | ok a u => exact ⟨a, rfl, h⟩
  | er c fs u => cases h
  | bad => cases h
theorem noer_eq {α : Type} {x : P α} {a : α} (h : noer x = .ok a ()) : x = .ok a () := by
  cases x with
  | ok b s => exact h
  | er c fs s => cases h
  | bad => cases h
theorem lc_ok {g : DTG} {m : MG} {t : Env → P Bool} {e : Env → P D} {js : List Nat} (hg : GOk js g m) (r : Rel ax fx (killK K μ) (dwipe σ K) S) {Q : List D → Sto → Prop} : ∀ (xs acc ys : List D),
    lcR (fun x => m _ x (killK K μ) (fun μ1 => bind (noer (t μ1)) fun b => if b then bind (noer (e μ1)) fun d => .ok (some d) () else .ok none ()) .bad) xs = .ok ys () → acc.length + ys.length ≤ sizeLine → Q (acc ++ ys) S → dLcGo g (rdT C ax t) (rdE C ax e) (dwipe σ K) Q xs S acc
  | [], acc, ys, h, hl, q => by
    cases h
    rw [List.append_nil] at q; exact q
  | x :: xs, acc, ys, h, hl, q => by
    unfold lcR at h
    obtain ⟨o, h1, h⟩ := bind_ok h
    obtain ⟨zs, h2, h⟩ := bind_ok h
    refine hg ax fx (P (Option D)) x (killK K μ) (dwipe σ K) S _ .bad (fun y => y = .ok o ()) _ r (fun z => by cases z) (fun μ1 σ1 r1 _ h3 => ?_) h1
    obtain ⟨b, h4, h3⟩ := bind_ok h3
    refine ⟨fx, μ1, r1, ?_⟩
    rw [noer_eq h4]
    cases b with
    | true =>
      rw [if_pos rfl] at h3
      obtain ⟨d, h5, h3⟩ := bind_ok h3
      simp only [post, if_true]
      cases h3
      cases h
      refine ⟨fx, μ1, r1, ?_⟩
      rw [noer_eq h5]
      rw [List.length_cons] at hl
      exact ⟨by omega, lc_ok hg r xs (acc ++ [d]) zs h2 (by rw [List.length_append, List.length_singleton]; omega) (by rw [List.append_assoc]; exact q)⟩
    | false =>
      rw [if_neg Bool.false_ne_true] at h3
      simp only [post, if_neg Bool.false_ne_true]
      cases h3
      cases h
      exact lc_ok hg r xs acc ys h2 hl q
theorem chk_ok {x : P (List D)} {E : DEr} {Q : List D → Prop} (h : post C E S Q (chkR x)) : ∃ ys, x = .ok ys () ∧ ys.length ≤ sizeLine ∧ Q ys := by
  cases x with
  | ok ys s =>
    cases c : sizeB ys.length with
    | true => simp only [chkR, c, guard] at h; exact ⟨ys, rfl, size_dec c, h⟩
    | false => simp only [chkR, c, guard] at h; exact h.elim
  | er c fs s => exact h.elim
  | bad => exact h.elim
theorem map_lc {f : D → P D} : ∀ {xs ys : List D}, mapR f xs = .ok ys () → lcR (fun x => bind (f x) fun d => .ok (some d) ()) xs = .ok ys ()
  | [], _, h => h
  | x :: xs, ys, h => by
    unfold mapR at h
    obtain ⟨d, h1, h⟩ := bind_ok h
    obtain ⟨zs, h2, h⟩ := bind_ok h
    unfold lcR
    rw [h1]
    show bind (lcR _ xs) _ = _
    rw [map_lc h2]; exact h
/-- the reading of a comprehension -/
theorem lc_post {g : DTG} {m : MG} {it : Env → P (List D)} {t : Env → P Bool} {e : Env → P D} {js : List Nat} (hg : GOk js g m) {E : DEr} {Q : List D → Sto → Prop} (r : Rel ax fx μ σ S) (h : post C E S (fun ys => Q ys S) (mLc K it m t e μ)) : dLcL (rdI C ax it) g (rdT C ax t) (rdE C ax e) K E σ S Q := by
  unfold mLc at h
  obtain ⟨hf, h⟩ := guard_ok (Φ := post C E S fun ys => Q ys S) h id
  rw [post_bind] at h
  refine ⟨fx, μ, r, post_mono (fun xs h => ?_) h⟩
  obtain ⟨ys, h1, h2, q⟩ := chk_ok h
  exact lc_ok hg (r.kill hf) xs [] ys h1 (by simpa using h2) q
theorem lcM_post {g : DTG} {m : MG} {it : Env → P (List D)} {e : Env → P D} {js : List Nat} (hg : GOk js g m) {E : DEr} {Q : List D → Sto → Prop} (r : Rel ax fx μ σ S) (h : post C E S (fun ys => Q ys S) (mLcM K it m e μ)) : dLcL (rdI C ax it) g dYes (rdE C ax e) K E σ S Q := by
  unfold mLcM at h
  obtain ⟨hf, h⟩ := guard_ok (Φ := post C E S fun ys => Q ys S) h id
  rw [post_bind] at h
  refine ⟨fx, μ, r, post_mono (fun xs h => ?_) h⟩
  obtain ⟨ys, h1, h2, q⟩ := chk_ok h
  have r' := r.kill hf
  have key : ∀ (xs acc ys : List D), mapR (fun x => m _ x (killK K μ) (fun μ1 => noer (e μ1)) .bad) xs = .ok ys () → acc.length + ys.length ≤ sizeLine → Q (acc ++ ys) S → dLcGo g dYes (rdE C ax e) (dwipe σ K) Q xs S acc := by
    intro xs
    induction xs with
    | nil =>
      intro acc ys h hl q
      cases h
      rw [List.append_nil] at q; exact q
    | cons x xs ih =>
      intro acc ys h hl q
      unfold mapR at h
      obtain ⟨d, h1, h⟩ := bind_ok h
      obtain ⟨zs, h2, h⟩ := bind_ok h
      cases h
      refine hg ax fx (P D) x (killK K μ) (dwipe σ K) S _ .bad (fun y => y = .ok d ()) _ r' (fun z => by cases z) (fun μ1 σ1 r1 _ h3 => ?_) h1
      simp only [dYes, if_true]
      refine ⟨fx, μ1, r1, ?_⟩
      rw [noer_eq h3]
      rw [List.length_cons] at hl
      exact ⟨by omega, ih (acc ++ [d]) zs h2 (by rw [List.length_append, List.length_singleton]; omega) (by rw [List.append_assoc]; exact q)⟩
  exact key xs [] ys h1 (by simpa using h2) q
end
section
variable {C : Str → Addr} {ax : Ax} {X : Cx} {W : WX} {e : Expr} {pos : Pos} {st : Stmt} {K : List Nat} {it : Env → P (List D)} {g : DTG} {m : MG} {t : Env → P Bool} {me : Env → P D}
theorem xe_lc {js : List Nat} (hg : GOk js g m) (h : DE X W e (dLc (rdI C ax it) g (rdT C ax t) (rdE C ax me) K)) : XE C ax X W e (fun μ => bind (mLc K it m t me μ) fun ys => .ok (.lst ys) ()) := deI h fun E σ S Q ⟨fx, μ, r, p⟩ => by
  rw [post_bind] at p
  exact lc_post hg (Q := fun ys S => Q (.lst ys) S) r p
theorem xe_lcM {js : List Nat} (hg : GOk js g m) (h : DE X W e (dLc (rdI C ax it) g dYes (rdE C ax me) K)) : XE C ax X W e (fun μ => bind (mLcM K it m me μ) fun ys => .ok (.lst ys) ()) := deI h fun E σ S Q ⟨fx, μ, r, p⟩ => by
  rw [post_bind] at p
  exact lcM_post hg (Q := fun ys S => Q (.lst ys) S) r p
theorem xf_lc {js : List Nat} (hg : GOk js g m) (h : DE X W e (dLcM (rdI C ax it) g (rdT C ax t) (rdE C ax me) K)) : XF C ax X W e (mLc K it m t me) := deI h fun E σ S Q ⟨fx, μ, r, p⟩ => lc_post hg (Q := fun ys S => ∀ p, S p = none → Q (.ref p) (put S p (.lst ys))) r p
theorem xf_lcM {js : List Nat} (hg : GOk js g m) (h : DE X W e (dLcM (rdI C ax it) g dYes (rdE C ax me) K)) : XF C ax X W e (mLcM K it m me) := deI h fun E σ S Q ⟨fx, μ, r, p⟩ => lcM_post hg (Q := fun ys S => ∀ p, S p = none → Q (.ref p) (put S p (.lst ys))) r p
/-! y = [..] as one statement -/
theorem xs_setLc {i : Nat} {js : List Nat} (hg : GOk js g m) (h : DS X W st (dAsg (dLc (rdI C ax it) g (rdT C ax t) (rdE C ax me) K) (dgName i))) : XS C ax X W st (mSet i (mPure fun μ => bind (mLc K it m t me μ) fun ys => .ok (.lst ys) ())) := xs_set (dsI h fun Z σ S ⟨fx, μ, β, k, ex, bd, Φ, r, z, h⟩ => by
  have p := got_ok h r z
  rw [post_bind] at p
  exact lc_post hg (Q := fun ys S => dgName i (.lst ys) σ S Z.nx) r (post_mono (fun ys q => z.k _ μ S r q) p))
theorem xs_setLcM {i : Nat} {js : List Nat} (hg : GOk js g m) (h : DS X W st (dAsg (dLc (rdI C ax it) g dYes (rdE C ax me) K) (dgName i))) : XS C ax X W st (mSet i (mPure fun μ => bind (mLcM K it m me μ) fun ys => .ok (.lst ys) ())) := xs_set (dsI h fun Z σ S ⟨fx, μ, β, k, ex, bd, Φ, r, z, h⟩ => by
  have p := got_ok h r z
  rw [post_bind] at p
  exact lcM_post hg (Q := fun ys S => dgName i (.lst ys) σ S Z.nx) r (post_mono (fun ys q => z.k _ μ S r q) p))
theorem xs_setFLc {i : Nat} {js : List Nat} (hg : GOk js g m) (h : DS X W st (dAsg (dLcM (rdI C ax it) g (rdT C ax t) (rdE C ax me) K) (dgName i))) : XS C ax X W st (mSetL i (mLc K it m t me)) := xs_setL (dsI h fun Z σ S ⟨fx, μ, r, p⟩ => lc_post hg (Q := fun ys S => ∀ p, S p = none → dgName i (.ref p) σ (put S p (.lst ys)) Z.nx) r p)
theorem xs_setFLcM {i : Nat} {js : List Nat} (hg : GOk js g m) (h : DS X W st (dAsg (dLcM (rdI C ax it) g dYes (rdE C ax me) K) (dgName i))) : XS C ax X W st (mSetL i (mLcM K it m me)) := xs_setL (dsI h fun Z σ S ⟨fx, μ, r, p⟩ => lcM_post hg (Q := fun ys S => ∀ p, S p = none → dgName i (.ref p) σ (put S p (.lst ys)) Z.nx) r p)
end
end KM

set_option maxRecDepth 100000
set_option maxHeartbeats 4000000
/-! Km6: comprehensions whose elements change what a slot holds; a, b, c = x, y, []; texts joined. -/
namespace KM
open PySem PySem.Spec PyProof.Rows L2 KD
def lcS {α : Type} (f : D → α → R α (Option D)) : List D → α → R α (List D)
  | [], a => .ok [] a
  | x :: xs, a => match f x a with
    | .ok o b => match lcS f xs b with
      | .ok ys c => match o with
        | some d => .ok (d :: ys) c
        | none => .ok ys c
      | _ => .bad
    | _ => .bad
/-- one turn -/
def turnS (I : Js) (K : List Nat) (g : MG) (t : MT) (e : MC) (μ : Env) (x : D) (s : T I) : R (T I) (Option D) :=
  g _ x (headE I K μ s) (fun μ1 => t _ μ1 (fun b μ2 => if b then e _ μ2 (fun d μ3 => getJ I μ3 (fun s' => .ok (some d) s') .bad) (fun _ _ _ => .bad) .bad else getJ I μ2 (fun s' => .ok none s') .bad) (fun _ _ _ => .bad) .bad) .bad
def mLcC (I : Js) (K : List Nat) (it : Env → P (List D)) (g : MG) (t : MT) (e : MC) : (β : Type) → Env → (List D → Env → β) → (Str → Flds → Env → β) → β → β := fun β μ k ex b => guard (okB I I K μ)
  (got (it μ) (fun xs _ => getJ I μ (fun s0 => got (lcS (turnS I K g t e μ) xs s0) (fun ys s => guard (sizeB ys.length) (k ys (setJ I s (killK K μ))) b) (fun _ _ _ => b) b) b) (fun c fs _ => ex c fs μ) b) b
def mYesT : MT := fun β μ k ex b => k true μ
def mLcD (m : (β : Type) → Env → (List D → Env → β) → (Str → Flds → Env → β) → β → β) : MC := fun β μ k ex b => m β μ (fun ys μ1 => k (.lst ys) μ1) ex b
def mLcL (i : Nat) (m : (β : Type) → Env → (List D → Env → β) → (Str → Flds → Env → β) → β → β) : MS := fun β z μ => m β μ (fun ys μ1 => setS i (.l false ys) μ1 z.nx z.bad) z.ex z.bad
section
variable {C : Str → Addr} {ax : Ax} {fx : Fx} {σ σ' : DSt} {S : Sto} {μ μ' : Env} {I : Js} {K : List Nat}
theorem Rel.resig (r : Rel ax fx μ σ S) (hl : σ'.length = σ.length) (h : ∀ (i : Nat) (s : SV), μ[i]? = some s → s = SV.un ∨ σ'[i]? = σ[i]?) : Rel ax fx μ σ' S := by
  obtain ⟨A, a⟩ := r
  refine ⟨A, a.lenμ, hl.trans a.lenσ, fun i s e => ?_, a.inj, a.new, a.ext, a.fr, a.io, a.oi⟩
  rcases h i s e with rfl | h
  · trivial
  · exact slot_same h rfl (fun _ _ => rfl) (a.slot i s e)
theorem dwipe_ne : ∀ {K : List Nat} {i : Nat}, i ∉ K → (dwipe σ K)[i]? = σ[i]?
  | [], _, _ => rfl
  | j :: r, i, h => by
    simp only [List.mem_cons, not_or] at h
    rw [dwipe, List.getElem?_set_ne (fun z => h.1 z.symm), dwipe_ne h.2]
theorem dwipe_len : ∀ {K : List Nat}, (dwipe σ K).length = σ.length
  | [] => rfl
  | j :: r => by rw [dwipe, List.length_set, dwipe_len]
theorem head_un {s : T I} {i : Nat} {u : SV} (hK : i ∈ K) (hI : i ∉ ixJ I) (h : (headE I K μ s)[i]? = some u) : u = .un := by
  unfold headE at h
  rw [setJ_ne hI] at h
  rcases kill_get h with h | ⟨c, _⟩
  · exact h
  · exact absurd hK c
/-- the walk of a comprehension that changes I -/
theorem lcS_ok {g : DTG} {m : MG} {t : MT} {e : MC} {js : List Nat} (hg : GOk js g m) (hj : ∀ j ∈ js, j ∈ K) (hd : ∀ i ∈ K, i ∉ ixJ I) (r : Rel ax fx μ σ S) (ok : OkB I I K μ) {Q : List D → Sto → Prop} : ∀ (xs acc ys : List D) (s s' : T I) (S1 : Sto),
    Rel ax (fx.inn (ixJ I ++ K) μ) (headE I K μ s) (dwipe σ K) S1 → lcS (turnS I K m t e μ) xs s = .ok ys s' → acc.length + ys.length ≤ sizeLine →
    (∀ S2, Rel ax (fx.inn (ixJ I ++ K) μ) (headE I K μ s') (dwipe σ K) S2 → Q (acc ++ ys) S2) → dLcGo g (rdCT C ax t) (rdC C ax e) (dwipe σ K) Q xs S1 acc
  | [], acc, ys, s, s', S1, r1, h, hl, q => by
    cases h
    have := q S1 r1
    rw [List.append_nil] at this; exact this
  | x :: xs, acc, ys, s, s', S1, r1, h, hl, q => by
    unfold lcS at h
    cases h1 : turnS I K m t e μ x s with
    | er c fs b => rw [h1] at h; cases h
    | bad => rw [h1] at h; cases h
    | ok o b =>
      rw [h1] at h
      cases h2 : lcS (turnS I K m t e μ) xs b with
      | er c fs b => simp only [h2] at h; cases h
      | bad => simp only [h2] at h; cases h
      | ok zs c =>
        simp only [h2] at h
        have back : ∀ μ2 σ2 S2, Rel ax (fx.inn (ixJ I ++ K) μ) μ2 σ2 S2 → (∀ j, j ∉ js → σ2[j]? = (dwipe σ K)[j]?) → Told I b μ2 → Rel ax (fx.inn (ixJ I ++ K) μ) (headE I K μ b) (dwipe σ K) S2 := fun μ2 σ2 S2 r2 hσ hT => by
          have l1 : (dwipe σ K).length = σ2.length := by
            obtain ⟨_, a1⟩ := r1
            obtain ⟨_, a2⟩ := r2
            rw [a1.lenσ, a2.lenσ]
          refine (r.head ok r2 hT).resig l1 fun i u e => ?_
          by_cases c : i ∈ js
          · exact .inl (head_un (hj i c) (hd i (hj i c)) e)
          · exact .inr (hσ i c).symm
        unfold turnS at h1
        let Φ : R (T I) (Option D) → Prop := fun y => y = .ok o b
        have nb : ¬ Φ .bad := fun z => by cases z
        refine hg ax _ _ x _ _ S1 _ .bad Φ _ r1 nb (fun μ1 σ1 r2 hσ h3 => ?_) h1
        refine ⟨_, μ1, _, _, _, _, Φ, r2, ⟨nb, fun c' μ2 S2 r3 h4 => ?_, (fun c' fs μ2 S2 _ z => by cases z)⟩, h3⟩
        cases c' with
        | true =>
          rw [if_pos rfl] at h4 ⊢
          refine ⟨_, μ2, _, _, _, _, Φ, r3, ⟨nb, fun d μ3 S3 r4 h5 => ?_, (fun c' fs μ2 S2 _ z => by cases z)⟩, h4⟩
          obtain ⟨b', h5, told⟩ := getJ_ok (Φ := Φ) h5 nb
          cases h5
          cases h
          rw [List.length_cons] at hl
          exact ⟨by omega, lcS_ok hg hj hd r ok xs (acc ++ [d]) zs b _ S3 (back μ3 σ1 S3 r4 hσ (told_get told)) h2 (by rw [List.length_append, List.length_singleton]; omega) (fun S4 r5 => by rw [List.append_assoc]; exact q S4 r5)⟩
        | false =>
          rw [if_neg Bool.false_ne_true] at h4 ⊢
          obtain ⟨b', h5, told⟩ := getJ_ok (Φ := Φ) h4 nb
          cases h5
          cases h
          exact lcS_ok hg hj hd r ok xs acc _ b _ S2 (back μ2 σ1 S2 r3 hσ (told_get told)) h2 hl q
theorem lcC_post {g : DTG} {m : MG} {t : MT} {e : MC} {js : List Nat} {it : Env → P (List D)} (hg : GOk js g m) (hj : ∀ j ∈ js, j ∈ K) (hd : ∀ i ∈ K, i ∉ ixJ I) {E : DEr} {Q : List D → Sto → Prop} {β : Type} {k : List D → Env → β} {ex : Str → Flds → Env → β} {bd : β} {Φ : β → Prop}
    (r : Rel ax fx μ σ S) (z : KOk C ax fx E σ k ex bd Q Φ) (h : Φ (mLcC I K it m t e β μ k ex bd)) : dLcL (rdI C ax it) g (rdCT C ax t) (rdC C ax e) K E σ S Q := by
  obtain ⟨hf, h⟩ := guard_ok h z.bad
  have ok := okB_ok hf
  refine ⟨fx, μ, r, post_mono (fun xs h' => ?_) (got_ok (C := C) (E := E) (Q := fun _ _ => True) (k := fun xs μ' => getJ I μ (fun s0 => got (lcS (turnS I K m t e μ) xs s0) (fun ys s => guard (sizeB ys.length) (k ys (setJ I s (killK K μ))) bd) (fun _ _ _ => bd) bd) bd) h r (z.to fun _ _ _ _ _ => trivial))⟩
  obtain ⟨s0, h', q⟩ := getJ_ok (Φ := Φ) h' z.bad
  have told : Told I s0 (protN (ixJ I ++ K) 0 μ) := fun ν i s' hl e => by
    rcases q ν i s' e with e1 | e1
    · exact .inl e1
    · by_cases c : i ∈ ixJ I
      · refine .inr ?_
        rw [prot_get, e1]
        have : (ixJ I ++ K).contains (0 + i) = true := by rw [Nat.zero_add]; simp [c]
        simp only [Option.map_some, this, if_true]
      · rw [setJ_ne c] at e; exact .inl ⟨c, e⟩
  have r0 : Rel ax (fx.inn (ixJ I ++ K) μ) (headE I K μ s0) (dwipe σ K) S := (r.head ok (r.inn _) told).resig dwipe_len fun i u e => by
    by_cases c : i ∈ K
    · exact .inl (head_un c (hd i c) e)
    · exact .inr (dwipe_ne c)
  cases h1 : lcS (turnS I K m t e μ) xs s0 with
  | er c fs b => rw [h1] at h'; exact absurd h' z.bad
  | bad => rw [h1] at h'; exact absurd h' z.bad
  | ok ys s =>
    rw [h1] at h'
    obtain ⟨hz, h2⟩ := guard_ok h' z.bad
    refine lcS_ok hg hj hd r ok xs [] ys s0 s S r0 h1 (by simpa using size_dec hz) fun S2 r2 => z.k ys _ S2 ?_ h2
    have r3 : Rel ax (fx.inn (ixJ I ++ K) μ) (headE I K μ s) σ S2 := r2.resig dwipe_len.symm fun i u e => by
      by_cases c : i ∈ K
      · exact .inl (head_un c (hd i c) e)
      · exact .inr (dwipe_ne c).symm
    exact r.outN ok r3 told_self
end
section
variable {C : Str → Addr} {ax : Ax} {X : Cx} {W : WX} {a b c e : Expr} {ma mb : MC} {pos : Pos} {st : Stmt} {I : Js} {K : List Nat} {it : Env → P (List D)} {g : DTG} {m : MG} {t : MT} {me : MC} {js : List Nat}
theorem dyes_ok {E : DEr} {σ : DSt} {S : Sto} {Q : Bool → Sto → Prop} (h : rdCT C ax mYesT E σ S Q) : dYes E σ S Q := by
  obtain ⟨fx, μ, β, k, ex, bd, Φ, r, z, h⟩ := h
  exact z.k true μ S r h
theorem xc_lcC (hg : GOk js g m) (hj : ∀ j ∈ js, j ∈ K) (hd : ∀ i ∈ K, i ∉ ixJ I) (h : DE X W e (dLc (rdI C ax it) g (rdCT C ax t) (rdC C ax me) K)) : XC C ax X W e (mLcD (mLcC I K it m t me)) := deI h fun E σ S Q ⟨fx, μ, β, k, ex, bd, Φ, r, z, h⟩ =>
  lcC_post (Q := fun ys S => Q (.lst ys) S) (k := fun ys μ1 => k (.lst ys) μ1) hg hj hd r ⟨z.bad, fun ys μ1 S1 r1 h1 => z.k (.lst ys) μ1 S1 r1 h1, z.ex⟩ h
theorem xs_setLcC {i : Nat} (hg : GOk js g m) (hj : ∀ j ∈ js, j ∈ K) (hd : ∀ i ∈ K, i ∉ ixJ I) (h : DS X W st (dAsg (dLc (rdI C ax it) g (rdCT C ax t) (rdC C ax me) K) (dgName i))) : XS C ax X W st (mSet i (mLcD (mLcC I K it m t me))) := xs_set (dsI h fun Z σ S ⟨fx, μ, β, k, ex, bd, Φ, r, z, h⟩ =>
  lcC_post (Q := fun ys S => dgName i (.lst ys) σ S Z.nx) (k := fun ys μ1 => k (.lst ys) μ1) hg hj hd r ⟨z.bad, fun ys μ1 S1 r1 h1 => z.k (.lst ys) μ1 S1 r1 h1, z.ex⟩ h)
theorem xs_setFLcC {i : Nat} (hg : GOk js g m) (hj : ∀ j ∈ js, j ∈ K) (hd : ∀ i ∈ K, i ∉ ixJ I) (h : DS X W st (dAsg (dLcM (rdI C ax it) g (rdCT C ax t) (rdC C ax me) K) (dgName i))) : XS C ax X W st (mLcL i (mLcC I K it m t me)) := dsI h fun Z σ S ⟨fx, μ, β, z, Φ, r, o, h⟩ =>
  lcC_post (Q := fun ys S => ∀ p, S p = none → dgName i (.ref p) σ (put S p (.lst ys)) Z.nx) (k := fun ys μ1 => setS i (.l false ys) μ1 z.nx z.bad) hg hj hd r (o.kok fun ys μ1 S1 r1 h1 p hp => by
    obtain ⟨h, u, h2, h3, h4⟩ := setS_ok h1 o.bad
    exact o.nx _ _ _ (r1.newL hp ys h3 h2 h4) h) h
/-! parallel assignment, the last one a fresh list -/
def mParL (i j : Nat) (a : MC) (p : Env → P (List D)) : MS := fun β z μ => a β μ (fun x μ1 => got (p μ1) (fun ys _ => setS i (.v x) μ1 (fun μ2 => setS j (.l false ys) μ2 z.nx z.bad) z.bad) (fun c fs _ => z.ex c fs μ1) z.bad) z.ex z.bad
def mPar3L (i j l : Nat) (a b : MC) (p : Env → P (List D)) : MS := fun β z μ => a β μ (fun x μ1 => b β μ1 (fun y μ2 => got (p μ2) (fun ys _ => setS i (.v x) μ2 (fun μ3 => setS j (.v y) μ3 (fun μ4 => setS l (.l false ys) μ4 z.nx z.bad) z.bad) z.bad) (fun c fs _ => z.ex c fs μ2) z.bad) z.ex z.bad) z.ex z.bad
theorem xs_parL {i j : Nat} {p : Env → P (List D)} (h : DS X W st (dPar i j (dCons (rdC C ax ma) (dCons (rdF C ax p) dNil)))) : XS C ax X W st (mParL i j ma p) := dsI h fun Z σ S ⟨fx, μ, β, z, Φ, r, o, h⟩ =>
  ⟨fx, μ, β, _, z.ex, z.bad, Φ, r, o.kok fun x μ1 S1 r1 h1 => ⟨fx, μ1, r1, post_mono (fun ys h2 q hq => by
    obtain ⟨h3, u, q1, q2, q3⟩ := setS_ok h2 o.bad
    obtain ⟨h4, u', q4, q5, q6⟩ := setS_ok h3 o.bad
    exact o.nx _ _ _ ((r1.setV x q2 q1 q3).newL hq ys q5 q4 q6) h4) (got_ok (C := C) (E := exOf Z σ) (Q := fun _ _ => True) (k := fun ys μ1 => setS i (.v x) μ1 (fun μ2 => setS j (.l false ys) μ2 z.nx z.bad) z.bad) h1 r1 (o.kok fun _ _ _ _ _ => trivial))⟩, h⟩
theorem xs_par3L {i j l : Nat} {p : Env → P (List D)} (h : DS X W st (dPar3 i j l (dCons (rdC C ax ma) (dCons (rdC C ax mb) (dCons (rdF C ax p) dNil))))) : XS C ax X W st (mPar3L i j l ma mb p) := dsI h fun Z σ S ⟨fx, μ, β, z, Φ, r, o, h⟩ =>
  ⟨fx, μ, β, _, z.ex, z.bad, Φ, r, o.kok fun x μ1 S1 r1 h1 => ⟨fx, μ1, β, _, z.ex, z.bad, Φ, r1, o.kok fun y μ2 S2 r2 h2 => ⟨fx, μ2, r2, post_mono (fun ys h3 q hq => by
    obtain ⟨h4, u, q1, q2, q3⟩ := setS_ok h3 o.bad
    obtain ⟨h5, u', q4, q5, q6⟩ := setS_ok h4 o.bad
    obtain ⟨h6, u'', q7, q8, q9⟩ := setS_ok h5 o.bad
    exact o.nx _ _ _ (((r2.setV x q2 q1 q3).setV y q5 q4 q6).newL hq ys q8 q7 q9) h6) (got_ok (C := C) (E := exOf Z σ) (Q := fun _ _ => True) (k := fun ys μ2 => setS i (.v x) μ2 (fun μ3 => setS j (.v y) μ3 (fun μ4 => setS l (.l false ys) μ4 z.nx z.bad) z.bad) z.bad) h2 r2 (o.kok fun _ _ _ _ _ => trivial))⟩, h1⟩, h⟩
/-! joined expressions -/
def mJoinC (I : Js) (m : MC) : MC := fun β μ k ex b => guard (okB I I [] μ) (got (m (R (T I) D) (protN (ixJ I ++ []) 0 μ) (fun d μ1 => getJ I μ1 (fun s => .ok d s) .bad) (fun c fs μ1 => getJ I μ1 (fun s => .er c fs s) .bad) .bad)
  (fun d s => k d (setJ I s μ)) (fun c fs s => ex c fs (setJ I s μ)) b) b
def mJoinT (I : Js) (m : MT) : MT := fun β μ k ex b => guard (okB I I [] μ) (got (m (R (T I) Bool) (protN (ixJ I ++ []) 0 μ) (fun d μ1 => getJ I μ1 (fun s => .ok d s) .bad) (fun c fs μ1 => getJ I μ1 (fun s => .er c fs s) .bad) .bad)
  (fun d s => k d (setJ I s μ)) (fun c fs s => ex c fs (setJ I s μ)) b) b
theorem joinC_ok {α β : Type} {fx : Fx} {E : DEr} {σ : DSt} {S : Sto} {μ : Env} {k : α → Env → β} {ex : Str → Flds → Env → β} {bd : β} {Q : α → Sto → Prop} {Φ : β → Prop} (r : Rel ax fx μ σ S) (ok : OkB I I [] μ) (z : KOk C ax fx E σ k ex bd Q Φ) :
    KOk C ax (fx.inn (ixJ I ++ []) μ) E σ (fun d μ1 => getJ I μ1 (fun s => .ok d s) (.bad : R (T I) α)) (fun c fs μ1 => getJ I μ1 (fun s => .er c fs s) .bad) .bad Q (fun y => Φ (got y (fun d s => k d (setJ I s μ)) (fun c fs s => ex c fs (setJ I s μ)) bd)) := by
  let Φ0 : R (T I) α → Prop := fun y => Φ (got y (fun d s => k d (setJ I s μ)) (fun c fs s => ex c fs (setJ I s μ)) bd)
  refine ⟨z.bad, fun d μ1 S1 r1 h1 => ?_, fun c fs μ1 S1 r1 h1 p hp => ?_⟩
  · obtain ⟨s, h1, q⟩ := getJ_ok (Φ := Φ0) h1 z.bad
    exact z.k d _ S1 (r.outN ok r1 (told_get q)) h1
  · obtain ⟨s, h1, q⟩ := getJ_ok (Φ := Φ0) h1 z.bad
    exact z.ex c fs _ S1 (r.outN ok r1 (told_get q)) h1 p hp
theorem xc_join (h : XC C ax X W e ma) : XC C ax X W e (mJoinC I ma) := deI h fun E σ S Q ⟨fx, μ, β, k, ex, bd, Φ, r, z, h⟩ => by
  obtain ⟨hf, h⟩ := guard_ok h z.bad
  exact ⟨_, _, _, _, _, _, _, r.inn _, joinC_ok r (okB_ok hf) z, h⟩
theorem xct_join {na : MT} (h : XCT C ax X W e na) : XCT C ax X W e (mJoinT I na) := dtI h fun E σ S Q ⟨fx, μ, β, k, ex, bd, Φ, r, z, h⟩ => by
  obtain ⟨hf, h⟩ := guard_ok h z.bad
  exact ⟨_, _, _, _, _, _, _, r.inn _, joinC_ok r (okB_ok hf) z, h⟩
/-! texts -/
def joinD (x y : D) : Option D := match x with
  | .str a => match y with
    | .lst xs => match strsOf xs with
      | some zs => if (zs.map (·.length)).sum + zs.length * a.length ≤ 16777216 then some (.str (Txt.join a zs)) else none
      | none => none
    | .tup xs => match strsOf xs with
      | some zs => if (zs.map (·.length)).sum + zs.length * a.length ≤ 16777216 then some (.str (Txt.join a zs)) else none
      | none => none
    | _ => none
  | _ => none
def MtOk (T : String) (q : D → List D → Sto → DK → Prop) (f : D → D → Option D) : Prop := ∀ x y x0 y0 S d (Q : DK), isTy T x = true → Vw S x0 x → Vw S y0 y → f x y = some d → Q d S → q x0 [y0] S Q
def mMt (T : String) (f : D → D → Option D) (a b : Env → P D) : Env → P D := fun μ => bind (a μ) fun x => guard (isTy T x) (bind (b μ) fun y => opt (f x y)) .bad
theorem ok_join : MtOk "str" dJoin joinD := fun x y x0 y0 S d Q _ v w e q => by
  cases x <;> simp only [joinD, reduceCtorEq] at e
  have := vw_flatD v rfl; subst this
  cases y <;> simp only [reduceCtorEq] at e
  · split at e
    · rename_i zs h
      split at e
      · cases e; exact ⟨_, zs, .inl (vwx w (by simp)), h, by assumption, q⟩
      · cases e
    · cases e
  · split at e
    · rename_i zs h
      split at e
      · cases e; exact ⟨_, zs, .inr (vwx w (by simp)), h, by assumption, q⟩
      · cases e
    · cases e
theorem isTy_ref {T : String} {x : D} (h : isTy T x = true) : ∀ p, x ≠ .ref p := fun p e => by subst e; cases h
theorem mt_post {T : String} {q : D → List D → Sto → DK → Prop} {f : D → D → Option D} {pa pb : Env → P D} (hf : MtOk T q f) {E : DEr} {σ : DSt} {S : Sto} {Q : DK} (h : rdE C ax (mMt T f pa pb) E σ S Q) : dBM T q (rdV C ax pa) (dCons (rdV C ax pb) dNil) E σ S Q := by
  obtain ⟨fx, μ, r, p⟩ := h
  unfold mMt at p; rw [post_bind] at p
  refine ⟨fx, μ, r, post_mono (fun x p x0 v => ?_) p⟩
  obtain ⟨ht, p⟩ := guard_ok (Φ := post C E S fun d => Q d S) p id
  refine ⟨by rw [vwx v (isTy_ref ht)]; exact ht, fx, μ, r, ?_⟩
  rw [post_bind] at p
  refine post_mono (fun y p y0 w => ?_) p
  obtain ⟨d, e, p⟩ := post_opt p
  exact hf x y x0 y0 S d Q ht v w e p
theorem xe_join {o : Expr} {pa pb : Env → P D} {apos cpos : Pos} (ho : XV C ax X W o pa) (he : XV C ax X W e pb) (hbase : attributeBase o "join" X.env (eval o X.env) = eval o X.env := by rfl)
    (hfew : ((backTo cpos (starEach [e] X.env)).all (fun x => !x.1) && (backToKw cpos (keywordEach [] X.env)).all (fun x => x.1.isSome)
      && decide (([e] : List Expr).length + ([] : List Keyword).length + (if ([] : List Keyword).isEmpty then 0 else 1) < 30)) = true := by rfl)
    (hline : (apos.endLine == cpos.line) = true := by rfl) (hs : starEach [e] X.env = (false, eval e X.env) :: starEach [] X.env := by rfl) (hplain : (backTo cpos (starEach [] X.env)).any (·.1) = false := by rfl) :
    XE C ax X W (.Call (.Attribute o "join" apos) [e] [] cpos) (mMt "str" joinD pa pb) := deI (de_join ho he hbase hfew hline hs hplain) fun E σ S Q h => mt_post ok_join h
end
/-! fresh lists -/
def seqD (x : D) : Option (List D) := match x with
  | .lst xs => some xs
  | .tup xs => some xs
  | _ => none
def catD (x y : D) : Option (List D) := match x, y with
  | .lst xs, .lst ys => szO (xs.length + ys.length) (xs ++ ys)
  | _, _ => none
def cutL (x : D) (lo hi : Option Int) : Option (List D) := match x with
  | .lst xs => some (cutD xs lo hi)
  | _ => none
def addI : D → D → Option D := intOp fun i j => some (.int (i + j))
theorem ok_addI : OpOk dAddI addI := ok_I0 fun i j d h => (Option.some.inj h).symm
section
variable {C : Str → Addr} {ax : Ax} {X : Cx} {W : WX} {a b e : Expr} {ma mb : Env → P D} {pos : Pos}
theorem xf_add (ha : XV C ax X W a ma) (hb : XV C ax X W b mb) : XF C ax X W (.BinOp a .Add b pos) (fun μ => bind (ma μ) fun x => bind (mb μ) fun y => opt (catD x y)) := deI (de_op dop_addM ha hb) fun E σ S Q ⟨fx, μ, r, p⟩ => by
  rw [post_bind] at p
  refine ⟨fx, μ, r, post_mono (fun x p x0 v => ?_) p⟩
  rw [post_bind] at p
  refine ⟨fx, μ, r, post_mono (fun y p y0 w => ?_) p⟩
  obtain ⟨ys, e, q⟩ := post_opt p
  cases x <;> cases y <;> simp only [catD, reduceCtorEq] at e
  obtain ⟨h1, rfl⟩ := szO_ok e
  unfold dAddM
  rw [vwx v (by simp), vwx w (by simp)]
  exact ⟨h1, q⟩
theorem xf_list {x : Str} {p : Pos} (hx : x = "list") (hg : Gl X x) (hm : X.mg x = none) (hv : bootBuiltins x = some (.type "list")) (ha : XV C ax X W a ma) (hn : x ≠ "__name__" := by decide) (hdb : (x == ("__debug__" : Str)) = false := by decide)
    (hs : starEach [a] X.env = (false, eval a X.env) :: starEach [] X.env := by rfl) (hpl : (backTo pos (starEach [] X.env)).any (·.1) = false := by rfl) : XF C ax X W (.Call (.Name x p) [a] [] pos) (fun μ => bind (ma μ) fun x => opt (seqD x)) := deI (de_callTy dc_listM hg hm hv (da_cons ha da_nil hs) hn hdb hs hpl) fun E σ S Q ⟨fx, μ, r, p⟩ => by
  rw [post_bind] at p
  refine ⟨fx, μ, r, post_mono (fun x p x0 v => ?_) p⟩
  obtain ⟨ys, e, q⟩ := post_opt p
  cases x <;> simp only [seqD, reduceCtorEq, Option.some.injEq] at e <;> subst e
  · show match vw S x0 with | .lst xs => _ | .tup xs => _ | _ => _
    rw [vwx v (by simp)]; exact q
  · show match vw S x0 with | .lst xs => _ | .tup xs => _ | _ => _
    rw [vwx v (by simp)]; exact q
theorem xf_slice {lo hi : Option Expr} {ol oh : Env → P (Option Int)} {p2 : Pos} (he : XV C ax X W e ma) (hl : XO C ax X W lo ol) (hh : XO C ax X W hi oh) : XF C ax X W (.Subscript e (.Slice lo hi none p2) pos) (fun μ => bind (ma μ) fun x => bind (ol μ) fun l => bind (oh μ) fun h => opt (cutL x l h)) := deI (de_sliceM he hl hh) fun E σ S Q ⟨fx, μ, r, p⟩ => by
  rw [post_bind] at p
  refine ⟨fx, μ, r, post_mono (fun x p x0 v => ?_) p⟩
  rw [post_bind] at p
  refine ⟨fx, μ, r, post_mono (fun l p => ?_) p⟩
  rw [post_bind] at p
  refine ⟨fx, μ, r, post_mono (fun h p => ?_) p⟩
  obtain ⟨ys, e, q⟩ := post_opt p
  cases x <;> simp only [cutL, reduceCtorEq, Option.some.injEq] at e
  subst e
  rw [vwx v (by simp)]; exact q
end
end KM

set_option maxRecDepth 100000
set_option maxHeartbeats 4000000
/-! Km7: operands that may be slots, where something changes on the way; dict displays; ranges with a step; extend. -/
namespace KM
open PySem PySem.Spec PyProof.Rows L2 KD
abbrev MCA := (β : Type) → Env → (Act → Env → β) → (Str → Flds → Env → β) → β → β
abbrev ML := (β : Type) → Env → (List D → Env → β) → (Str → Flds → Env → β) → β → β
/-- what an operand is when it is used -/
def see (a : Act) (μ : Env) : Option D := match a with
  | .val d => some d
  | .ref i => viewE μ i
def aOf (m : MC) : MCA := fun β μ k ex b => m β μ (fun d μ1 => k (.val d) μ1) ex b
def aSlot (i : Nat) : MCA := fun β μ k ex b => gotO (viewE μ i) (fun _ => k (.ref i) μ) b
def mOpA (f : D → D → Option D) (a b : MCA) : MC := fun β μ k ex bd => a β μ (fun x μ1 => b β μ1 (fun y μ2 => gotO (see x μ2) (fun x' => gotO (see y μ2) (fun y' => gotO (f x' y') (fun d => k d μ2) bd) bd) bd) ex bd) ex bd
def mCmA (f : D → D → Option Bool) (a b : MCA) : MT := fun β μ k ex bd => a β μ (fun x μ1 => b β μ1 (fun y μ2 => gotO (see x μ2) (fun x' => gotO (see y μ2) (fun y' => gotO (f x' y') (fun d => k d μ2) bd) bd) bd) ex bd) ex bd
def mOfT (m : MT) : MC := fun β μ k ex bd => m β μ (fun b μ1 => k (.bl b) μ1) ex bd
def lOp (f : D → D → Option (List D)) (a b : MCA) : ML := fun β μ k ex bd => a β μ (fun x μ1 => b β μ1 (fun y μ2 => gotO (see x μ2) (fun x' => gotO (see y μ2) (fun y' => gotO (f x' y') (fun d => k d μ2) bd) bd) bd) ex bd) ex bd
def lFn (f : D → Option (List D)) (a : MCA) : ML := fun β μ k ex bd => a β μ (fun x μ1 => gotO (see x μ1) (fun x' => gotO (f x') (fun d => k d μ1) bd) bd) ex bd
def lPure (p : Env → P (List D)) : ML := fun β μ k ex b => got (p μ) (fun d _ => k d μ) (fun c fs _ => ex c fs μ) b
/-- d0 is what a stands for, now and later -/
def ActD (σ : DSt) (a : Act) (d0 : D) : Prop := match a with
  | .val d => d0 = d
  | .ref i => σ[i]? = some (some d0)
def rdA1 (C : Str → Addr) (ax : Ax) (m : MCA) : DTE := fun E σ S Q => ∃ (fx : Fx) (μ : Env) (β : Type) (k : Act → Env → β) (ex : Str → Flds → Env → β) (b : β) (Φ : β → Prop), Rel ax fx μ σ S ∧ KOk C ax fx E σ k ex b (fun a S => ∀ d0, ActD σ a d0 → Q d0 S) Φ ∧ Φ (m β μ k ex b)
def XCA (C : Str → Addr) (ax : Ax) (X : Cx) (W : WX) (e : Expr) (m : MCA) : Prop := DE X W e (rdA1 C ax m)
def rdL (C : Str → Addr) (ax : Ax) (m : ML) : DTE := fun E σ S Q => ∃ (fx : Fx) (μ : Env) (β : Type) (k : List D → Env → β) (ex : Str → Flds → Env → β) (b : β) (Φ : β → Prop), Rel ax fx μ σ S ∧ KOk C ax fx E σ k ex b (fun xs S => ∀ p, S p = none → Q (.ref p) (put S p (.lst xs))) Φ ∧ Φ (m β μ k ex b)
/-- a fresh list -/
def XCF (C : Str → Addr) (ax : Ax) (X : Cx) (W : WX) (e : Expr) (m : ML) : Prop := DE X W e (rdL C ax m)
section
variable {C : Str → Addr} {ax : Ax} {X : Cx} {W : WX} {a b c e : Expr} {ma mb : MCA} {mc : MC} {pos : Pos} {st : Stmt}
theorem see_ok {fx : Fx} {μ : Env} {σ : DSt} {S : Sto} {x : Act} {d0 d : D} (r : Rel ax fx μ σ S) (h : ActD σ x d0) (e : see x μ = some d) : Vw S d0 d := by
  cases x with
  | val y => cases e; exact .inl h
  | ref i =>
    obtain ⟨A, r⟩ := r
    have h : σ[i]? = some (some d0) := h
    have e : viewE μ i = some d := e
    unfold viewE at e
    split at e
    · obtain ⟨d1, h1, h2⟩ := slot_view (r.slot i _ (by assumption)) e
      rw [h] at h1; cases h1; exact h2
    · cases e
theorem xca_c (h : XC C ax X W e mc) : XCA C ax X W e (aOf mc) := deI h fun E σ S Q ⟨fx, μ, β, k, ex, bd, Φ, r, z, h⟩ => ⟨fx, μ, β, _, ex, bd, Φ, r, z.to fun d μ1 S1 r1 h1 => z.k (.val d) μ1 S1 r1 h1 d rfl, h⟩
theorem xca_slot {i : Nat} (h : DE X W e (dVar i)) : XCA C ax X W e (aSlot i) := deI h fun E σ S Q ⟨fx, μ, β, k, ex, bd, Φ, r, z, h⟩ => by
  obtain ⟨d, e, h⟩ := gotO_ok h z.bad
  have r0 := r
  obtain ⟨A, r⟩ := r
  unfold viewE at e
  split at e
  · obtain ⟨d1, h1, h2⟩ := slot_view (r.slot i _ (by assumption)) e
    unfold dVar; rw [h1]
    exact z.k _ μ S r0 h d1 h1
  · cases e
theorem opA_post {q : D → D → Sto → DK → Prop} {E : DEr} {σ : DSt} {S : Sto} {Q : DK} {γ : Type} {fx : Fx} {μ : Env} {β : Type} {k : γ → Env → β} {ex : Str → Flds → Env → β} {bd : β} {Φ : β → Prop} {f : D → D → Option γ} (r : Rel ax fx μ σ S)
    (hbad : ¬ Φ bd) (hex : ∀ c fs μ S, Rel ax fx μ σ S → Φ (ex c fs μ) → ∀ p, S p = none → E (C c) p (put S p (.xd fs))) (hq : ∀ x y x0 y0 μ S d, Rel ax fx μ σ S → Vw S x0 x → Vw S y0 y → f x y = some d → Φ (k d μ) → q x0 y0 S Q)
    (h : Φ (ma β μ (fun x μ1 => mb β μ1 (fun y μ2 => gotO (see x μ2) (fun x' => gotO (see y μ2) (fun y' => gotO (f x' y') (fun d => k d μ2) bd) bd) bd) ex bd) ex bd)) : dOp q (rdA1 C ax ma) (rdA1 C ax mb) E σ S Q :=
  ⟨fx, μ, β, _, ex, bd, Φ, r, ⟨hbad, fun x μ1 S1 r1 h1 x0 v => ⟨fx, μ1, β, _, ex, bd, Φ, r1, ⟨hbad, fun y μ2 S2 r2 h2 y0 w => by
    obtain ⟨x', e1, h2⟩ := gotO_ok h2 hbad
    obtain ⟨y', e2, h2⟩ := gotO_ok h2 hbad
    obtain ⟨d, e3, h2⟩ := gotO_ok h2 hbad
    exact hq x' y' x0 y0 μ2 S2 d r2 (see_ok r2 v e1) (see_ok r2 w e2) e3 h2, hex⟩, h1⟩, hex⟩, h⟩
theorem xc_opA {op : Operator} {q : D → D → Sto → DK → Prop} {f : D → D → Option D} (ho : DOp X (binaryOp op) q) (hf : OpOk q f) (ha : XCA C ax X W a ma) (hb : XCA C ax X W b mb) : XC C ax X W (.BinOp a op b pos) (mOpA f ma mb) :=
  deI (de_op ho ha hb) fun E σ S Q ⟨fx, μ, β, k, ex, bd, Φ, r, z, h⟩ => opA_post r z.bad z.ex (fun x y x0 y0 μ S d r v w e h => hf x y x0 y0 S d Q v w e (z.k d μ S r h)) h
theorem xc_ixA {q : D → D → Sto → DK → Prop} {f : D → D → Option D} (ho : DIx X q) (hf : OpOk q f) (ha : XCA C ax X W a ma) (hb : XCA C ax X W b mb) (hs : PlainIx b := by exact fun _ _ => rfl) : XC C ax X W (.Subscript a b pos) (mOpA f ma mb) :=
  deI (de_ix ho ha hb hs) fun E σ S Q ⟨fx, μ, β, k, ex, bd, Φ, r, z, h⟩ => opA_post r z.bad z.ex (fun x y x0 y0 μ S d r v w e h => hf x y x0 y0 S d Q v w e (z.k d μ S r h)) h
theorem xct_cmpA {op : CmpOp} {q : D → D → Sto → DK → Prop} {f : D → D → Option Bool} (ho : DOp X (compareOp op) q) (hf : CmOk q f) (ha : XCA C ax X W a ma) (hb : XCA C ax X W b mb) (hm : behindInMarks op b = false := by first | exact nomark _ | rfl) : XCT C ax X W (.Compare a [op] [b] pos) (mCmA f ma mb) :=
  dtI (dt_cmp ho ha hb hm) fun E σ S Q ⟨fx, μ, β, k, ex, bd, Φ, r, z, h⟩ => opA_post (Q := fun d S' => match d with | .bl b => Q b S' | _ => False) r z.bad z.ex (fun x y x0 y0 μ S d r v w e h => hf x y x0 y0 S d _ v w e (z.k d μ S r h)) h
theorem xc_cmpA {op : CmpOp} {q : D → D → Sto → DK → Prop} {f : D → D → Option Bool} (ho : DOp X (compareOp op) q) (hf : CmOk q f) (ha : XCA C ax X W a ma) (hb : XCA C ax X W b mb) (hm : behindInMarks op b = false := by first | exact nomark _ | rfl) : XC C ax X W (.Compare a [op] [b] pos) (mOfT (mCmA f ma mb)) :=
  deI (de_cmp ho ha hb hm) fun E σ S Q ⟨fx, μ, β, k, ex, bd, Φ, r, z, h⟩ => opA_post (k := fun b μ1 => k (.bl b) μ1) r z.bad z.ex (fun x y x0 y0 μ S d r v w e h => hf x y x0 y0 S d Q v w e (z.k _ μ S r h)) h
/-! fresh lists -/
theorem xcf_p {p : Env → P (List D)} (h : XF C ax X W e p) : XCF C ax X W e (lPure p) := deI h fun E σ S Q ⟨fx, μ, β, k, ex, bd, Φ, r, z, h⟩ => ⟨fx, μ, r, post_mono (fun xs q => z.k xs μ S r q) (got_ok h r z)⟩
theorem xcf_add (ha : XCA C ax X W a ma) (hb : XCA C ax X W b mb) : XCF C ax X W (.BinOp a .Add b pos) (lOp catD ma mb) := deI (de_op dop_addM ha hb) fun E σ S Q ⟨fx, μ, β, k, ex, bd, Φ, r, z, h⟩ => opA_post r z.bad z.ex (fun x y x0 y0 μ S d r v w e h => by
  cases x <;> cases y <;> simp only [catD, reduceCtorEq] at e
  obtain ⟨h1, rfl⟩ := szO_ok e
  unfold dAddM
  rw [vwx v (by simp), vwx w (by simp)]
  exact ⟨h1, z.k _ μ S r h⟩) h
theorem xcf_list {x : Str} {p : Pos} (hx : x = "list") (hg : Gl X x) (hm : X.mg x = none) (hv : bootBuiltins x = some (.type "list")) (ha : XCA C ax X W a ma) (hn : x ≠ "__name__" := by decide) (hdb : (x == ("__debug__" : Str)) = false := by decide)
    (hs : starEach [a] X.env = (false, eval a X.env) :: starEach [] X.env := by rfl) (hpl : (backTo pos (starEach [] X.env)).any (·.1) = false := by rfl) : XCF C ax X W (.Call (.Name x p) [a] [] pos) (lFn seqD ma) := deI (de_callTy dc_listM hg hm hv (da_cons ha da_nil hs) hn hdb hs hpl) fun E σ S Q ⟨fx, μ, β, k, ex, bd, Φ, r, z, h⟩ =>
  ⟨fx, μ, β, _, ex, bd, Φ, r, z.to fun x μ1 S1 r1 h1 x0 v => by
    obtain ⟨x', e1, h2⟩ := gotO_ok h1 z.bad
    obtain ⟨ys, e2, h2⟩ := gotO_ok h2 z.bad
    have v := see_ok r1 v e1
    have q := z.k ys μ1 S1 r1 h2
    cases x' <;> simp only [seqD, reduceCtorEq, Option.some.injEq] at e2 <;> subst e2
    · show match vw S1 x0 with | .lst xs => _ | .tup xs => _ | _ => _
      rw [vwx v (by simp)]; exact q
    · show match vw S1 x0 with | .lst xs => _ | .tup xs => _ | _ => _
      rw [vwx v (by simp)]; exact q, h⟩
theorem xcf_ifE {na : MT} {l1 l2 : ML} (hc : XCT C ax X W c na) (ha : XCF C ax X W a l1) (hb : XCF C ax X W b l2) : XCF C ax X W (.IfExp c a b pos) (fun β μ k ex bd => na β μ (fun x μ1 => if x then l1 β μ1 k ex bd else l2 β μ1 k ex bd) ex bd) := deI (de_ifE hc ha hb) fun E σ S Q ⟨fx, μ, β, k, ex, bd, Φ, r, z, h⟩ =>
  ⟨fx, μ, β, _, ex, bd, Φ, r, z.to fun x μ1 S1 r1 h1 => by
    cases x with
    | true => rw [if_pos rfl] at h1 ⊢; exact ⟨fx, μ1, β, k, ex, bd, Φ, r1, z, h1⟩
    | false => rw [if_neg Bool.false_ne_true] at h1 ⊢; exact ⟨fx, μ1, β, k, ex, bd, Φ, r1, z, h1⟩, h⟩
theorem xs_setCL {i : Nat} {l : ML} (h : DS X W st (dAsg (rdL C ax l) (dgName i))) : XS C ax X W st (mLcL i l) := dsI h fun Z σ S ⟨fx, μ, β, z, Φ, r, o, h⟩ =>
  ⟨fx, μ, β, _, z.ex, z.bad, Φ, r, o.kok fun ys μ1 S1 r1 h1 p hp => by
    obtain ⟨h, u, h2, h3, h4⟩ := setS_ok h1 o.bad
    exact o.nx _ _ _ (r1.newL hp ys h3 h2 h4) h, h⟩
/-! slices -/
abbrev MO := (β : Type) → Env → (Option Int → Env → β) → (Str → Flds → Env → β) → β → β
def oNone : MO := fun β μ k ex b => k none μ
def oPart (m : MC) : MO := fun β μ k ex b => m β μ (fun d μ1 => gotO (intOf d) (fun i => k (some i) μ1) b) ex b
def rdCO (C : Str → Addr) (ax : Ax) (m : MO) : DTO := fun E σ S Q => ∃ (fx : Fx) (μ : Env) (β : Type) (k : Option Int → Env → β) (ex : Str → Flds → Env → β) (b : β) (Φ : β → Prop), Rel ax fx μ σ S ∧ KOk C ax fx E σ k ex b Q Φ ∧ Φ (m β μ k ex b)
def XCO (C : Str → Addr) (ax : Ax) (X : Cx) (W : WX) (e : Option Expr) (m : MO) : Prop := DO X W e (rdCO C ax m)
theorem xco_none : XCO C ax X W none oNone := doI do_none fun E σ S Q ⟨fx, μ, β, k, ex, bd, Φ, r, z, h⟩ => z.k none μ S r h
theorem xco_some (ha : XC C ax X W a mc) : XCO C ax X W (some a) (oPart mc) := doI (do_some ha) fun E σ S Q ⟨fx, μ, β, k, ex, bd, Φ, r, z, h⟩ =>
  ⟨fx, μ, β, _, ex, bd, Φ, r, z.to fun x μ1 S1 r1 h1 => by
    obtain ⟨i, e, h⟩ := gotO_ok h1 z.bad
    cases x <;> simp only [intOf, reduceCtorEq, Option.some.injEq] at e
    subst e; exact z.k (some _) μ1 S1 r1 h, h⟩
def mSlA (f : D → Option Int → Option Int → Option D) (a : MCA) (lo hi : MO) : MC := fun β μ k ex bd => a β μ (fun x μ1 => lo β μ1 (fun l μ2 => hi β μ2 (fun h μ3 => gotO (see x μ3) (fun x' => gotO (f x' l h) (fun d => k d μ3) bd) bd) ex bd) ex bd) ex bd
theorem xc_slA {lo hi : Option Expr} {ol oh : MO} {f : D → Option Int → Option Int → Option D} {p2 : Pos} (hf : SlOk dSlQ f) (he : XCA C ax X W e ma) (hl : XCO C ax X W lo ol) (hh : XCO C ax X W hi oh) : XC C ax X W (.Subscript e (.Slice lo hi none p2) pos) (mSlA f ma ol oh) :=
  deI (de_slice he hl hh) fun E σ S Q ⟨fx, μ, β, k, ex, bd, Φ, r, z, h⟩ => ⟨fx, μ, β, _, ex, bd, Φ, r, z.to fun x μ1 S1 r1 h1 x0 v => ⟨fx, μ1, β, _, ex, bd, Φ, r1, z.to fun l μ2 S2 r2 h2 => ⟨fx, μ2, β, _, ex, bd, Φ, r2, z.to fun u μ3 S3 r3 h3 => by
    obtain ⟨x', e1, h4⟩ := gotO_ok h3 z.bad
    obtain ⟨d, e2, h4⟩ := gotO_ok h4 z.bad
    exact hf x' x0 l u S3 d Q (see_ok r3 v e1) e2 (z.k d μ3 S3 r3 h4), h2⟩, h1⟩, h⟩
def lSlA (a : MCA) (lo hi : MO) : ML := fun β μ k ex bd => a β μ (fun x μ1 => lo β μ1 (fun l μ2 => hi β μ2 (fun h μ3 => gotO (see x μ3) (fun x' => gotO (cutL x' l h) (fun d => k d μ3) bd) bd) ex bd) ex bd) ex bd
theorem xcf_sl {lo hi : Option Expr} {ol oh : MO} {p2 : Pos} (he : XCA C ax X W e ma) (hl : XCO C ax X W lo ol) (hh : XCO C ax X W hi oh) : XCF C ax X W (.Subscript e (.Slice lo hi none p2) pos) (lSlA ma ol oh) :=
  deI (de_sliceM he hl hh) fun E σ S Q ⟨fx, μ, β, k, ex, bd, Φ, r, z, h⟩ => ⟨fx, μ, β, _, ex, bd, Φ, r, z.to fun x μ1 S1 r1 h1 x0 v => ⟨fx, μ1, β, _, ex, bd, Φ, r1, z.to fun l μ2 S2 r2 h2 => ⟨fx, μ2, β, _, ex, bd, Φ, r2, z.to fun u μ3 S3 r3 h3 => by
    obtain ⟨x', e1, h4⟩ := gotO_ok h3 z.bad
    obtain ⟨d, e2, h4⟩ := gotO_ok h4 z.bad
    cases x' <;> simp only [cutL, reduceCtorEq, Option.some.injEq] at e2
    subst e2
    have v := see_ok r3 v e1
    rw [vwx v (by simp)]
    exact z.k _ μ3 S3 r3 h4, h2⟩, h1⟩, h⟩
/-! built-ins and methods with such operands -/
abbrev MAA := (β : Type) → Env → (List Act → Env → β) → (Str → Flds → Env → β) → β → β
def aaNil : MAA := fun β μ k ex b => k [] μ
def aaCons (a : MCA) (l : MAA) : MAA := fun β μ k ex b => a β μ (fun x μ1 => l β μ1 (fun xs μ2 => k (x :: xs) μ2) ex b) ex b
inductive ActsD (σ : DSt) : List Act → List D → Prop
  | nil : ActsD σ [] []
  | cons {a : Act} {d0 : D} {as : List Act} {ds : List D} : ActD σ a d0 → ActsD σ as ds → ActsD σ (a :: as) (d0 :: ds)
def seeL : List Act → Env → Option (List D)
  | [], _ => some []
  | a :: r, μ => match see a μ, seeL r μ with
    | some d, some ds => some (d :: ds)
    | _, _ => none
def rdAA (C : Str → Addr) (ax : Ax) (m : MAA) : DTA := fun E σ S Q => ∃ (fx : Fx) (μ : Env) (β : Type) (k : List Act → Env → β) (ex : Str → Flds → Env → β) (b : β) (Φ : β → Prop), Rel ax fx μ σ S ∧ KOk C ax fx E σ k ex b (fun as S => ∀ ds, ActsD σ as ds → Q ds S) Φ ∧ Φ (m β μ k ex b)
def XAA (C : Str → Addr) (ax : Ax) (X : Cx) (W : WX) (es : List Expr) (m : MAA) : Prop := DA X W es (rdAA C ax m)
variable {es : List Expr} {l : MAA}
theorem xaa_nil : XAA C ax X W [] aaNil := daI da_nil fun E σ S Q ⟨fx, μ, β, k, ex, bd, Φ, r, z, h⟩ => z.k _ μ S r h _ .nil
theorem xaa_cons (ha : XCA C ax X W e ma) (hr : XAA C ax X W es l) (hs : starEach (e :: es) X.env = (false, eval e X.env) :: starEach es X.env := by rfl) : XAA C ax X W (e :: es) (aaCons ma l) := daI (da_cons ha hr hs) fun E σ S Q ⟨fx, μ, β, k, ex, bd, Φ, r, z, h⟩ =>
  ⟨fx, μ, β, _, ex, bd, Φ, r, z.to fun d μ1 S1 r1 h1 d0 v => ⟨fx, μ1, β, _, ex, bd, Φ, r1, z.to fun as μ2 S2 r2 h2 ds w => z.k _ μ2 S2 r2 h2 _ (.cons v w), h1⟩, h⟩
theorem seeL_ok {fx : Fx} {μ : Env} {σ : DSt} {S : Sto} (r : Rel ax fx μ σ S) : ∀ {as : List Act} {ds0 ds : List D}, ActsD σ as ds0 → seeL as μ = some ds → VwL S ds0 ds
  | _, _, _, .nil, e => by cases e; exact .nil
  | a :: as, _, ds, .cons h t, e => by
    simp only [seeL] at e
    cases e1 : see a μ with
    | none => rw [e1] at e; cases e
    | some d =>
      cases e2 : seeL as μ with
      | none => rw [e1, e2] at e; cases e
      | some es =>
        rw [e1, e2] at e; cases e
        exact .cons (see_ok r h e1) (seeL_ok r t e2)
def mCallA (f : List D → Option D) (l : MAA) : MC := fun β μ k ex b => l β μ (fun as μ1 => gotO (seeL as μ1) (fun ds => gotO (f ds) (fun d => k d μ1) b) b) ex b
theorem cl_okA {q : List D → Sto → DK → Prop} {f : List D → Option D} (hf : ClOk q f) {E : DEr} {σ : DSt} {S : Sto} {Q : DK} (h : rdC C ax (mCallA f l) E σ S Q) : dCall q (rdAA C ax l) E σ S Q := by
  obtain ⟨fx, μ, β, k, ex, bd, Φ, r, z, h⟩ := h
  exact ⟨fx, μ, β, _, ex, bd, Φ, r, z.to fun as μ1 S1 r1 h1 ds hds => by
    obtain ⟨ds', e1, h1⟩ := gotO_ok h1 z.bad
    obtain ⟨d, e2, h1⟩ := gotO_ok h1 z.bad
    exact hf _ _ S1 d Q (seeL_ok r1 hds e1) e2 (z.k _ μ1 S1 r1 h1), h⟩
theorem xc_callBA {id : String} {x : Str} {p : Pos} {f : List D → Option D} {q : List D → Sto → DK → Prop} (hc : DC X (.builtin id) q) (hf : ClOk q f) (hg : Gl X x) (hm : X.mg x = none) (hv : bootBuiltins x = some (.builtin id)) (ha : XAA C ax X W (e :: es) l)
    (hn : x ≠ "__name__" := by decide) (hdb : (x == ("__debug__" : Str)) = false := by decide) (hs : starEach (e :: es) X.env = (false, eval e X.env) :: starEach es X.env := by rfl) (hpl : (backTo pos (starEach es X.env)).any (·.1) = false := by rfl) :
    XC C ax X W (.Call (.Name x p) (e :: es) [] pos) (mCallA f l) := deI (de_callB hc hg hm hv ha hn hdb hs hpl) fun E σ S Q h => cl_okA hf h
theorem xc_callTyA {T : String} {x : Str} {p : Pos} {f : List D → Option D} {q : List D → Sto → DK → Prop} (hc : DC X (.type T) q) (hf : ClOk q f) (hg : Gl X x) (hm : X.mg x = none) (hv : bootBuiltins x = some (.type T)) (ha : XAA C ax X W (e :: es) l)
    (hn : x ≠ "__name__" := by decide) (hdb : (x == ("__debug__" : Str)) = false := by decide) (hs : starEach (e :: es) X.env = (false, eval e X.env) :: starEach es X.env := by rfl) (hpl : (backTo pos (starEach es X.env)).any (·.1) = false := by rfl) :
    XC C ax X W (.Call (.Name x p) (e :: es) [] pos) (mCallA f l) := deI (de_callTy hc hg hm hv ha hn hdb hs hpl) fun E σ S Q h => cl_okA hf h
/-- a method with one argument -/
def mMtA (T : String) (f : D → D → Option D) (a b : MCA) : MC := fun β μ k ex bd => a β μ (fun x μ1 => gotO (see x μ1) (fun x1 => guard (isTy T x1) (b β μ1 (fun y μ2 => gotO (see x μ2) (fun x' => guard (isTy T x') (gotO (see y μ2) (fun y' => gotO (f x' y') (fun d => k d μ2) bd) bd) bd) bd) ex bd) bd) bd) ex bd
theorem mtA_post {T : String} {q : D → List D → Sto → DK → Prop} {f : D → D → Option D} (hf : MtOk T q f) {E : DEr} {σ : DSt} {S : Sto} {Q : DK} (h : rdC C ax (mMtA T f ma mb) E σ S Q) : dBM T q (rdA1 C ax ma) (dCons (rdA1 C ax mb) dNil) E σ S Q := by
  obtain ⟨fx, μ, β, k, ex, bd, Φ, r, z, h⟩ := h
  refine ⟨fx, μ, β, _, ex, bd, Φ, r, z.to fun x μ1 S1 r1 h1 x0 v => ?_, h⟩
  obtain ⟨x1, e1, h1⟩ := gotO_ok h1 z.bad
  obtain ⟨ht, h1⟩ := guard_ok h1 z.bad
  refine ⟨by rw [vwx (see_ok r1 v e1) (isTy_ref ht)]; exact ht, fx, μ1, β, _, ex, bd, Φ, r1, z.to fun y μ2 S2 r2 h2 y0 w => ?_, h1⟩
  obtain ⟨x2, e2, h2⟩ := gotO_ok h2 z.bad
  obtain ⟨ht2, h2⟩ := guard_ok h2 z.bad
  obtain ⟨y', e3, h2⟩ := gotO_ok h2 z.bad
  obtain ⟨d, e4, h2⟩ := gotO_ok h2 z.bad
  exact hf x2 y' x0 y0 S2 d Q ht2 (see_ok r2 v e2) (see_ok r2 w e3) e4 (z.k d μ2 S2 r2 h2)
theorem xc_joinA {o : Expr} {apos cpos : Pos} (ho : XCA C ax X W o ma) (he : XCA C ax X W e mb) (hbase : attributeBase o "join" X.env (eval o X.env) = eval o X.env := by rfl)
    (hfew : ((backTo cpos (starEach [e] X.env)).all (fun x => !x.1) && (backToKw cpos (keywordEach [] X.env)).all (fun x => x.1.isSome)
      && decide (([e] : List Expr).length + ([] : List Keyword).length + (if ([] : List Keyword).isEmpty then 0 else 1) < 30)) = true := by rfl)
    (hline : (apos.endLine == cpos.line) = true := by rfl) (hs : starEach [e] X.env = (false, eval e X.env) :: starEach [] X.env := by rfl) (hplain : (backTo cpos (starEach [] X.env)).any (·.1) = false := by rfl) :
    XC C ax X W (.Call (.Attribute o "join" apos) [e] [] cpos) (mMtA "str" joinD ma mb) := deI (de_join ho he hbase hfew hline hs hplain) fun E σ S Q h => mtA_post ok_join h
end
end KM

set_option maxRecDepth 100000
set_option maxHeartbeats 4000000
/-! Km8: try with one clause that names the error, or with clauses that do not; dict displays; ranges with a step; extend. -/
namespace KM
open PySem PySem.Spec PyProof.Rows L2 KD
/-! ### try -/
section
variable {X : Cx} {W : WX} {C : Str → Addr} {T U : List Str}
/-- one clause, its suite's reading by the error's address, class and dict -/
theorem ds_tryAs {c n : Str} {i : Nat} {body suite : List Stmt} {b₀ : Stmt} {np pos' pos : Pos} {rb : DTS} {r : Addr → Str → Addr → DTS} (hs : X.stack = X.env :: X.outer) (hf : X.env.frame = some X.env.locals) (hN : X.N.Nodup) (hi : X.N[i]? = some n) (hln : X.env.kindOf n = some .local) (tk : Takes X W) (E : ErrT X.K X.mg C T U) (hU : c ∈ U) (hg : Gl X c) (hd : (c == ("__debug__" : Str)) = false)
    (hb : ∀ (W : WX) (pn : List (Addr × Obj)) (xe : Value → Shared → Prop), Takes (X.tr pn xe) W → PassesOwn (model X.prog X.w) X.A X.env xe → DSs (X.tr pn xe) W body rb)
    (hsu : ∀ (a : Addr) (oe : Obj) (x : Str) (d : Addr) (pn : List (Addr × Obj)), x ∈ T → Zc (.ref (C x)) (some d) oe → (∃ vs, oe.data = .fields vs) → DSs (X.suite a ((a, oe) :: pn)) W0 (b₀ :: suite) (r a x d)) :
    DS X W (.Try body [.ExceptHandler (some (.Name c np)) (some n) (b₀ :: suite) pos'] [] [] pos) (fun Z σ S => rb ⟨Z.nx, Z.rt, Z.bk, Z.ct, fun Ca d σ' S' => ∃ x ∈ T, Ca = C x ∧ (subN x c = true → ∀ a, r a x d ⟨fun σ3 S3 => Z.nx (σ3.set i none) (rem S3 d), fun v S3 => Z.rt v (rem S3 d), fun σ3 S3 => Z.bk (σ3.set i none) (rem S3 d), fun σ3 S3 => Z.ct (σ3.set i none) (rem S3 d), fun _ _ _ _ => False⟩ (σ'.set i (some (.ref a))) S') ∧ (subN x c = false → Z.ex (C x) d σ' S')⟩ σ S) := by
  refine ⟨_, ps_try_as (tb := fun W => hS X.K W rb) (ts := fun a cls d D σ H => ∃ x dd, x ∈ T ∧ cls = .ref (C x) ∧ d = some dd ∧ hS X.K W0 (r a x dd) D σ H) hs hf hN hi hln ⟨hg, hd, .inl (E.glb _ hU).1⟩ tk (fun W pn xe tk ps => (hb W pn xe tk ps).can) (fun a oe cls d pn hz hf => ⟨fun pins s σ H D I ⟨x, dd, hx, e1, e2, q⟩ => ?_⟩), ⟨fun Dd G H S σV σ Dh eo k s h => ?_⟩⟩
  · subst e1 e2
    exact (hsu a oe x dd pn hx hz hf).can.run pins s σ H D I q
  · refine ⟨_, G, S, σ, ?_, k, s, h⟩
    refine ⟨eo.nx, eo.rt, eo.bk, eo.ct, fun Ca d σ' S' G' H' σV' q k' f' s' => ?_⟩
    obtain ⟨x, hx, rfl, q1, q2⟩ := q
    refine ⟨subN x c, (E.two x hx c hU).1, fun hb a _ => ⟨x, d, hx, rfl, rfl, ⟨_, G', S', _, ?_, k', s'.set i (.ref a), q1 hb a⟩⟩, fun hb => eo.ex _ _ _ _ _ _ _ (q2 hb) k' f' s'⟩
    have e2 := eo.mono f'
    exact ⟨⟨fun σ3 S3 G3 H3 σV3 q k f s => e2.nx.go _ _ G3 H3 _ q k.drop f.drop (s.unset i)⟩, fun v S3 G3 H3 u q k f r => e2.rt v _ G3 H3 u q k.drop f.drop r, ⟨fun σ3 S3 G3 H3 σV3 q k f s => e2.bk.go _ _ G3 H3 _ q k.drop f.drop (s.unset i)⟩, ⟨fun σ3 S3 G3 H3 σV3 q k f s => e2.ct.go _ _ G3 H3 _ q k.drop f.drop (s.unset i)⟩, fun _ _ _ _ _ _ _ q => q.elim⟩
/-- clauses without a name -/
inductive DHd (X : Cx) (C : Str → Addr) (T U : List Str) : List ExceptHandler → List (Str × (Addr → Str → Addr → DTS)) → Prop
  | nil : DHd X C T U [] []
  | cons {c : Str} {r : Addr → Str → Addr → DTS} {b₀ : Stmt} {suite : List Stmt} {np pos' : Pos} {hds : List ExceptHandler} {l : List (Str × (Addr → Str → Addr → DTS))} (hU : c ∈ U) (hg : Gl X c) (hd : (c == ("__debug__" : Str)) = false)
      (hsu : ∀ (a : Addr) (oe : Obj) (x : Str) (d : Addr) (pn : List (Addr × Obj)), x ∈ T → Zc (.ref (C x)) (some d) oe → (∃ vs, oe.data = .fields vs) → DSs (X.suite a ((a, oe) :: pn)) W0 (b₀ :: suite) (r a x d)) (rr : DHd X C T U hds l) :
      DHd X C T U (.ExceptHandler (some (.Name c np)) none (b₀ :: suite) pos' :: hds) ((c, r) :: l)
def exM (C : Str → Addr) (Z : DEnds) (x : Str) (d : Addr) (σ : DSt) (S : Sto) : List (Str × (Addr → Str → Addr → DTS)) → Prop
  | [] => Z.ex (C x) d σ S
  | (c, r) :: l => (subN x c = true → ∀ a, r a x d ⟨fun σ3 S3 => Z.nx σ3 (rem S3 d), fun v S3 => Z.rt v (rem S3 d), fun σ3 S3 => Z.bk σ3 (rem S3 d), fun σ3 S3 => Z.ct σ3 (rem S3 d), fun _ _ _ _ => False⟩ σ S) ∧ (subN x c = false → exM C Z x d σ S l)
def hdM (K : PySem.W.Frag) (C : Str → Addr) (T : List Str) : List (Str × (Addr → Str → Addr → DTS)) → List (Value × (Addr → Value → Option Addr → TS))
  | [] => []
  | (c, r) :: l => (.ref (C c), fun a cls d D σ H => ∃ x dd, x ∈ T ∧ cls = .ref (C x) ∧ d = some dd ∧ hS K W0 (r a x dd) D σ H) :: hdM K C T l
theorem hdM_ok (E : ErrT X.K X.mg C T U) {hds : List ExceptHandler} {l : List (Str × (Addr → Str → Addr → DTS))} (h : DHd X C T U hds l) : HdsOk X hds (hdM X.K C T l) := by
  induction h with
  | nil => exact .nil
  | cons hU hg hd hsu rr ih =>
    refine .cons ⟨hg, hd, .inl (E.glb _ hU).1⟩ (fun a oe cls d pn hz hf => ⟨fun pins s σ H D I ⟨x, dd, hx, e1, e2, q⟩ => ?_⟩) ih
    subst e1 e2
    exact (hsu a oe x dd pn hx hz hf).can.run pins s σ H D I q
theorem exM_ok (E : ErrT X.K X.mg C T U) {Z : DEnds} {G H : Hp} {S : Sto} {Dh : Ends} (e : EndsOk X.K W Z G H S Dh) {x : Str} {d : Addr} (hx : x ∈ T) {G' H' : Hp} {S' : Sto} {σV : L2.St} {σ : DSt} (k : Wok X.K G' H' S') (f : Fr G H S G' H' S') (s : Sl X.K G' σV σ)
    {hds : List ExceptHandler} {l : List (Str × (Addr → Str → Addr → DTS))} (h : DHd X C T U hds l) : exM C Z x d σ S' l → wMany X.K W Dh (hdM X.K C T l) (.ref (C x)) (some d) σV H' := by
  induction h with
  | nil => exact fun q => e.ex _ _ _ _ _ _ _ q k f s
  | @cons c r b₀ suite np pos' hds l hU hg hd hsu rr ih =>
    intro ⟨q1, q2⟩
    refine ⟨subN x c, (E.two x hx c hU).1, fun hb a _ => ⟨x, d, hx, rfl, rfl, ⟨_, G', S', σ, ?_, k, s, q1 hb a⟩⟩, fun hb => ih (q2 hb)⟩
    have e2 := e.mono f
    exact ⟨⟨fun σ3 S3 G3 H3 σV3 q k f s => e2.nx.go _ _ G3 H3 _ q k.drop f.drop s⟩, fun v S3 G3 H3 u q k f r => e2.rt v _ G3 H3 u q k.drop f.drop r, ⟨fun σ3 S3 G3 H3 σV3 q k f s => e2.bk.go _ _ G3 H3 _ q k.drop f.drop s⟩, ⟨fun σ3 S3 G3 H3 σV3 q k f s => e2.ct.go _ _ G3 H3 _ q k.drop f.drop s⟩, fun _ _ _ _ _ _ _ q => q.elim⟩
theorem ds_tryMany {body : List Stmt} {h₀ : ExceptHandler} {hds : List ExceptHandler} {l : List (Str × (Addr → Str → Addr → DTS))} {pos : Pos} {rb : DTS} (hs : X.stack = X.env :: X.outer) (hf : X.env.frame = some X.env.locals) (tk : Takes X W) (E : ErrT X.K X.mg C T U)
    (hb : ∀ (W : WX) (pn : List (Addr × Obj)) (xe : Value → Shared → Prop), Takes (X.tr pn xe) W → PassesOwn (model X.prog X.w) X.A X.env xe → DSs (X.tr pn xe) W body rb) (hh : DHd X C T U (h₀ :: hds) l) :
    DS X W (.Try body (h₀ :: hds) [] [] pos) (fun Z σ S => rb ⟨Z.nx, Z.rt, Z.bk, Z.ct, fun Ca d σ' S' => ∃ x ∈ T, Ca = C x ∧ exM C Z x d σ' S' l⟩ σ S) := by
  refine ⟨_, ps_try_many (tb := fun W => hS X.K W rb) hs hf tk (fun W pn xe tk ps => (hb W pn xe tk ps).can) (hdM_ok E hh), ⟨fun Dd G H S σV σ Dh eo k s h => ?_⟩⟩
  refine ⟨_, G, S, σ, ?_, k, s, h⟩
  refine ⟨eo.nx, eo.rt, eo.bk, eo.ct, fun Ca d σ' S' G' H' σV' q k' f' s' => ?_⟩
  obtain ⟨x, hx, rfl, q⟩ := q
  exact exM_ok E eo hx k' f' s' hh q
end
/-- no caught error is held -/
def noX : Env → Bool
  | [] => true
  | s :: r => (match s.core with | .x _ _ => false | _ => true) && noX r
def unX {β : Type} (i : Nat) (μ : Env) (k : Env → β) (b : β) : β := match μ[i]? with
  | some (.x _ _) => guard (noX (μ.set i .un)) (k (μ.set i .un)) b
  | _ => b
/-- within a suite that names the error at i -/
def zSuite {β : Type} (i : Nat) (z : ZM β) : ZM β := ⟨fun μ => unX i μ z.nx z.bad, fun d μ => unX i μ (z.rt d) z.bad, fun μ => unX i μ z.bk z.bad, fun μ => unX i μ z.ct z.bad, fun _ _ _ => z.bad, z.bad⟩
def zPlain {β : Type} (z : ZM β) : ZM β := ⟨fun μ => guard (noX μ) (z.nx μ) z.bad, fun d μ => guard (noX μ) (z.rt d μ) z.bad, fun μ => guard (noX μ) (z.bk μ) z.bad, fun μ => guard (noX μ) (z.ct μ) z.bad, fun _ _ _ => z.bad, z.bad⟩
def mTryAs (T : List Str) (c : Str) (i : Nat) (s h : MS) : MS := fun β z μ => s β ⟨z.nx, z.rt, z.bk, z.ct, fun c' fs μ' => guard (T.contains c') (if subN c' c then guard (noX μ') (setS i (.x c' fs) μ' (fun μ2 => h β (zSuite i z) μ2) z.bad) z.bad else z.ex c' fs μ') z.bad, z.bad⟩ μ
def dispM {β : Type} (z : ZM β) (c' : Str) (fs : Flds) (μ' : Env) : List (Str × MS) → β
  | [] => z.ex c' fs μ'
  | (c, h) :: l => if subN c' c then guard (noX μ') (h β (zPlain z) μ') z.bad else dispM z c' fs μ' l
def mTryM (T : List Str) (s : MS) (l : List (Str × MS)) : MS := fun β z μ => s β ⟨z.nx, z.rt, z.bk, z.ct, fun c' fs μ' => guard (T.contains c') (dispM z c' fs μ' l) z.bad, z.bad⟩ μ
section
variable {C : Str → Addr} {ax ax' : Ax} {fx : Fx} {μ : Env} {σ : DSt} {S : Sto}
theorem slot_ax {A : Nat → Addr} {i : Nat} : ∀ {s : SV}, (match s.core with | .x _ _ => false | _ => true) = true → SlotOk ax A σ S i s → SlotOk ax' A σ S i s
  | .un, _, q => q
  | .v _, _, q => q
  | .l _ _, _, q => q
  | .k _ _, _, q => q
  | .x _ _, h, _ => by cases h
  | .p s, h, q => slot_ax (s := s) h q
theorem noX_ok : ∀ {μ : Env}, noX μ = true → ∀ (i : Nat) (s : SV), μ[i]? = some s → (match s.core with | .x _ _ => false | _ => true) = true
  | [], _, i, s, e => by simp at e
  | t :: r, h, i, s, e => by
    rw [noX, Bool.and_eq_true] at h
    cases i with
    | zero => simp at e; subst e; exact h.1
    | succ i => exact noX_ok h.2 i s (by simpa using e)
theorem Rel.toAx (r : Rel ax fx μ σ S) (h : noX μ = true) : Rel ax' fx μ σ S := by
  obtain ⟨A, a⟩ := r
  exact ⟨A, a.lenμ, a.lenσ, fun i s e => slot_ax (noX_ok h i s e) (a.slot i s e), a.inj, a.new, a.ext, a.fr, a.io, a.oi⟩
/-- the error comes -/
theorem Rel.newX {i : Nat} {c : Str} {fs : Flds} {a p : Addr} {s : SV} (h : Rel ax fx μ σ S) (nx : noX μ = true) (hp : S p = none) (hi : ∀ s, μ[i]? ≠ some (.p s)) (he : μ[i]? = some s) (ho : s.own = false) : Rel ⟨a, p, c⟩ fx (μ.set i (.x c fs)) (σ.set i (some (.ref a))) (put S p (.xd fs)) := by
  have h : Rel ⟨a, p, c⟩ fx μ σ S := h.toAx nx
  have hl := h.len he
  obtain ⟨A, r⟩ := h
  refine ⟨_, r.set (p := p) hi (fun t e f => by rw [he] at e; cases e; rw [ho] at f; cases f) (fun o => by cases o) (by simp) (fun j c => List.getElem?_set_ne fun z => c z.symm) (fun j s m _ e d => put_ne (r.far hp e d)) (fun b m e => put_ext hp b m (r.ext b m e)) ⟨rfl, ?_, ?_, ?_⟩ fun m _ => ⟨r.S0n hp, fun j t n _ e d => r.far hp e d⟩⟩
  · exact set_get hl
  · simp
  · simp [put_same]
/-- the error goes -/
theorem Rel.goX {i : Nat} {c : Str} {fs : Flds} {a p : Addr} {o : Option D} {x : Str} (h : Rel ⟨a, p, x⟩ fx μ σ S) (he : μ[i]? = some (.x c fs)) (nx : noX (μ.set i .un) = true) : Rel ax fx (μ.set i .un) (σ.set i o) (rem S p) := by
  refine Rel.toAx (ax := ⟨a, p, x⟩) ?_ nx
  obtain ⟨A, r⟩ := h
  have sl := r.slot i _ he
  have far : ∀ j s m, j ≠ i → μ[j]? = some s → s.dm = some m → A j ≠ p := fun j s m c f d z => c (r.inj j i s _ m _ f he d rfl (by rw [sl.2.2.1]; exact z))
  have n0 := r.new i _ _ he rfl
  rw [sl.2.2.1] at n0
  exact ⟨_, r.set (p := A i) (fun s f => by rw [he] at f; cases f) (fun t f g => by rw [he] at f; cases f; cases g) (fun o => by cases o) (by simp) (fun j c => List.getElem?_set_ne fun z => c z.symm) (fun j s m c f d => rem_ne (far j s m c f d)) (fun b m f => by rw [rem_ne (fun z => by rw [z, n0] at f; cases f)]; exact r.ext b m f) trivial fun m f => nomatch f⟩
/-- a dict that nobody holds goes -/
theorem Rel.goD {p : Addr} (h : Rel ax fx μ σ S) (h0 : fx.S0 p = none) (hn : ∀ A, Rl ax fx μ σ S A → ∀ (i : Nat) (s : SV) (m : DM), μ[i]? = some s → s.dm = some m → A i ≠ p) : Rel ax fx μ σ (rem S p) := by
  obtain ⟨A, r⟩ := h
  exact ⟨A, r.lenμ, r.lenσ, fun i s e => slot_same rfl rfl (fun m d => rem_ne (hn A r i s m e d)) (r.slot i s e), r.inj, r.new, fun b m e => by rw [rem_ne (fun z => by rw [z, h0] at e; cases e)]; exact r.ext b m e, r.fr, r.io, r.oi⟩
theorem unX_ok {β : Type} {i : Nat} {k : Env → β} {b : β} {Φ : β → Prop} (h : Φ (unX i μ k b)) (hb : ¬ Φ b) : ∃ c fs, μ[i]? = some (.x c fs) ∧ noX (μ.set i .un) = true ∧ Φ (k (μ.set i .un)) := by
  unfold unX at h
  split at h
  · obtain ⟨h1, h2⟩ := guard_ok h hb
    exact ⟨_, _, by assumption, h1, h2⟩
  · exact absurd h hb
end
section
variable {C : Str → Addr} {ax : Ax} {X : Cx} {W : WX} {T U : List Str} {s h : MS}
theorem xs_tryAs {c n : Str} {i : Nat} {body suite : List Stmt} {b₀ : Stmt} {np pos' pos : Pos} (hs : X.stack = X.env :: X.outer) (hf : X.env.frame = some X.env.locals) (hN : X.N.Nodup) (hi : X.N[i]? = some n) (hln : X.env.kindOf n = some .local) (tk : Takes X W) (E : ErrT X.K X.mg C T U) (hU : c ∈ U) (hg : Gl X c) (hd : (c == ("__debug__" : Str)) = false)
    (hb : ∀ (W : WX) (pn : List (Addr × Obj)) (xe : Value → Shared → Prop), Takes (X.tr pn xe) W → PassesOwn (model X.prog X.w) X.A X.env xe → XSs C ax (X.tr pn xe) W body s)
    (hsu : ∀ (a : Addr) (oe : Obj) (x : Str) (d : Addr) (pn : List (Addr × Obj)), x ∈ T → Zc (.ref (C x)) (some d) oe → (∃ vs, oe.data = .fields vs) → XSs C ⟨a, d, x⟩ (X.suite a ((a, oe) :: pn)) W0 (b₀ :: suite) h) :
    XS C ax X W (.Try body [.ExceptHandler (some (.Name c np)) (some n) (b₀ :: suite) pos'] [] [] pos) (mTryAs T c i s h) := dsI (ds_tryAs hs hf hN hi hln tk E hU hg hd hb hsu) fun Z σ S ⟨fx, μ, β, z, Φ, r, o, h0⟩ => by
  refine ⟨fx, μ, β, _, Φ, r, ?_, (show Φ (s β _ μ) from h0)⟩
  refine ⟨o.bad, o.nx, o.rt, o.bk, o.ct, fun c' fs μ' σ' S' r' h' p hp => ?_⟩
  obtain ⟨hT, h'⟩ := guard_ok h' o.bad
  refine ⟨c', by simpa using hT, rfl, fun hc a => ?_, fun hc => ?_⟩
  · rw [if_pos hc] at h'
    obtain ⟨hx, h'⟩ := guard_ok h' o.bad
    obtain ⟨h', u, q1, q2, q3⟩ := setS_ok h' o.bad
    refine ⟨fx, _, β, zSuite i z, Φ, r'.newX hx hp q2 q1 q3, ⟨o.bad, fun μ3 σ3 S3 r3 h3 => ?_, fun d μ3 σ3 S3 r3 h3 => ?_, fun μ3 σ3 S3 r3 h3 => ?_, fun μ3 σ3 S3 r3 h3 => ?_, fun _ _ _ _ _ _ z => absurd z o.bad⟩, h'⟩
    · obtain ⟨c3, fs3, w1, w2, w3⟩ := unX_ok h3 o.bad
      exact o.nx _ _ _ (r3.goX w1 w2) w3
    · obtain ⟨c3, fs3, w1, w2, w3⟩ := unX_ok h3 o.bad
      exact o.rt d _ _ _ (r3.goX (o := none) w1 w2) w3
    · obtain ⟨c3, fs3, w1, w2, w3⟩ := unX_ok h3 o.bad
      exact o.bk _ _ _ (r3.goX w1 w2) w3
    · obtain ⟨c3, fs3, w1, w2, w3⟩ := unX_ok h3 o.bad
      exact o.ct _ _ _ (r3.goX w1 w2) w3
  · rw [if_neg (by rw [hc]; exact Bool.false_ne_true)] at h'
    exact o.ex c' fs μ' σ' S' r' h' p hp
/-- mirrors of clauses without a name -/
inductive XHd (X : Cx) (C : Str → Addr) (T U : List Str) : List ExceptHandler → List (Str × MS) → Prop
  | nil : XHd X C T U [] []
  | cons {c : Str} {h : MS} {b₀ : Stmt} {suite : List Stmt} {np pos' : Pos} {hds : List ExceptHandler} {l : List (Str × MS)} (hU : c ∈ U) (hg : Gl X c) (hd : (c == ("__debug__" : Str)) = false)
      (hsu : ∀ (ax : Ax) (a : Addr) (oe : Obj) (x : Str) (d : Addr) (pn : List (Addr × Obj)), x ∈ T → Zc (.ref (C x)) (some d) oe → (∃ vs, oe.data = .fields vs) → XSs C ax (X.suite a ((a, oe) :: pn)) W0 (b₀ :: suite) h) (rr : XHd X C T U hds l) :
      XHd X C T U (.ExceptHandler (some (.Name c np)) none (b₀ :: suite) pos' :: hds) ((c, h) :: l)
def rdH (C : Str → Addr) (ax : Ax) : List (Str × MS) → List (Str × (Addr → Str → Addr → DTS))
  | [] => []
  | (c, h) :: l => (c, fun _ _ _ => rdS C ax h) :: rdH C ax l
theorem xhd_ok (ax : Ax) {hds : List ExceptHandler} {l : List (Str × MS)} (h : XHd X C T U hds l) : DHd X C T U hds (rdH C ax l) := by
  induction h with
  | nil => exact .nil
  | cons hU hg hd hsu rr ih => exact .cons hU hg hd (fun a oe x d pn hx hz hf => hsu ax a oe x d pn hx hz hf) ih
theorem disp_ok {Z : DEnds} {fx : Fx} {β : Type} {z : ZM β} {Φ : β → Prop} (o : ZOk C ax fx Z z Φ) {c' : Str} {fs : Flds} {μ' : Env} {σ' : DSt} {S' : Sto} {p : Addr} (r' : Rel ax fx μ' σ' S') (hp : S' p = none) : ∀ {l : List (Str × MS)}, Φ (dispM z c' fs μ' l) → exM C Z c' p σ' (put S' p (.xd fs)) (rdH C ax l)
  | [], h => o.ex c' fs μ' σ' S' r' h p hp
  | (c, h) :: l, h' => by
    unfold dispM at h'
    refine ⟨fun hc a => ?_, fun hc => ?_⟩
    · rw [if_pos hc] at h'
      obtain ⟨hx, h'⟩ := guard_ok h' o.bad
      obtain ⟨A, ra⟩ := r'
      have h0 : fx.S0 p = none := ra.S0n hp
      have r2 : Rl ax fx μ' σ' (put S' p (.xd fs)) A := ra.sto (put_ext hp)
      -- the dict stays nobody's: the store that keeps tells so
      refine ⟨⟨fx.n, fx.fr, put fx.S0 p (.xd fs), fx.io⟩, μ', β, _, Φ, ⟨A, r2.lenμ, r2.lenσ, r2.slot, r2.inj, fun i s m e d => by
        show put fx.S0 p (.xd fs) (A i) = none
        rw [put_ne (ra.far hp e d)]; exact ra.new i s m e d, fun b m e => ?_, r2.fr, r2.io, r2.oi⟩, ?_, h'⟩
      · by_cases c : b = p
        · subst c
          have e : put fx.S0 b (.xd fs) b = some m := e
          rw [put_same] at e ⊢; exact e
        · have e : put fx.S0 p (.xd fs) b = some m := e
          rw [put_ne c] at e; exact r2.ext b m e
      · have back : ∀ {μ3 : Env} {σ3 : DSt} {S3 : Sto}, Rel ax ⟨fx.n, fx.fr, put fx.S0 p (.xd fs), fx.io⟩ μ3 σ3 S3 → Rel ax fx μ3 σ3 (rem S3 p) := fun {μ3 σ3 S3} ⟨B, b⟩ => by
          have far : ∀ (i : Nat) (s : SV) (m : DM), μ3[i]? = some s → s.dm = some m → B i ≠ p := fun i s m e d z => by
            have := b.new i s m e d
            rw [z] at this
            have this : put fx.S0 p (.xd fs) p = none := this
            rw [put_same] at this; cases this
          refine ⟨B, b.lenμ, b.lenσ, fun i s e => slot_same rfl rfl (fun m d => rem_ne (far i s m e d)) (b.slot i s e), b.inj, fun i s m e d => ?_, fun q m e => ?_, b.fr, b.io, b.oi⟩
          · have := b.new i s m e d
            have this : put fx.S0 p (.xd fs) (B i) = none := this
            rwa [put_ne (far i s m e d)] at this
          · have ne : q ≠ p := fun z => by rw [z, h0] at e; cases e
            rw [rem_ne ne]
            exact b.ext q m (by show put fx.S0 p (.xd fs) q = some m; rw [put_ne ne]; exact e)
        refine ⟨o.bad, fun μ3 σ3 S3 r3 h3 => ?_, fun d μ3 σ3 S3 r3 h3 => ?_, fun μ3 σ3 S3 r3 h3 => ?_, fun μ3 σ3 S3 r3 h3 => ?_, fun _ _ _ _ _ _ z => absurd z o.bad⟩
        · exact o.nx _ _ _ (back r3) (guard_ok h3 o.bad).2
        · exact o.rt d _ _ _ (back r3) (guard_ok h3 o.bad).2
        · exact o.bk _ _ _ (back r3) (guard_ok h3 o.bad).2
        · exact o.ct _ _ _ (back r3) (guard_ok h3 o.bad).2
    · rw [if_neg (by rw [hc]; exact Bool.false_ne_true)] at h'
      exact disp_ok o r' hp h'
theorem xs_tryMany {body : List Stmt} {h₀ : ExceptHandler} {hds : List ExceptHandler} {l : List (Str × MS)} {pos : Pos} (hs : X.stack = X.env :: X.outer) (hf : X.env.frame = some X.env.locals) (tk : Takes X W) (E : ErrT X.K X.mg C T U)
    (hb : ∀ (W : WX) (pn : List (Addr × Obj)) (xe : Value → Shared → Prop), Takes (X.tr pn xe) W → PassesOwn (model X.prog X.w) X.A X.env xe → XSs C ax (X.tr pn xe) W body s) (hh : XHd X C T U (h₀ :: hds) l) : XS C ax X W (.Try body (h₀ :: hds) [] [] pos) (mTryM T s l) :=
  dsI (ds_tryMany hs hf tk E hb (xhd_ok ax hh)) fun Z σ S ⟨fx, μ, β, z, Φ, r, o, h0⟩ => by
    refine ⟨fx, μ, β, _, Φ, r, ?_, (show Φ (s β _ μ) from h0)⟩
    refine ⟨o.bad, o.nx, o.rt, o.bk, o.ct, fun c' fs μ' σ' S' r' h' p hp => ?_⟩
    obtain ⟨hT, h'⟩ := guard_ok h' o.bad
    exact ⟨c', by simpa using hT, rfl, disp_ok o r' hp h'⟩
/-! the caught error's fields and class -/
def mXf (i : Nat) (n : Str) : Env → P D := fun μ => match μ[i]? with
  | some (.x _ fs) => opt (fs.lookup n)
  | _ => .bad
def mIsX (i : Nat) (y : Str) : Env → P Bool := fun μ => match μ[i]? with
  | some (.x c _) => .ok (subN c y) ()
  | _ => .bad
theorem xe_xf {a d : Addr} {x : Str} {i : Nat} {n : Str} {X : Cx} {W : WX} {e : Expr} (h : DE X W e (dXf a d i n)) : XE C ⟨a, d, x⟩ X W e (mXf i n) := deI h fun E σ S Q ⟨fx, μ, ⟨A, r⟩, p⟩ => by
  unfold mXf at p
  split at p
  · rename_i c fs hx
    obtain ⟨v, e, q⟩ := post_opt p
    have sl := r.slot i _ hx
    show dVar i E σ S _
    unfold dVar
    rw [sl.2.1]
    exact ⟨rfl, fs, v, by have h1 : A i = d := sl.2.2.1; rw [← h1]; exact sl.2.2.2, e, q⟩
  · exact p.elim
theorem xb_isX {a d : Addr} {x y : Str} {i : Nat} {X : Cx} {W : WX} {e : Expr} (h : DE X W e (dIsX a d i (subN x y))) : XB C ⟨a, d, x⟩ X W e (mIsX i y) := deI h fun E σ S Q ⟨fx, μ, ⟨A, r⟩, p⟩ => by
  unfold mIsX at p
  split at p
  · rename_i c fs hx
    have sl := r.slot i _ hx
    have ec : c = x := sl.1
    subst ec
    show dVar i E σ S _
    unfold dVar
    rw [sl.2.1]
    exact ⟨rfl, ⟨fs, by have h1 : A i = d := sl.2.2.1; rw [← h1]; exact sl.2.2.2⟩, p⟩
  · exact p.elim
end
/-! ### dict displays -/
abbrev MPS := (α : Type) → Env → (List (D × D) → P α) → P α
def psNil : MPS := fun α μ k => k []
def psCons (a b : Env → P D) (l : MPS) : MPS := fun α μ k => bind (a μ) fun x => bind (b μ) fun y => l α μ fun ps => k ((x, y) :: ps)
def dispD (ps : List (D × D)) : Option D := match pairsK ps with
  | some kvs => if kvs.length ≤ 15 then some (.dic (mergeD [] kvs)) else none
  | none => none
section
variable {C : Str → Addr} {ax : Ax} {X : Cx} {W : WX} {pos : Pos}
inductive XPs (C : Str → Addr) (ax : Ax) (X : Cx) (W : WX) (pos : Pos) : List (Option Expr) → List Expr → MPS → Prop
  | nil : XPs C ax X W pos [] [] psNil
  | cons {k v : Expr} {ks : List (Option Expr)} {vs : List Expr} {a b : Env → P D} {l : MPS} : XE C ax X W k a → XE C ax X W v b → XPs C ax X W pos ks vs l → XPs C ax X W pos (some k :: ks) (v :: vs) (psCons a b l)
theorem ps_ok {keys : List (Option Expr)} {values : List Expr} {l : MPS} (h : XPs C ax X W pos keys values l) : ∃ m, DPPs X W pos keys values m ∧ ∀ (E : DEr) (σ : DSt) (S : Sto) (Q : List (D × D) → Sto → Prop) (fx : Fx) (μ : Env) (α : Type) (k : List (D × D) → P α) (R : α → Prop), Rel ax fx μ σ S → (∀ ps, post C E S R (k ps) → Q ps S) → post C E S R (l α μ k) → dPairs m E σ S Q := by
  induction h with
  | nil => exact ⟨[], dpps_nil, fun E σ S Q fx μ α k R r q p => q [] p⟩
  | @cons k v ks vs a b l hk hv hr ih =>
    obtain ⟨m, h1, h2⟩ := ih
    refine ⟨_, dpps_cons hk hv h1, fun E σ S Q fx μ α k R r q p => ?_⟩
    unfold psCons at p
    rw [post_bind] at p
    refine ⟨fx, μ, r, post_mono (fun x p => ?_) p⟩
    rw [post_bind] at p
    exact ⟨fx, μ, r, post_mono (fun y p => h2 E σ S _ fx μ α _ R r (fun ps p => q _ p) p) p⟩
theorem xe_disp {keys : List (Option Expr)} {values : List Expr} {l : MPS} (h : XPs C ax X W pos keys values l) (hall : keys.all (·.isSome) = true) (hl : keys.length = values.length) (h0 : keys ≠ []) (hn : keys.length ≤ 15) : XE C ax X W (.Dict keys values pos) (fun μ => l D μ fun ps => opt (dispD ps)) := by
  obtain ⟨m, h1, h2⟩ := ps_ok h
  refine deI (de_disp h1 hall hl h0 hn) fun E σ S Q ⟨fx, μ, r, p⟩ => h2 E σ S _ fx μ D _ (fun d => Q d S) r (fun ps p => ?_) p
  obtain ⟨d, e, q⟩ := post_opt p
  unfold dispD at e
  split at e
  · rename_i kvs hk
    split at e
    · cases e; exact ⟨kvs, hk, by assumption, q⟩
    · cases e
  · cases e
end
end KM

set_option maxRecDepth 100000
set_option maxHeartbeats 4000000
/-! Km9: fresh lists by changing elements; several names bound at once; walks that change. -/
namespace KM
open PySem PySem.Spec PyProof.Rows L2 KD
section
variable {C : Str → Addr} {ax : Ax} {X : Cx} {W : WX} {a b c e : Expr} {ma mb : MCA} {mc : MC} {pos : Pos} {st : Stmt} {es : List Expr}
theorem xb_isT {a d : Addr} {x : Str} {i : Nat} {X : Cx} {W : WX} {e : Expr} (h : DE X W e (dIsX a d i true)) : XB C ⟨a, d, x⟩ X W e (fun μ => match μ[i]? with
  | some (.x _ _) => .ok true ()
  | _ => .bad) := deI h fun E σ S Q ⟨fx, μ, ⟨A, r⟩, p⟩ => by
  dsimp only at p
  split at p
  · rename_i c fs hx
    have sl := r.slot i _ hx
    show dVar i E σ S _
    unfold dVar
    rw [sl.2.1]
    exact ⟨rfl, ⟨fs, by have h1 : A i = d := sl.2.2.1; rw [← h1]; exact sl.2.2.2⟩, p⟩
  · exact p.elim
/-! ### fresh lists -/
def mLstF (l : MA) : ML := fun β μ k ex b => l β μ (fun as μ1 => gotO (valsO as) (fun ds => guard (sizeB ds.length) (k ds μ1) b) b) ex b
theorem xcf_lst {l : MA} (h : XAC C ax X W es l) : XCF C ax X W (.List es pos) (mLstF l) := deI (de_lstM h) fun E σ S Q ⟨fx, μ, β, k, ex, bd, Φ, r, z, h⟩ =>
  ⟨fx, μ, β, _, ex, bd, Φ, r, z.to fun as μ1 S1 r1 h1 ds hds => by
    obtain ⟨ds', e1, h1⟩ := gotO_ok h1 z.bad
    have := vals_ok e1 hds
    subst this
    obtain ⟨hz, h1⟩ := guard_ok h1 z.bad
    exact ⟨size_dec hz, z.k _ μ1 S1 r1 h1⟩, h⟩
theorem xcf_lcC {I : Js} {K : List Nat} {it : Env → P (List D)} {g : DTG} {m : MG} {t : MT} {me : MC} {js : List Nat} (hg : GOk js g m) (hj : ∀ j ∈ js, j ∈ K) (hd : ∀ i ∈ K, i ∉ ixJ I) (h : DE X W e (dLcM (rdI C ax it) g (rdCT C ax t) (rdC C ax me) K)) : XCF C ax X W e (mLcC I K it m t me) := deI h fun E σ S Q ⟨fx, μ, β, k, ex, bd, Φ, r, z, h⟩ =>
  lcC_post (Q := fun ys S => ∀ p, S p = none → Q (.ref p) (put S p (.lst ys))) hg hj hd r z h
/-! ### several names bound at once -/
abbrev MPR := (β : Type) → Env → (List SV → Env → β) → (Str → Flds → Env → β) → β → β
def prNil : MPR := fun β μ k ex b => k [] μ
def prV (m : MC) (l : MPR) : MPR := fun β μ k ex b => m β μ (fun d μ1 => l β μ1 (fun xs μ2 => k (.v d :: xs) μ2) ex b) ex b
def prL (m : ML) (l : MPR) : MPR := fun β μ k ex b => m β μ (fun ys μ1 => l β μ1 (fun xs μ2 => k (.l false ys :: xs) μ2) ex b) ex b
def prK (p : Env → P (List (Key × D))) (l : MPR) : MPR := fun β μ k ex b => got (p μ) (fun ys _ => l β μ (fun xs μ2 => k (.k false ys :: xs) μ2) ex b) (fun c fs _ => ex c fs μ) b
def Fx.plus (fx : Fx) (p : Addr) (m : DM) : Fx := ⟨fx.n, fx.fr, put fx.S0 p m, fx.io⟩
/-- what the values are, the fresh ones held by nobody yet -/
inductive FlR (ax : Ax) : Fx → Env → DSt → Sto → List SV → List D → Prop
  | nil {fx : Fx} {μ : Env} {σ : DSt} {S : Sto} : Rel ax fx μ σ S → FlR ax fx μ σ S [] []
  | v {fx : Fx} {μ : Env} {σ : DSt} {S : Sto} {d : D} {svs : List SV} {ds : List D} : FlR ax fx μ σ S svs ds → FlR ax fx μ σ S (.v d :: svs) (d :: ds)
  | l {fx : Fx} {μ : Env} {σ : DSt} {S : Sto} {p : Addr} {xs : List D} {svs : List SV} {ds : List D} : fx.S0 p = none → FlR ax (fx.plus p (.lst xs)) μ σ S svs ds → FlR ax fx μ σ S (.l false xs :: svs) (.ref p :: ds)
  | k {fx : Fx} {μ : Env} {σ : DSt} {S : Sto} {p : Addr} {xs : List (Key × D)} {svs : List SV} {ds : List D} : fx.S0 p = none → FlR ax (fx.plus p (.dic xs)) μ σ S svs ds → FlR ax fx μ σ S (.k false xs :: svs) (.ref p :: ds)
section
variable {fx : Fx} {μ : Env} {σ : DSt} {S : Sto} {p : Addr} {m : DM}
theorem Rel.float (r : Rel ax fx μ σ S) (hp : S p = none) : fx.S0 p = none ∧ Rel ax (fx.plus p m) μ σ (put S p m) := by
  obtain ⟨A, a⟩ := r
  have h0 := a.S0n hp
  refine ⟨h0, A, a.lenμ, a.lenσ, (a.sto (put_ext hp)).slot, a.inj, fun i s n e d => ?_, fun b n e => ?_, a.fr, a.io, a.oi⟩
  · show put fx.S0 p m (A i) = none
    rw [put_ne (a.far hp e d)]; exact a.new i s n e d
  · have e : put fx.S0 p m b = some n := e
    by_cases c : b = p
    · subst c
      rw [put_same] at e ⊢; exact e
    · rw [put_ne c] at e ⊢; exact a.ext b n e
theorem Rl.unfloat {A : Nat → Addr} (a : Rl ax (fx.plus p m) μ σ S A) (h0 : fx.S0 p = none) : Rl ax fx μ σ S A ∧ (∀ (i : Nat) (s : SV) (n : DM), μ[i]? = some s → s.dm = some n → A i ≠ p) ∧ S p = some m := by
  have far : ∀ (i : Nat) (s : SV) (n : DM), μ[i]? = some s → s.dm = some n → A i ≠ p := fun i s n e d z => by
    have := a.new i s n e d
    rw [z] at this
    have this : put fx.S0 p m p = none := this
    rw [put_same] at this; cases this
  refine ⟨⟨a.lenμ, a.lenσ, a.slot, a.inj, fun i s n e d => ?_, fun b n e => ?_, a.fr, a.io, a.oi⟩, far, a.ext p m (by show put fx.S0 p m p = some m; rw [put_same])⟩
  · have := a.new i s n e d
    have this : put fx.S0 p m (A i) = none := this
    rwa [put_ne (far i s n e d)] at this
  · exact a.ext b n (by show put fx.S0 p m b = some n; rw [put_ne fun z => by rw [z, h0] at e; cases e]; exact e)
theorem Rel.unfloat (r : Rel ax (fx.plus p m) μ σ S) (h0 : fx.S0 p = none) : Rel ax fx μ σ S := let ⟨A, a⟩ := r; ⟨A, (a.unfloat h0).1⟩
theorem plus_comm {q : Addr} {n : DM} (h : q ≠ p) : (fx.plus p m).plus q n = (fx.plus q n).plus p m := by
  show (⟨fx.n, fx.fr, put (put fx.S0 p m) q n, fx.io⟩ : Fx) = ⟨fx.n, fx.fr, put (put fx.S0 q n) p m, fx.io⟩
  congr 1
  funext b
  by_cases c : b = q
  · subst c; rw [put_same, put_ne h, put_same]
  · rw [put_ne c]
    by_cases c' : b = p
    · subst c'; rw [put_same, put_same]
    · rw [put_ne c', put_ne c', put_ne c]
/-- who holds it now -/
def svOf : DM → SV
  | .lst xs => .l false xs
  | .dic xs => .k false xs
  | _ => .un
theorem FlR.adopt {i : Nat} {u : SV} : ∀ {svs : List SV} {ds : List D} {fx : Fx} {σ : DSt}, FlR ax (fx.plus p m) μ σ S svs ds → fx.S0 p = none → (∀ s, μ[i]? ≠ some (.p s)) → μ[i]? = some u → u.own = false → FlR ax fx (μ.set i (svOf m)) (σ.set i (some (.ref p))) S svs ds := by
  intro svs ds fx σ h h0 hi he ho
  generalize hg : fx.plus p m = fx' at h
  induction h generalizing fx with
  | @nil fx' μ σ S r =>
    subst hg
    refine .nil ?_
    have hl := Rel.len (r.unfloat h0) he
    obtain ⟨A, a⟩ := r
    obtain ⟨a, far, hS⟩ := a.unfloat h0
    refine ⟨_, a.set (p := p) hi (fun t e f => by rw [he] at e; cases e; rw [ho] at f; cases f) (fun o => by cases m <;> cases o) (by simp) (fun j c => List.getElem?_set_ne fun z => c z.symm) (fun j s n _ e d => rfl) a.ext ?_ fun n d => ⟨h0, fun j t n c e d => far j t n e d⟩⟩
    cases m with
    | lst xs => exact ⟨by simp [set_get hl], by simp [hS]⟩
    | dic xs => exact ⟨by simp [set_get hl], by simp [hS]⟩
    | _ => trivial
  | v _ ih => exact .v (ih h0 hi he hg)
  | @l fx' μ σ S q xs svs ds hq f ih =>
    subst hg
    have hq : put fx.S0 p m q = none := hq
    have ne : q ≠ p := fun z => by rw [z, put_same] at hq; cases hq
    rw [put_ne ne] at hq
    refine .l hq (ih ?_ hi he (plus_comm ne).symm)
    show put fx.S0 q (.lst xs) p = none
    rw [put_ne ne.symm]; exact h0
  | @k fx' μ σ S q xs svs ds hq f ih =>
    subst hg
    have hq : put fx.S0 p m q = none := hq
    have ne : q ≠ p := fun z => by rw [z, put_same] at hq; cases hq
    rw [put_ne ne] at hq
    refine .k hq (ih ?_ hi he (plus_comm ne).symm)
    show put fx.S0 q (.dic xs) p = none
    rw [put_ne ne.symm]; exact h0
theorem FlR.setV {i : Nat} {u : SV} {svs : List SV} {ds : List D} {d : D} (h : FlR ax fx μ σ S svs ds) (hi : ∀ s, μ[i]? ≠ some (.p s)) (he : μ[i]? = some u) (ho : u.own = false) : FlR ax fx (μ.set i (.v d)) (σ.set i (some d)) S svs ds := by
  induction h with
  | nil r => exact .nil (r.setV d hi he ho)
  | v _ ih => exact .v (ih hi he)
  | l h0 _ ih => exact .l h0 (ih hi he)
  | k h0 _ ih => exact .k h0 (ih hi he)
end
def bindN {β : Type} : List Nat → List SV → Env → (Env → β) → β → β
  | [], [], μ, k, _ => k μ
  | i :: is, s :: ss, μ, k, b => setS i s μ (fun μ1 => bindN is ss μ1 k b) b
  | _, _, _, _, b => b
def setsD : List Nat → List D → DSt → DSt
  | i :: is, d :: ds, σ => setsD is ds (σ.set i (some d))
  | _, _, σ => σ
theorem bindN_ok {β : Type} {Φ : β → Prop} {k : Env → β} {bd : β} (hb : ¬ Φ bd) : ∀ {is : List Nat} {svs : List SV} {ds : List D} {fx : Fx} {μ : Env} {σ : DSt} {S : Sto}, FlR ax fx μ σ S svs ds → Φ (bindN is svs μ k bd) → is.length = ds.length ∧ ∃ μ', Rel ax fx μ' (setsD is ds σ) S ∧ Φ (k μ')
  | [], _, _, fx, μ, σ, S, .nil r, h => ⟨rfl, μ, r, h⟩
  | [], _, _, fx, μ, σ, S, .v _, h => absurd h hb
  | [], _, _, fx, μ, σ, S, .l _ _, h => absurd h hb
  | [], _, _, fx, μ, σ, S, .k _ _, h => absurd h hb
  | i :: is, _, _, fx, μ, σ, S, .nil r, h => absurd h hb
  | i :: is, _, _, fx, μ, σ, S, .v f, h => by
    obtain ⟨h, u, h2, h3, h4⟩ := setS_ok h hb
    obtain ⟨h5, h6⟩ := bindN_ok hb (f.setV h3 h2 h4) h
    exact ⟨by simp [h5], h6⟩
  | i :: is, _, _, fx, μ, σ, S, .l h0 f, h => by
    obtain ⟨h, u, h2, h3, h4⟩ := setS_ok h hb
    obtain ⟨h5, h6⟩ := bindN_ok hb (f.adopt h0 h3 h2 h4) h
    exact ⟨by simp [h5], h6⟩
  | i :: is, _, _, fx, μ, σ, S, .k h0 f, h => by
    obtain ⟨h, u, h2, h3, h4⟩ := setS_ok h hb
    obtain ⟨h5, h6⟩ := bindN_ok hb (f.adopt h0 h3 h2 h4) h
    exact ⟨by simp [h5], h6⟩
def rdPR (C : Str → Addr) (ax : Ax) (m : MPR) : DTA := fun E σ S Q => ∃ (fx : Fx) (μ : Env) (β : Type) (k : List SV → Env → β) (ex : Str → Flds → Env → β) (b : β) (Φ : β → Prop), Rel ax fx μ σ S ∧ ¬ Φ b ∧ (∀ svs ds μ S, FlR ax fx μ σ S svs ds → Φ (k svs μ) → Q ds S) ∧
  (∀ c fs μ S, Rel ax fx μ σ S → Φ (ex c fs μ) → ∀ p, S p = none → E (C c) p (put S p (.xd fs))) ∧ Φ (m β μ k ex b)
def XPR (C : Str → Addr) (ax : Ax) (X : Cx) (W : WX) (es : List Expr) (m : MPR) : Prop := DA X W es (rdPR C ax m)
variable {l : MPR}
theorem xpr_nil : XPR C ax X W [] prNil := daI da_nil fun E σ S Q ⟨fx, μ, β, k, ex, bd, Φ, r, hb, hk, hx, h⟩ => hk [] [] μ S (.nil r) h
theorem xpr_v (ha : XC C ax X W e mc) (hr : XPR C ax X W es l) (hs : starEach (e :: es) X.env = (false, eval e X.env) :: starEach es X.env := by rfl) : XPR C ax X W (e :: es) (prV mc l) := daI (da_cons ha hr hs) fun E σ S Q ⟨fx, μ, β, k, ex, bd, Φ, r, hb, hk, hx, h⟩ =>
  ⟨fx, μ, β, _, ex, bd, Φ, r, ⟨hb, fun d μ1 S1 r1 h1 => ⟨fx, μ1, β, _, ex, bd, Φ, r1, hb, fun svs ds μ2 S2 f h2 => hk _ _ μ2 S2 (.v f) h2, hx, h1⟩, hx⟩, h⟩
theorem xpr_l {m : ML} (ha : XCF C ax X W e m) (hr : XPR C ax X W es l) (hs : starEach (e :: es) X.env = (false, eval e X.env) :: starEach es X.env := by rfl) : XPR C ax X W (e :: es) (prL m l) := daI (da_cons ha hr hs) fun E σ S Q ⟨fx, μ, β, k, ex, bd, Φ, r, hb, hk, hx, h⟩ =>
  ⟨fx, μ, β, _, ex, bd, Φ, r, ⟨hb, fun ys μ1 S1 r1 h1 p hp => ⟨fx.plus p (.lst ys), μ1, β, _, ex, bd, Φ, (r1.float hp).2, hb, fun svs ds μ2 S2 f h2 => hk _ _ μ2 S2 (.l (r1.float (m := .lst ys) hp).1 f) h2, fun c fs μ3 S3 r3 => hx c fs μ3 S3 (r3.unfloat (r1.float (m := .lst ys) hp).1), h1⟩, hx⟩, h⟩
theorem xpr_k {p : Env → P (List (Key × D))} (ha : XG C ax X W e p) (hr : XPR C ax X W es l) (hs : starEach (e :: es) X.env = (false, eval e X.env) :: starEach es X.env := by rfl) : XPR C ax X W (e :: es) (prK p l) := daI (da_cons ha hr hs) fun E σ S Q ⟨fx, μ, β, k, ex, bd, Φ, r, hb, hk, hx, h⟩ =>
  ⟨fx, μ, r, post_mono (fun ys h1 p hp => ⟨fx.plus p (.dic ys), μ, β, _, ex, bd, Φ, (r.float hp).2, hb, fun svs ds μ2 S2 f h2 => hk _ _ μ2 S2 (.k (r.float (m := .dic ys) hp).1 f) h2, fun c fs μ3 S3 r3 => hx c fs μ3 S3 (r3.unfloat (r.float (m := .dic ys) hp).1), h1⟩) (got_ok (C := C) (E := E) (Q := fun _ _ => True) (k := fun ys μ' => l β μ' (fun xs μ2 => k (.k false ys :: xs) μ2) ex bd) h r ⟨hb, fun _ _ _ _ _ => trivial, hx⟩)⟩
def mParN (is : List Nat) (l : MPR) : MS := fun β z μ => l β μ (fun ss μ1 => bindN is ss μ1 z.nx z.bad) z.ex z.bad
theorem parN_post {Z : DEnds} {σ : DSt} {S : Sto} {is : List Nat} {N : List D → Sto → Prop} (hN : ∀ ds S, is.length = ds.length → Z.nx (setsD is ds σ) S → N ds S) (h : rdS C ax (mParN is l) Z σ S) : rdPR C ax l (exOf Z σ) σ S N := by
  obtain ⟨fx, μ, β, z, Φ, r, o, h⟩ := h
  refine ⟨fx, μ, β, _, z.ex, z.bad, Φ, r, o.bad, fun svs ds μ1 S1 f h1 => ?_, fun c fs μ1 S1 r1 h1 p hp => o.ex c fs μ1 σ S1 r1 h1 p hp, h⟩
  obtain ⟨h2, μ', r', h'⟩ := bindN_ok o.bad f h1
  exact hN ds S1 h2 (o.nx μ' _ S1 r' h')
theorem xs_parN2 {i j : Nat} (h : DS X W st (dPar i j (rdPR C ax l))) : XS C ax X W st (mParN [i, j] l) := dsI h fun Z σ S h => parN_post (fun ds S hl hn => match ds, hl with | [x, y], _ => hn) h
theorem xs_parN3 {i j k : Nat} (h : DS X W st (dPar3 i j k (rdPR C ax l))) : XS C ax X W st (mParN [i, j, k] l) := dsI h fun Z σ S h => parN_post (fun ds S hl hn => match ds, hl with | [x, y, z], _ => hn) h
theorem xg_dict0 : XG C ax X W (.Dict [] [] pos) (fun _ => .ok [] ()) := deI de_dict0M fun E σ S Q ⟨fx, μ, r, p⟩ => p
end
end KM

set_option maxRecDepth 100000
set_option maxHeartbeats 4000000
/-! Km10: walks whose source changes what slots hold; ranges of three. -/
namespace KM
open PySem PySem.Spec PyProof.Rows L2 KD
def rangeC (lo c : Int) (n : Nat) : List D := (List.range n).map fun i => .int (lo + (i : Nat) * c)
theorem wlk_rangeC {K : PySem.W.Frag} {G H : Hp} {S : Sto} (lo c : Int) (n : Nat) : Wlk K (Itc lo c n) (rangeC lo c n) G H S (fun _ => True) (YFn fun i => .int (lo + (i : Nat) * c)) := by
  refine ⟨by have := walk_rangeC (lo := lo) (c := c) (n := n); simpa [rangeC] using this, fun _ _ _ _ _ => trivial, fun i G2 H2 S2 H3 v hi hY k2 f2 => ?_⟩
  obtain ⟨rfl, rfl⟩ := hY
  have hi : i < n := by simpa [rangeC] using hi
  exact ⟨G2, .int (lo + (i : Nat) * c), by simp [rangeC, hi], k2, .refl _ _ _, .int _⟩
def dRange3 (r : DTA) : DTI := fun E σ S Q => r E σ S fun ds S' => match ds with
  | [.int i, .int j, .int c] => ∃ n : Nat, RgC i j c n ∧ Q (rangeC i c n) S'
  | _ => False
theorem di_range3 {X : Cx} {W : WX} {tg a b c : Expr} {pos : Pos} {r : DTA} {p : Pos} (hg : Gl X "range") (hm : X.mg "range" = none) (ha : DA X W [a, b, c] r) (hs : starEach [a, b, c] X.env = (false, eval a X.env) :: starEach [b, c] X.env := by rfl) (hpl : (backTo pos (starEach [b, c] X.env)).any (·.1) = false := by rfl) :
    DI X W tg (.Call (.Name "range" p) [a, b, c] [] pos) (dRange3 r) := by
  obtain ⟨t, p, q⟩ := ha
  refine ⟨_, pi_range3 hg hm p hs hpl, ⟨fun E G H S σV σ Q R w k s h f => ?_⟩⟩
  refine q.run E G H S σV σ _ _ w k s h fun ds S' G' H' vs hd k' g r => ?_
  match ds, vs, r, hd with
  | [.int i, .int j, .int c], _, .cons (.int _) (.cons (.int _) (.cons (.int _) .nil)), hd =>
    obtain ⟨n, h1, h2⟩ := hd
    exact ⟨i, j, c, n, rfl, h1, f _ S' G' H' _ _ _ h2 k' g (wlk_rangeC i c n)⟩
def rng3 (x y z : D) : Option (List D) := match x, y, z with
  | .int i, .int j, .int c => if c ≠ 0 ∧ c.natAbs < 1073741824 ∧ Builtin.Range.small i j c = true then some (rangeC i c (Builtin.Range.rangeSize i j c).toNat) else none
  | _, _, _ => none
theorem size_nn {i j c : Int} (h : c ≠ 0) : 0 ≤ Builtin.Range.rangeSize i j c := by
  unfold Builtin.Range.rangeSize
  split
  · split
    · exact Int.add_nonneg (Int.ediv_nonneg (by omega) (by omega)) (by decide)
    · exact Int.le_refl 0
  · split
    · exact Int.add_nonneg (Int.ediv_nonneg (by omega) (by omega)) (by decide)
    · exact Int.le_refl 0
theorem rng3_ok {i j c : Int} {xs : List D} (e : rng3 (.int i) (.int j) (.int c) = some xs) : ∃ n : Nat, RgC i j c n ∧ xs = rangeC i c n := by
  unfold rng3 at e
  dsimp only at e
  split at e
  · rename_i h
    cases e
    exact ⟨_, ⟨h.1, h.2.1, h.2.2, (Int.toNat_of_nonneg (size_nn h.1)).symm⟩, rfl⟩
  · cases e
def mIt3 (f : D → D → D → Option (List D)) (a b c : Env → P D) : Env → P (List D) := fun μ => bind (a μ) fun x => bind (b μ) fun y => bind (c μ) fun z => opt (f x y z)
def rdIC (C : Str → Addr) (ax : Ax) (m : ML) : DTI := fun E σ S Q => ∃ (fx : Fx) (μ : Env) (β : Type) (k : List D → Env → β) (ex : Str → Flds → Env → β) (b : β) (Φ : β → Prop), Rel ax fx μ σ S ∧ KOk C ax fx E σ k ex b Q Φ ∧ Φ (m β μ k ex b)
/-- a walk whose source changes what slots hold -/
def XIC (C : Str → Addr) (ax : Ax) (X : Cx) (W : WX) (tg e : Expr) (m : ML) : Prop := DI X W tg e (rdIC C ax m)
def lIt1 (f : D → Option (List D)) (a : MC) : ML := fun β μ k ex b => a β μ (fun x μ1 => gotO (f x) (fun xs => k xs μ1) b) ex b
def lIt2 (f : D → D → Option (List D)) (a b : MC) : ML := fun β μ k ex bd => a β μ (fun x μ1 => b β μ1 (fun y μ2 => gotO (f x y) (fun xs => k xs μ2) bd) ex bd) ex bd
def lIt3 (f : D → D → D → Option (List D)) (a b c : MC) : ML := fun β μ k ex bd => a β μ (fun x μ1 => b β μ1 (fun y μ2 => c β μ2 (fun z μ3 => gotO (f x y z) (fun xs => k xs μ3) bd) ex bd) ex bd) ex bd
section
variable {C : Str → Addr} {ax : Ax} {X : Cx} {W : WX} {a b c e tg iter : Expr} {ma mb mc : MC} {pos : Pos} {st : Stmt} {pa pb pc : Env → P D}
theorem xi_range3 {p : Pos} (hg : Gl X "range") (hm : X.mg "range" = none) (ha : XE C ax X W a pa) (hb : XE C ax X W b pb) (hc : XE C ax X W c pc) (hs1 : starEach [c] X.env = (false, eval c X.env) :: starEach [] X.env := by rfl) (hs2 : starEach [b, c] X.env = (false, eval b X.env) :: starEach [c] X.env := by rfl)
    (hs : starEach [a, b, c] X.env = (false, eval a X.env) :: starEach [b, c] X.env := by rfl) (hpl : (backTo pos (starEach [b, c] X.env)).any (·.1) = false := by rfl) : XI C ax X W tg (.Call (.Name "range" p) [a, b, c] [] pos) (mIt3 rng3 pa pb pc) :=
  diI (di_range3 hg hm (da_cons ha (da_cons hb (da_cons hc da_nil hs1) hs2) hs) hs hpl) fun E σ S Q ⟨fx, μ, r, p⟩ => by
    unfold mIt3 at p; rw [post_bind] at p
    refine ⟨fx, μ, r, post_mono (fun x p => ?_) p⟩
    rw [post_bind] at p
    refine ⟨fx, μ, r, post_mono (fun y p => ?_) p⟩
    rw [post_bind] at p
    refine ⟨fx, μ, r, post_mono (fun w p => ?_) p⟩
    obtain ⟨xs, e, q⟩ := post_opt p
    cases x <;> cases y <;> cases w <;> first | (simp only [rng3, reduceCtorEq] at e; done) | skip
    obtain ⟨n, h1, rfl⟩ := rng3_ok e
    exact ⟨n, h1, q⟩
theorem xic_p {it : Env → P (List D)} (h : XI C ax X W tg e it) : XIC C ax X W tg e (lPure it) := diI h fun E σ S Q ⟨fx, μ, β, k, ex, bd, Φ, r, z, h⟩ => ⟨fx, μ, r, post_mono (fun xs q => z.k xs μ S r q) (got_ok h r z)⟩
theorem xic_any (h : XC C ax X W e ma) : XIC C ax X W tg e (lIt1 iterD ma) := diI (di_any h) fun E σ S Q ⟨fx, μ, β, k, ex, bd, Φ, r, z, h⟩ =>
  ⟨fx, μ, β, _, ex, bd, Φ, r, z.to fun x μ1 S1 r1 h1 => by
    obtain ⟨xs, e, q⟩ := gotO_ok h1 z.bad
    have q := z.k xs μ1 S1 r1 q
    cases x <;> simp only [iterD, reduceCtorEq, Option.some.injEq] at e <;> (subst e; exact q), h⟩
theorem xic_range1 {p : Pos} (hg : Gl X "range") (hm : X.mg "range" = none) (ha : XC C ax X W a ma) (hs : starEach [a] X.env = [(false, eval a X.env)] := by rfl) (hs' : starEach [a] X.env = (false, eval a X.env) :: starEach [] X.env := by rfl) : XIC C ax X W tg (.Call (.Name "range" p) [a] [] pos) (lIt1 rng1 ma) :=
  diI (di_range1 hg hm (da_cons ha da_nil hs') hs) fun E σ S Q ⟨fx, μ, β, k, ex, bd, Φ, r, z, h⟩ => ⟨fx, μ, β, _, ex, bd, Φ, r, ⟨z.bad, fun x μ1 S1 r1 h1 => (by
    obtain ⟨xs, e, q⟩ := gotO_ok h1 z.bad
    have q := z.k xs μ1 S1 r1 q
    cases x <;> simp only [rng1, reduceCtorEq] at e
    split at e
    · rename_i c
      cases e; exact ⟨by omega, by omega, q⟩
    · cases e), z.ex⟩, h⟩
theorem xic_range2 {p : Pos} (hg : Gl X "range") (hm : X.mg "range" = none) (ha : XC C ax X W a ma) (hb : XC C ax X W b mb) (hs : starEach [a, b] X.env = [(false, eval a X.env), (false, eval b X.env)] := by rfl) (hs2 : starEach [b] X.env = [(false, eval b X.env)] := by rfl)
    (hs' : starEach [a, b] X.env = (false, eval a X.env) :: starEach [b] X.env := by rfl) (hs'' : starEach [b] X.env = (false, eval b X.env) :: starEach [] X.env := by rfl) : XIC C ax X W tg (.Call (.Name "range" p) [a, b] [] pos) (lIt2 rng2 ma mb) :=
  diI (di_range2 hg hm (da_cons ha (da_cons hb da_nil hs'') hs') hs hs2) fun E σ S Q ⟨fx, μ, β, k, ex, bd, Φ, r, z, h⟩ => ⟨fx, μ, β, _, ex, bd, Φ, r, ⟨z.bad, fun x μ1 S1 r1 h1 => ⟨fx, μ1, β, _, ex, bd, Φ, r1, ⟨z.bad, fun y μ2 S2 r2 h2 => (by
    obtain ⟨xs, e, q⟩ := gotO_ok h2 z.bad
    have q := z.k xs μ2 S2 r2 q
    cases x <;> cases y <;> simp only [rng2, reduceCtorEq] at e
    split at e
    · rename_i c
      cases e; exact ⟨⟨by omega, by omega, by omega, by omega⟩, q⟩
    · cases e), z.ex⟩, h1⟩, z.ex⟩, h⟩
theorem xic_range3 {p : Pos} (hg : Gl X "range") (hm : X.mg "range" = none) (ha : XC C ax X W a ma) (hb : XC C ax X W b mb) (hc : XC C ax X W c mc) (hs1 : starEach [c] X.env = (false, eval c X.env) :: starEach [] X.env := by rfl) (hs2 : starEach [b, c] X.env = (false, eval b X.env) :: starEach [c] X.env := by rfl)
    (hs : starEach [a, b, c] X.env = (false, eval a X.env) :: starEach [b, c] X.env := by rfl) (hpl : (backTo pos (starEach [b, c] X.env)).any (·.1) = false := by rfl) : XIC C ax X W tg (.Call (.Name "range" p) [a, b, c] [] pos) (lIt3 rng3 ma mb mc) :=
  diI (di_range3 hg hm (da_cons ha (da_cons hb (da_cons hc da_nil hs1) hs2) hs) hs hpl) fun E σ S Q ⟨fx, μ, β, k, ex, bd, Φ, r, z, h⟩ => ⟨fx, μ, β, _, ex, bd, Φ, r, ⟨z.bad, fun x μ1 S1 r1 h1 => ⟨fx, μ1, β, _, ex, bd, Φ, r1, ⟨z.bad, fun y μ2 S2 r2 h2 => ⟨fx, μ2, β, _, ex, bd, Φ, r2, ⟨z.bad, fun w μ3 S3 r3 h3 => (by
    obtain ⟨xs, e, q⟩ := gotO_ok h3 z.bad
    have q := z.k xs μ3 S3 r3 q
    cases x <;> cases y <;> cases w <;> first | (simp only [rng3, reduceCtorEq] at e; done) | skip
    obtain ⟨n, h1, rfl⟩ := rng3_ok e
    exact ⟨n, h1, q⟩), z.ex⟩, h2⟩, z.ex⟩, h1⟩, z.ex⟩, h⟩
theorem xic_enum {p tpos : Pos} {elts : List Expr} {kk : Nat} (hg : Gl X "enumerate") (hm : X.mg "enumerate" = none) (ha : XC C ax X W a ma) (hs : starEach [a] X.env = [(false, eval a X.env)] := by rfl) (hs' : starEach [a] X.env = (false, eval a X.env) :: starEach [] X.env := by rfl) : XIC C ax X W (.Tuple elts kk tpos) (.Call (.Name "enumerate" p) [a] [] pos) (lIt1 enumI ma) :=
  diI (di_enum hg hm (da_cons ha da_nil hs') hs) fun E σ S Q ⟨fx, μ, β, k, ex, bd, Φ, r, z, h⟩ => ⟨fx, μ, β, _, ex, bd, Φ, r, ⟨z.bad, fun x μ1 S1 r1 h1 => (by
    obtain ⟨xs, e, q⟩ := gotO_ok h1 z.bad
    have q := z.k xs μ1 S1 r1 q
    unfold enumI at e
    split at e
    · rename_i ys h
      cases e
      show match itemsOf x with | some xs => Q (enumD xs) S1 | none => False
      rw [h]; exact q
    · cases e), z.ex⟩, h⟩
def pureI (xs : List D) : Env → P (List D) := fun _ => .ok xs ()
def mForC (I J : Js) (K : List Nat) (it : ML) (g : MG) (s : MS) : MS := fun β z μ => it β μ (fun xs μ1 => mFor I J K (pureI xs) g s β z μ1) z.ex z.bad
theorem xs_forC {I J : Js} {K : List Nat} {body : List Stmt} {it : ML} {js : List Nat} {g : DTG} {mg : MG} {s : MS} (hp : PassesOwn (model X.prog X.w) X.A X.env X.xe) (hc : X.calm = true) (hi : XIC C ax X W tg iter it) (hg : DG X tg js g) (hgo : GOk js g mg) (hb : XSs C ax X W body s)
    (hs : ∀ x, foldedSetIterable iter X.env x = pure x := by intro _; rfl) : XS C ax X W (.For tg iter body [] pos) (mForC I J K it mg s) := dsI (ds_for hp hc hi hg hb hs) fun Z σ S ⟨fx, μ, β, z, Φ, r, o, h⟩ =>
  ⟨fx, μ, β, _, z.ex, z.bad, Φ, r, o.kok fun xs μ1 S1 r1 h1 => by
    obtain ⟨_, _, _, q⟩ := for_post (C := C) (it := pureI xs) hgo r1 o h1
    exact q, h⟩
def mLcI (I : Js) (K : List Nat) (it : ML) (g : MG) (t : MT) (e : MC) : ML := fun β μ k ex b => it β μ (fun xs μ1 => mLcC I K (pureI xs) g t e β μ1 k ex b) ex b
section
variable {I : Js} {K : List Nat} {it : ML} {g : DTG} {m : MG} {t : MT} {me : MC} {js : List Nat}
theorem lcI_post (hg : GOk js g m) (hj : ∀ j ∈ js, j ∈ K) (hd : ∀ i ∈ K, i ∉ ixJ I) {E : DEr} {σ : DSt} {S : Sto} {fx : Fx} {μ : Env} {Q : List D → Sto → Prop} {β : Type} {k : List D → Env → β} {ex : Str → Flds → Env → β} {bd : β} {Φ : β → Prop}
    (r : Rel ax fx μ σ S) (z : KOk C ax fx E σ k ex bd Q Φ) (h : Φ (mLcI I K it m t me β μ k ex bd)) : dLcL (rdIC C ax it) g (rdCT C ax t) (rdC C ax me) K E σ S Q :=
  ⟨fx, μ, β, _, ex, bd, Φ, r, z.to fun xs μ1 S1 r1 h1 => by
    obtain ⟨_, _, _, q⟩ := lcC_post (C := C) (E := E) hg hj hd r1 z h1
    exact q, h⟩
theorem xc_lcI (hg : GOk js g m) (hj : ∀ j ∈ js, j ∈ K) (hd : ∀ i ∈ K, i ∉ ixJ I) (h : DE X W e (dLc (rdIC C ax it) g (rdCT C ax t) (rdC C ax me) K)) : XC C ax X W e (mLcD (mLcI I K it m t me)) := deI h fun E σ S Q ⟨fx, μ, β, k, ex, bd, Φ, r, z, h⟩ =>
  lcI_post (Q := fun ys S => Q (.lst ys) S) (k := fun ys μ1 => k (.lst ys) μ1) hg hj hd r ⟨z.bad, fun ys μ1 S1 r1 h1 => z.k (.lst ys) μ1 S1 r1 h1, z.ex⟩ h
theorem xs_setLcI {i : Nat} (hg : GOk js g m) (hj : ∀ j ∈ js, j ∈ K) (hd : ∀ i ∈ K, i ∉ ixJ I) (h : DS X W st (dAsg (dLc (rdIC C ax it) g (rdCT C ax t) (rdC C ax me) K) (dgName i))) : XS C ax X W st (mSet i (mLcD (mLcI I K it m t me))) := xs_set (dsI h fun Z σ S ⟨fx, μ, β, k, ex, bd, Φ, r, z, h⟩ =>
  lcI_post (Q := fun ys S => dgName i (.lst ys) σ S Z.nx) (k := fun ys μ1 => k (.lst ys) μ1) hg hj hd r ⟨z.bad, fun ys μ1 S1 r1 h1 => z.k (.lst ys) μ1 S1 r1 h1, z.ex⟩ h)
theorem xs_setFLcI {i : Nat} (hg : GOk js g m) (hj : ∀ j ∈ js, j ∈ K) (hd : ∀ i ∈ K, i ∉ ixJ I) (h : DS X W st (dAsg (dLcM (rdIC C ax it) g (rdCT C ax t) (rdC C ax me) K) (dgName i))) : XS C ax X W st (mLcL i (mLcI I K it m t me)) := dsI h fun Z σ S ⟨fx, μ, β, z, Φ, r, o, h⟩ =>
  lcI_post (Q := fun ys S => ∀ p, S p = none → dgName i (.ref p) σ (put S p (.lst ys)) Z.nx) (k := fun ys μ1 => setS i (.l false ys) μ1 z.nx z.bad) hg hj hd r (o.kok fun ys μ1 S1 r1 h1 p hp => by
    obtain ⟨h, u, h2, h3, h4⟩ := setS_ok h1 o.bad
    exact o.nx _ _ _ (r1.newL hp ys h3 h2 h4) h) h
theorem xcf_lcI (hg : GOk js g m) (hj : ∀ j ∈ js, j ∈ K) (hd : ∀ i ∈ K, i ∉ ixJ I) (h : DE X W e (dLcM (rdIC C ax it) g (rdCT C ax t) (rdC C ax me) K)) : XCF C ax X W e (mLcI I K it m t me) := deI h fun E σ S Q ⟨fx, μ, β, k, ex, bd, Φ, r, z, h⟩ =>
  lcI_post (Q := fun ys S => ∀ p, S p = none → Q (.ref p) (put S p (.lst ys))) hg hj hd r z h
end
end
end KM

set_option maxRecDepth 100000
set_option maxHeartbeats 4000000
/-! Km11: methods of lists and texts, with and without change. -/
namespace KD
open PySem PySem.Spec PyProof.Rows L2
theorem _root_.L2.Room.units65 {k : Nat} {A : Around} (r : L2.Room k A) : A.units + 65 < cLine := by have := r.un; omega
/-- l.count(y) by data -/
def rCntD (K : PySem.W.Frag) : V → List V → Hp → VK → Prop := fun x ys H Q => ∃ (a : Addr) (y : V) (d : PyData) (ds : List PyData), x = .ref a ∧ ys = [y] ∧ Dp K H (.ref a) (.list ds) ∧ Dp K H y d ∧ SeqAt.shaped (.list ds) = true ∧ SeqAt.shaped d = true ∧ Q (.int (ds.countP (fun z => PyData.eqv z d) : Nat)) H
theorem mt_countD {X : Cx} (hu : X.A.units + 65 < cLine) : MtR X "list.count" (rCntD X.K) := fun pins s σ H x ys v us Q I rx rys ⟨a, y, d, ds, e1, e2, hl, hy, sl, sd, q⟩ => by
  subst e1 e2
  obtain rfl : v = .ref a := rx
  obtain ⟨u, e3, ru⟩ := rys.one
  subst e3
  obtain ⟨bs, rd⟩ := Dp.reads I d y u hy ru
  match hl with
  | .lst hs ha =>
    obtain ⟨its, rv, isl, hlen⟩ := I.list hs
    obtain ⟨as, rs⟩ := Dp.readsAll I ds _ its ha rv
    have em : its.map (SeqAt.readOf s.heap) = ds := SeqAt.readsAll_map ds its as (SeqAt.canLay_of_shaped sl) rs
    obtain ⟨⟨cls, dd, data, sls⟩, n, ho, hc, hdn, hdt⟩ := isl
    cases hc
    cases hdt
    have ec : its.toArray.toList.countP (fun u => PyData.eqv (SeqAt.readOf s.heap u) d) = ds.countP (fun z => PyData.eqv z d) := by
      rw [← em, List.countP_map]; rfl
    refine call_meets PySem.F.slot_list_count ⟨_, ho, rfl⟩ PySem.F.entry_list_count (PySem.F.args_list_count_2 _ _) (SeqAt.list_countAt a its.toArray n dd sls u (fun u => PyData.eqv (SeqAt.readOf s.heap u) d)) ⟨ho, ?_, ?_⟩
    · exact SeqAt.items_eqAt (vs := its.toArray) rs rd (SeqAt.canLay_of_shaped sl) (SeqAt.canLay_of_shaped sd) (room_in_shaped sd hu)
    · rw [ec]; exact ⟨.int _, H, I.tok _, ⟨s.toks, rfl⟩, q⟩
def dCount : D → List D → Sto → DK → Prop := fun x ys S Q => match ys with
  | [y] => ∃ ps p, toPy (vw S x) = some (.list ps) ∧ toPy (vw S y) = some p ∧ SeqAt.shaped (.list ps) = true ∧ SeqAt.shaped p = true ∧ Q (.int (ps.countP (fun z => PyData.eqv z p) : Nat)) S
  | _ => False
theorem dm_count {X : Cx} (hu : X.A.units + 65 < cLine) : DM1 X "list.count" dCount := ⟨_, mt_countD hu, ⟨fun G H S x ys v vs Q P k r1 r2 h p => by
  match ys, r2, h with
  | [y], .cons ry .nil, ⟨ps, p', h1, h2, h3, h4, h5⟩ =>
    have hx := dp_vw k r1 h1
    cases hx with
    | lst hs ha => exact ⟨_, _, p', ps, rfl, rfl, .lst hs ha, dp_vw k ry h2, h3, h4, p _ S G H _ h5 k (.refl _ _ _) (.int _)⟩⟩⟩
def dIndex : D → List D → Sto → DK → Prop := fun x ys S Q => match ys with
  | [y] => ∃ ps p j z, toPy (vw S x) = some (.list ps) ∧ toPy (vw S y) = some p ∧ SeqAt.shaped (.list ps) = true ∧ SeqAt.shaped p = true ∧ ps[j]? = some z ∧ PyData.eqv z p = true ∧ (∀ (m : Nat) (z' : PyData), m < j → ps[m]? = some z' → PyData.eqv z' p = false) ∧ Q (.int (j : Nat)) S
  | _ => False
theorem dm_index {X : Cx} (hu : X.A.units + 65 < cLine) : DM1 X "list.index" dIndex := ⟨_, mt_indexD hu, ⟨fun G H S x ys v vs Q P k r1 r2 h p => by
  match ys, r2, h with
  | [y], .cons ry .nil, ⟨ps, p', j, z, h1, h2, h3, h4, h5, h6, h7, h8⟩ =>
    have hx := dp_vw k r1 h1
    cases hx with
    | lst hs ha => exact ⟨_, _, p', ps, j, z, rfl, rfl, .lst hs ha, dp_vw k ry h2, h3, h4, h5, h6, h7, p _ S G H _ h8 k (.refl _ _ _) (.int _)⟩⟩⟩
/-! methods that change a list -/
def dExtend : D → List D → Sto → DK → Prop := fun x ys S Q => match x, ys with
  | .ref p, [y] => ∃ xs zs, S p = some (.lst xs) ∧ vw S y = .lst zs ∧ xs.length + zs.length ≤ sizeLine ∧ Q .non (put S p (.lst (xs ++ zs)))
  | _, _ => False
theorem dm_extend {X : Cx} : DM1 X "list.extend" dExtend := ⟨_, mt_extend, ⟨fun G H S x ys v vs Q P k r1 r2 h p => by
  match x, ys, r1, r2, h with
  | .ref a, [y], r1, .cons ry .nil, ⟨xs, zs, h1, h2, h3, h4⟩ =>
    cases r1
    obtain ⟨b, us2, rfl, q3, q4⟩ := seq_of k ry h2
    obtain ⟨_, us, q1, q2⟩ := k.sto _ _ h1
    refine ⟨_, b, us, us2, rfl, rfl, q1, q3, by rw [q2.length, q4.length]; exact h3, ?_⟩
    obtain ⟨k2, f2⟩ := k.chS (o := .lst (us ++ us2)) (m := .lst (xs ++ zs)) h1 ⟨_, upd_same, q2.append q4⟩
    exact p _ _ _ _ _ h4 k2 f2 .non⟩⟩
def dInsert : D → List D → Sto → DK → Prop := fun x ys S Q => match x, ys with
  | .ref p, [.int i, y] => ∃ xs, S p = some (.lst xs) ∧ xs.length < sizeLine ∧ 0 ≤ i ∧ i < 2 ^ 63 ∧ Q .non (put S p (.lst (xs.take i.toNat ++ [y] ++ xs.drop i.toNat)))
  | _, _ => False
theorem repl_take {K : PySem.W.Frag} {G : Hp} : ∀ {vs : List V} {ds : List D} (n : Nat), RepL K G vs ds → RepL K G (vs.take n) (ds.take n)
  | _, _, 0, _ => .nil
  | _, _, n + 1, .nil => .nil
  | _, _, n + 1, .cons r t => .cons r (repl_take n t)
theorem repl_drop {K : PySem.W.Frag} {G : Hp} : ∀ {vs : List V} {ds : List D} (n : Nat), RepL K G vs ds → RepL K G (vs.drop n) (ds.drop n)
  | _, _, 0, r => r
  | _, _, n + 1, .nil => .nil
  | _, _, n + 1, .cons r t => repl_drop n t
theorem dm_insert {X : Cx} : DM1 X "list.insert" dInsert := ⟨_, mt_insert, ⟨fun G H S x ys v vs Q P k r1 r2 h p => by
  match x, ys, r1, r2, h with
  | .ref a, [.int i, y], r1, .cons ri (.cons ry .nil), ⟨xs, h1, h2, h3, h4, h5⟩ =>
    cases r1
    cases ri
    obtain ⟨_, us, q1, q2⟩ := k.sto _ _ h1
    refine ⟨_, us, i, _, rfl, rfl, q1, by rw [q2.length]; exact h2, h3, h4, ?_⟩
    obtain ⟨k2, f2⟩ := k.chS (m := .lst (xs.take i.toNat ++ [y] ++ xs.drop i.toNat)) h1 ⟨_, upd_same, ((repl_take _ q2).append (.one ry)).append (repl_drop _ q2)⟩
    exact p _ _ _ _ _ h5 k2 f2 .non⟩⟩
def dPop : D → List D → Sto → DK → Prop := fun x ys S Q => match x, ys with
  | .ref p, [] => ∃ xs y, S p = some (.lst xs) ∧ xs[xs.length - 1]? = some y ∧ Q y (put S p (.lst xs.dropLast))
  | _, _ => False
theorem repl_get {K : PySem.W.Frag} {G : Hp} : ∀ {vs : List V} {ds : List D} {n : Nat} {d : D}, RepL K G vs ds → ds[n]? = some d → ∃ v, vs[n]? = some v ∧ Rep K G v d
  | _, _, n, _, .nil, h => by simp at h
  | _, _, 0, _, .cons r t, h => by simp at h; subst h; exact ⟨_, rfl, r⟩
  | _, _, n + 1, _, .cons r t, h => by
    rw [List.getElem?_cons_succ] at h
    obtain ⟨v, h1, h2⟩ := repl_get t h
    exact ⟨v, by rw [List.getElem?_cons_succ]; exact h1, h2⟩
theorem repl_dropLast {K : PySem.W.Frag} {G : Hp} {vs : List V} {ds : List D} (r : RepL K G vs ds) : RepL K G vs.dropLast ds.dropLast := by
  rw [List.dropLast_eq_take, List.dropLast_eq_take, r.length]; exact repl_take _ r
theorem repl_erase {K : PySem.W.Frag} {G : Hp} {n : Nat} {vs : List V} {ds : List D} (r : RepL K G vs ds) : RepL K G (vs.eraseIdx n) (ds.eraseIdx n) := by
  rw [List.eraseIdx_eq_take_drop_succ, List.eraseIdx_eq_take_drop_succ]; exact (repl_take _ r).append (repl_drop _ r)
theorem dm_pop {X : Cx} : DM1 X "list.pop" dPop := ⟨_, mt_pop, ⟨fun G H S x ys v vs Q P k r1 r2 h p => by
  match x, ys, r1, r2, h with
  | .ref a, [], r1, .nil, ⟨xs, y, h1, h2, h3⟩ =>
    cases r1
    obtain ⟨_, us, q1, q2⟩ := k.sto _ _ h1
    obtain ⟨u, h4, ru⟩ := repl_get q2 h2
    refine ⟨_, us, u, rfl, rfl, q1, by rw [q2.length]; exact h4, ?_⟩
    obtain ⟨k2, f2⟩ := k.chS (m := .lst xs.dropLast) h1 ⟨_, upd_same, repl_dropLast q2⟩
    exact p _ _ _ _ _ h3 k2 f2 (ru.mono f2.g)⟩⟩
def dPopAt : D → List D → Sto → DK → Prop := fun x ys S Q => match x, ys with
  | .ref p, [.int i] => ∃ xs j y, S p = some (.lst xs) ∧ -(2 ^ 63) ≤ i ∧ i < 2 ^ 63 ∧ seqIndex? i xs.length = some j ∧ xs[j]? = some y ∧ Q y (put S p (.lst (xs.eraseIdx j)))
  | _, _ => False
theorem dm_popAt {X : Cx} : DM1 X "list.pop" dPopAt := ⟨_, mt_popAt, ⟨fun G H S x ys v vs Q P k r1 r2 h p => by
  match x, ys, r1, r2, h with
  | .ref a, [.int i], r1, .cons ri .nil, ⟨xs, j, y, h1, h2, h3, h4, h5, h6⟩ =>
    cases r1
    cases ri
    obtain ⟨_, us, q1, q2⟩ := k.sto _ _ h1
    obtain ⟨u, h7, ru⟩ := repl_get q2 h5
    refine ⟨_, us, i, j, u, rfl, rfl, q1, h2, h3, by rw [q2.length]; exact h4, h7, ?_⟩
    obtain ⟨k2, f2⟩ := k.chS (m := .lst (xs.eraseIdx j)) h1 ⟨_, upd_same, repl_erase q2⟩
    exact p _ _ _ _ _ h6 k2 f2 (ru.mono f2.g)⟩⟩
end KD
namespace KM
open PySem PySem.Spec PyProof.Rows L2 KD
theorem toPyL_count {y : D} {p : PyData} (hp : toPy y = some p) : ∀ {xs : List D} {ps : List PyData}, toPyL xs = some ps → ps.countP (fun z => PyData.eqv z p) = xs.countP fun x => eqD x y
  | [], _, h => by simp only [toPyL, Option.some.injEq] at h; subst h; rfl
  | x :: xs, _, h => by
    simp only [toPyL] at h
    split at h
    · rename_i q qs h1 h2
      cases h
      rw [List.countP_cons, List.countP_cons, toPyL_count hp h2, eqv_eqD x y q p h1 hp]
    · cases h
theorem toPyL_at : ∀ {xs : List D} {ps : List PyData} {j : Nat} {z : PyData}, toPyL xs = some ps → ps[j]? = some z → ∃ x, xs[j]? = some x ∧ toPy x = some z
  | [], _, j, z, h, e => by simp only [toPyL, Option.some.injEq] at h; subst h; simp at e
  | x :: xs, _, j, z, h, e => by
    simp only [toPyL] at h
    split at h
    · rename_i q qs h1 h2
      cases h
      cases j with
      | zero => simp at e; subst e; exact ⟨x, rfl, h1⟩
      | succ j => rw [List.getElem?_cons_succ] at e ⊢; exact toPyL_at h2 e
    · cases h
theorem toPyL_len : ∀ {xs : List D} {ps : List PyData}, toPyL xs = some ps → ps.length = xs.length
  | [], _, h => by simp only [toPyL, Option.some.injEq] at h; subst h; rfl
  | x :: xs, _, h => by
    simp only [toPyL] at h
    split at h
    · rename_i q qs h1 h2
      cases h
      rw [List.length_cons, List.length_cons, toPyL_len h2]
    · cases h
def countD (x y : D) : Option D := match x with
  | .lst xs => if plD 64 (.lst xs) = true ∧ plD 64 y = true then some (.int (xs.countP fun z => eqD z y : Nat)) else none
  | _ => none
def indexD (x y : D) : Option D := match x with
  | .lst xs => if plD 64 (.lst xs) = true ∧ plD 64 y = true then match xs.findIdx? fun z => eqD z y with
    | some j => some (.int (j : Nat))
    | none => none else none
  | _ => none
theorem vw_pl' {S : Sto} {x0 x : D} (v : Vw S x0 x) (h : plD 64 x = true) : vw S x0 = x := vwx v fun p e => by subst e; simp [plD] at h
theorem shaped_lst {xs : List D} (h : plD 64 (.lst xs) = true) : ∃ ps, toPy (.lst xs) = some (.list ps) ∧ toPyL xs = some ps ∧ SeqAt.shaped (.list ps) = true := by
  obtain ⟨p, h1, h2⟩ := shaped_of h (Nat.le_refl _)
  have h3 := h1
  simp only [toPy, Option.map_eq_some_iff] at h1
  obtain ⟨ps, h4, rfl⟩ := h1
  exact ⟨ps, h3, h4, h2⟩
theorem ok_count : MtOk "list" dCount countD := fun x y x0 y0 S d Q _ v w e q => by
  cases x <;> simp only [countD, reduceCtorEq] at e
  split at e
  · rename_i c
    cases e
    obtain ⟨ps, h1, h2, h3⟩ := shaped_lst c.1
    obtain ⟨p, h4, h5⟩ := shaped_of c.2 (Nat.le_refl _)
    refine ⟨ps, p, by rw [vw_pl' v c.1]; exact h1, by rw [vw_pl' w c.2]; exact h4, h3, h5, ?_⟩
    rw [toPyL_count h4 h2]; exact q
  · cases e
theorem ok_index : MtOk "list" dIndex indexD := fun x y x0 y0 S d Q _ v w e q => by
  cases x <;> simp only [indexD, reduceCtorEq] at e
  rename_i xs _
  split at e
  · rename_i c
    split at e
    · rename_i j hj
      cases e
      obtain ⟨ps, h1, h2, h3⟩ := shaped_lst c.1
      obtain ⟨p, h4, h5⟩ := shaped_of c.2 (Nat.le_refl _)
      obtain ⟨h6, h7, h8⟩ := List.findIdx?_eq_some_iff_getElem.mp hj
      have hl := toPyL_len h2
      have g : ∀ (m : Nat) (z : PyData), ps[m]? = some z → ∀ hm : m < xs.length, PyData.eqv z p = eqD xs[m] y := fun m z hz hm => by
        obtain ⟨u, h9, h10⟩ := toPyL_at h2 hz
        rw [List.getElem?_eq_getElem hm] at h9
        cases h9
        exact eqv_eqD _ _ _ _ h10 h4
      refine ⟨ps, p, j, ps[j]'(by omega), by rw [vw_pl' v c.1]; exact h1, by rw [vw_pl' w c.2]; exact h4, h3, h5, List.getElem?_eq_getElem _, ?_, fun m z hm hz => ?_, q⟩
      · rw [g j _ (List.getElem?_eq_getElem _) h6]; exact h7
      · rw [g m z hz (by omega)]
        have := h8 m hm
        simpa using this
    · cases e
  · cases e
section
variable {C : Str → Addr} {ax : Ax} {X : Cx} {W : WX} {e o : Expr} {es : List Expr} {pos apos cpos : Pos} {pa pb : Env → P D} {ma mb : MCA}
theorem xe_m1 {q : D → List D → Sto → DK → Prop} {f : D → D → Option D} {name : Str} {T id : String} (pl : PlainAttrs T) (slot : Slot T name id) (hty : typeOf (.builtin id) = pure (.type "method_descriptor")) (hm : DM1 X id q) (hf : MtOk T q f) (ho : XV C ax X W o pa) (he : XV C ax X W e pb)
    (hbase : attributeBase o name X.env (eval o X.env) = eval o X.env := by rfl)
    (hfew : ((backTo cpos (starEach [e] X.env)).all (fun x => !x.1) && (backToKw cpos (keywordEach [] X.env)).all (fun x => x.1.isSome)
      && decide (([e] : List Expr).length + ([] : List Keyword).length + (if ([] : List Keyword).isEmpty then 0 else 1) < 30)) = true := by rfl)
    (hline : (apos.endLine == cpos.line) = true := by rfl) (hs : starEach [e] X.env = (false, eval e X.env) :: starEach [] X.env := by rfl) (hplain : (backTo cpos (starEach [] X.env)).any (·.1) = false := by rfl) :
    XE C ax X W (.Call (.Attribute o name apos) [e] [] cpos) (mMt T f pa pb) := deI (de_bm pl slot hty hm ho (da_cons he da_nil hs) hbase hfew hline hs hplain) fun E σ S Q h => mt_post hf h
theorem xc_m1 {q : D → List D → Sto → DK → Prop} {f : D → D → Option D} {name : Str} {T id : String} (pl : PlainAttrs T) (slot : Slot T name id) (hty : typeOf (.builtin id) = pure (.type "method_descriptor")) (hm : DM1 X id q) (hf : MtOk T q f) (ho : XCA C ax X W o ma) (he : XCA C ax X W e mb)
    (hbase : attributeBase o name X.env (eval o X.env) = eval o X.env := by rfl)
    (hfew : ((backTo cpos (starEach [e] X.env)).all (fun x => !x.1) && (backToKw cpos (keywordEach [] X.env)).all (fun x => x.1.isSome)
      && decide (([e] : List Expr).length + ([] : List Keyword).length + (if ([] : List Keyword).isEmpty then 0 else 1) < 30)) = true := by rfl)
    (hline : (apos.endLine == cpos.line) = true := by rfl) (hs : starEach [e] X.env = (false, eval e X.env) :: starEach [] X.env := by rfl) (hplain : (backTo cpos (starEach [] X.env)).any (·.1) = false := by rfl) :
    XC C ax X W (.Call (.Attribute o name apos) [e] [] cpos) (mMtA T f ma mb) := deI (de_bm pl slot hty hm ho (da_cons he da_nil hs) hbase hfew hline hs hplain) fun E σ S Q h => mtA_post hf h
/-! ### methods that change a list -/
def MutOk (q : D → List D → Sto → DK → Prop) (g : List D → List D → Option (D × List D)) : Prop := ∀ p xs ys0 ys S d zs (Q : DK), S p = some (.lst xs) → VwL S ys0 ys → g xs ys = some (d, zs) → Q d (put S p (.lst zs)) → q (.ref p) ys0 S Q
def mMut (i : Nat) (g : List D → List D → Option (D × List D)) (l : MAA) : MC := fun β μ k ex b => getL μ i (fun _ _ => l β μ (fun as μ1 => gotO (seeL as μ1) (fun ds => getL μ1 i (fun q xs => gotO (g xs ds) (fun r => k r.1 (μ1.set i (.l q r.2))) b) b) b) ex b) b
def mMut0 (i : Nat) (g : List D → List D → Option (D × List D)) : MC := fun β μ k ex b => getL μ i (fun q xs => gotO (g xs []) (fun r => k r.1 (μ.set i (.l q r.2))) b) b
theorem xc_mut {q : D → List D → Sto → DK → Prop} {g : List D → List D → Option (D × List D)} {i : Nat} {l : MAA} {name : Str} {id : String} (slot : Slot "list" name id) (hty : typeOf (.builtin id) = pure (.type "method_descriptor")) (hm : DM1 X id q) (hf : MutOk q g) (ho : DE X W o (dVar i)) (ha : XAA C ax X W (e :: es) l)
    (hbase : attributeBase o name X.env (eval o X.env) = eval o X.env := by rfl)
    (hfew : ((backTo cpos (starEach (e :: es) X.env)).all (fun x => !x.1) && (backToKw cpos (keywordEach [] X.env)).all (fun x => x.1.isSome)
      && decide ((e :: es).length + ([] : List Keyword).length + (if ([] : List Keyword).isEmpty then 0 else 1) < 30)) = true := by rfl)
    (hline : (apos.endLine == cpos.line) = true := by rfl) (hs : starEach (e :: es) X.env = (false, eval e X.env) :: starEach es X.env := by rfl) (hplain : (backTo cpos (starEach es X.env)).any (·.1) = false := by rfl) :
    XC C ax X W (.Call (.Attribute o name apos) (e :: es) [] cpos) (mMut i g l) := deI (de_bm PySem.F.plainAttrs_list slot hty hm ho ha hbase hfew hline hs hplain) fun E σ S Q ⟨fx, μ, β, k, ex, bd, Φ, r, z, h⟩ => by
  obtain ⟨qq, xs, hμ, h⟩ := getL_ok h z.bad
  obtain ⟨p, h1, h2, _, _⟩ := r.getL hμ
  unfold dBM dVar
  rw [h1]
  refine ⟨by rw [vw_l h2]; rfl, fx, μ, β, _, ex, bd, Φ, r, ⟨z.bad, fun as μ1 S1 r1 h3 ds0 hds => ?_, z.ex⟩, h⟩
  obtain ⟨ds, e1, h3⟩ := gotO_ok h3 z.bad
  obtain ⟨q1, xs1, hμ1, h3⟩ := getL_ok h3 z.bad
  obtain ⟨⟨d, zs⟩, e2, h3⟩ := gotO_ok h3 z.bad
  obtain ⟨p1, h4, h5, h6, _⟩ := r1.getL hμ1
  rw [h1] at h4
  cases h4
  exact hf p xs1 ds0 ds S1 d zs Q h5 (seeL_ok r1 hds e1) e2 (z.k d _ _ (h6 zs) h3)
theorem xc_mut0 {q : D → List D → Sto → DK → Prop} {g : List D → List D → Option (D × List D)} {i : Nat} {name : Str} {id : String} (slot : Slot "list" name id) (hty : typeOf (.builtin id) = pure (.type "method_descriptor")) (hm : DM1 X id q) (hf : MutOk q g) (ho : DE X W o (dVar i))
    (hbase : attributeBase o name X.env (eval o X.env) = eval o X.env := by rfl) (hline : (apos.endLine == cpos.line) = true := by rfl) : XC C ax X W (.Call (.Attribute o name apos) [] [] cpos) (mMut0 i g) := deI (de_bm0 PySem.F.plainAttrs_list slot hty hm ho hbase hline) fun E σ S Q ⟨fx, μ, β, k, ex, bd, Φ, r, z, h⟩ => by
  obtain ⟨qq, xs, hμ, h⟩ := getL_ok h z.bad
  obtain ⟨⟨d, zs⟩, e2, h⟩ := gotO_ok h z.bad
  obtain ⟨p, h1, h2, h6, _⟩ := r.getL hμ
  unfold dBM0 dVar
  rw [h1]
  exact ⟨by rw [vw_l h2]; rfl, hf p xs [] [] S d zs Q h2 .nil e2 (z.k d _ _ (h6 zs) h)⟩
def extG (xs ys : List D) : Option (D × List D) := match ys with
  | [.lst zs] => if xs.length + zs.length ≤ 16777216 then some (.non, xs ++ zs) else none
  | _ => none
def insG (xs ys : List D) : Option (D × List D) := match ys with
  | [.int i, y] => if xs.length < 16777216 ∧ 0 ≤ i ∧ i < 9223372036854775808 then some (.non, xs.take i.toNat ++ [y] ++ xs.drop i.toNat) else none
  | _ => none
def popG (xs ys : List D) : Option (D × List D) := match ys with
  | [] => match xs[xs.length - 1]? with
    | some y => some (y, xs.dropLast)
    | none => none
  | _ => none
def popAtG (xs ys : List D) : Option (D × List D) := match ys with
  | [.int i] => if 0 ≤ i ∧ i < 9223372036854775808 then match xs[i.toNat]? with
    | some y => some (y, xs.eraseIdx i.toNat)
    | none => none else none
  | _ => none
theorem mu_extend : MutOk dExtend extG := fun p xs ys0 ys S d zs Q hS v e q => by
  unfold extG at e
  split at e
  · rename_i us
    cases v with
    | cons v1 v2 =>
      cases v2
      split at e
      · rename_i c
        cases e; exact ⟨xs, us, hS, vwx v1 (by simp), size_ok c, q⟩
      · cases e
  · cases e
/-- the arguments stay values -/
def MutOkV (q : D → List D → Sto → DK → Prop) (g : List D → List D → Option (D × List D)) : Prop := ∀ p xs ys S d zs (Q : DK), S p = some (.lst xs) → g xs ys = some (d, zs) → Q d (put S p (.lst zs)) → q (.ref p) ys S Q
def mMutV (i : Nat) (g : List D → List D → Option (D × List D)) (l : MA) : MC := fun β μ k ex b => getL μ i (fun _ _ => l β μ (fun as μ1 => gotO (valsO as) (fun ds => getL μ1 i (fun q xs => gotO (g xs ds) (fun r => k r.1 (μ1.set i (.l q r.2))) b) b) b) ex b) b
theorem xc_mutV {q : D → List D → Sto → DK → Prop} {g : List D → List D → Option (D × List D)} {i : Nat} {l : MA} {name : Str} {id : String} (slot : Slot "list" name id) (hty : typeOf (.builtin id) = pure (.type "method_descriptor")) (hm : DM1 X id q) (hf : MutOkV q g) (ho : DE X W o (dVar i)) (ha : XAC C ax X W (e :: es) l)
    (hbase : attributeBase o name X.env (eval o X.env) = eval o X.env := by rfl)
    (hfew : ((backTo cpos (starEach (e :: es) X.env)).all (fun x => !x.1) && (backToKw cpos (keywordEach [] X.env)).all (fun x => x.1.isSome)
      && decide ((e :: es).length + ([] : List Keyword).length + (if ([] : List Keyword).isEmpty then 0 else 1) < 30)) = true := by rfl)
    (hline : (apos.endLine == cpos.line) = true := by rfl) (hs : starEach (e :: es) X.env = (false, eval e X.env) :: starEach es X.env := by rfl) (hplain : (backTo cpos (starEach es X.env)).any (·.1) = false := by rfl) :
    XC C ax X W (.Call (.Attribute o name apos) (e :: es) [] cpos) (mMutV i g l) := deI (de_bm PySem.F.plainAttrs_list slot hty hm ho ha hbase hfew hline hs hplain) fun E σ S Q ⟨fx, μ, β, k, ex, bd, Φ, r, z, h⟩ => by
  obtain ⟨qq, xs, hμ, h⟩ := getL_ok h z.bad
  obtain ⟨p, h1, h2, _, _⟩ := r.getL hμ
  unfold dBM dVar
  rw [h1]
  refine ⟨by rw [vw_l h2]; rfl, fx, μ, β, _, ex, bd, Φ, r, ⟨z.bad, fun as μ1 S1 r1 h3 ds0 hds => ?_, z.ex⟩, h⟩
  obtain ⟨ds, e1, h3⟩ := gotO_ok h3 z.bad
  have := vals_ok e1 hds
  subst this
  obtain ⟨q1, xs1, hμ1, h3⟩ := getL_ok h3 z.bad
  obtain ⟨⟨d, zs⟩, e2, h3⟩ := gotO_ok h3 z.bad
  obtain ⟨p1, h4, h5, h6, _⟩ := r1.getL hμ1
  rw [h1] at h4
  cases h4
  exact hf p xs1 _ S1 d zs Q h5 e2 (z.k d _ _ (h6 zs) h3)
theorem mu_insert : MutOkV dInsert insG := fun p xs ys S d zs Q hS e q => by
  unfold insG at e
  split at e
  · rename_i i y
    split at e
    · rename_i c
      cases e
      have := sizeLine_eq
      exact ⟨xs, hS, by omega, c.2.1, by omega, q⟩
    · cases e
  · cases e
theorem mu_pop : MutOk dPop popG := fun p xs ys0 ys S d zs Q hS v e q => by
  unfold popG at e
  split at e
  · cases v
    split at e
    · cases e; exact ⟨xs, _, hS, by assumption, q⟩
    · cases e
  · cases e
theorem mu_popAt : MutOkV dPopAt popAtG := fun p xs ys S d zs Q hS e q => by
  unfold popAtG at e
  split at e
  · rename_i i
    split at e
    · rename_i c
      split at e
      · rename_i y hy
        cases e
        have hl := (List.getElem?_eq_some_iff.mp hy).1
        refine ⟨xs, i.toNat, d, hS, by omega, by omega, ?_, hy, q⟩
        unfold seqIndex?
        have := c.1
        simp
        omega
      · cases e
    · cases e
  · cases e
end
end KM

set_option maxRecDepth 100000
set_option maxHeartbeats 4000000
/-! Kp0: how mirrors are reckoned: rules to rewrite by. -/
namespace KM
open PySem PySem.Spec L2 KD
section
variable {ε α β γ δ : Type}
theorem got_o {a : α} {s : ε} {k : α → ε → β} {ex : Str → Flds → ε → β} {b : β} : got (.ok a s) k ex b = k a s := rfl
theorem got_e {c : Str} {fs : Flds} {s : ε} {k : α → ε → β} {ex : Str → Flds → ε → β} {b : β} : got (.er c fs s) k ex b = ex c fs s := rfl
theorem bind_o {a : α} {s : Unit} {k : α → P β} : bind (.ok a s) k = k a := rfl
theorem bind_e {c : Str} {fs : Flds} {s : Unit} {k : α → P β} : bind (.er c fs s) k = .er c fs () := rfl
theorem opt_s {a : α} : opt (some a) = .ok a () := rfl
theorem gotO_s {a : α} {k : α → β} {b : β} : gotO (some a) k b = k a := rfl
theorem guard_t {a b : β} : KM.guard true a b = a := rfl
theorem outB_nx {a : α} {nx bk ct : α → β} {rt : D → ε → β} {er : Str → Flds → ε → β} {b : β} : outB (.nx a) nx bk ct rt er b = nx a := rfl
theorem outB_bk {a : α} {nx bk ct : α → β} {rt : D → ε → β} {er : Str → Flds → ε → β} {b : β} : outB (.bk a) nx bk ct rt er b = bk a := rfl
theorem outB_ct {a : α} {nx bk ct : α → β} {rt : D → ε → β} {er : Str → Flds → ε → β} {b : β} : outB (.ct a) nx bk ct rt er b = ct a := rfl
theorem outB_rt {d : D} {s : ε} {nx bk ct : α → β} {rt : D → ε → β} {er : Str → Flds → ε → β} {b : β} : outB (.rt d s) nx bk ct rt er b = rt d s := rfl
theorem outB_er {c : Str} {fs : Flds} {s : ε} {nx bk ct : α → β} {rt : D → ε → β} {er : Str → Flds → ε → β} {b : β} : outB (.er c fs s) nx bk ct rt er b = er c fs s := rfl
theorem un2_t {x y : D} {k : D → D → β} {b : β} : un2 (.tup [x, y]) k b = k x y := rfl
theorem un2_l {x y : D} {k : D → D → β} {b : β} : un2 (.lst [x, y]) k b = k x y := rfl
theorem un3_t {x y z : D} {k : D → D → D → β} {b : β} : un3 (.tup [x, y, z]) k b = k x y z := rfl
theorem un3_l {x y z : D} {k : D → D → D → β} {b : β} : un3 (.lst [x, y, z]) k b = k x y z := rfl
theorem un4_t {x y z w : D} {k : D → D → D → D → β} {b : β} : un4 (.tup [x, y, z, w]) k b = k x y z w := rfl
theorem un4_l {x y z w : D} {k : D → D → D → D → β} {b : β} : un4 (.lst [x, y, z, w]) k b = k x y z w := rfl
theorem noer_o {a : α} : noer (.ok a ()) = .ok a () := rfl
theorem stepB_nx {a : α} {go : α → B ε α} : stepB (.nx a) go = go a := rfl
theorem stepB_ct {a : α} {go : α → B ε α} : stepB (.ct a) go = go a := rfl
theorem stepB_bk {a : α} {go : α → B ε α} : stepB (.bk a) go = .nx a := rfl
theorem stepB_rt {d : D} {s : ε} {go : α → B ε α} : stepB (.rt d s) go = .rt d s := rfl
theorem stepB_er {c : Str} {fs : Flds} {s : ε} {go : α → B ε α} : stepB (.er c fs s) go = .er c fs s := rfl
end
/-! ### operators -/
section
variable {i j n : Int} {a b : Bool} {x y d : D} {xs ys l : List D} {s z : Str}
theorem e_add : addD (.int i) (.int j) = some (.int (i + j)) := rfl
theorem e_addI : addI (.int i) (.int j) = some (.int (i + j)) := rfl
theorem e_sub : subD (.int i) (.int j) = some (.int (i - j)) := rfl
theorem e_neg : negD (.int i) = some (.int (-i)) := rfl
theorem e_xor : xorD (.int i) (.int j) = some (.int (Builtin.bitXor i j)) := rfl
theorem e_mod (h : 0 < j) : modD (.int i) (.int j) = some (.int (i % j)) := if_pos h
theorem e_fdiv (h : 0 < j) (h2 : j < 18446744073709551616) : fdivD (.int i) (.int j) = some (.int (i / j)) := if_pos ⟨h, h2⟩
theorem e_mulR (h : -18446744073709551616 < j) (h2 : j < 18446744073709551616) : mulD (.int i) (.int j) = some (.int (i * j)) := if_pos (.inr (by omega))
theorem e_mulL (h : -18446744073709551616 < i) (h2 : i < 18446744073709551616) : mulD (.int i) (.int j) = some (.int (i * j)) := if_pos (.inl (by omega))
theorem e_pow (h : 0 ≤ j) (h2 : j ≤ 1000000) (h3 : -18446744073709551616 < i) (h4 : i < 18446744073709551616) : powD (.int i) (.int j) = some (.int (i ^ j.toNat)) := if_pos ⟨h, h2, by omega⟩
theorem e_lt : ltD (.int i) (.int j) = some (decide (i < j)) := rfl
theorem e_le : leD (.int i) (.int j) = some (decide (i ≤ j)) := rfl
theorem e_gt : gtD (.int i) (.int j) = some (decide (j < i)) := rfl
theorem e_ge : geD (.int i) (.int j) = some (decide (j ≤ i)) := rfl
theorem e_eqI : eqC (.int i) (.int j) = some (decide (i = j)) := rfl
theorem e_neI : neC (.int i) (.int j) = some (!decide (i = j)) := rfl
theorem e_eqB : eqC (.bl a) (.bl b) = some (a == b) := rfl
theorem e_neB : neC (.bl a) (.bl b) = some (!(a == b)) := rfl
theorem e_eqS : eqC (.str s) (.str z) = some (s == z) := rfl
theorem e_neS : neC (.str s) (.str z) = some (!(s == z)) := rfl
theorem e_eqLN : eqC (.lst xs) (.lst []) = some xs.isEmpty := by cases xs <;> rfl
theorem e_neLN : neC (.lst xs) (.lst []) = some (!xs.isEmpty) := by cases xs <;> rfl
theorem e_int : intD (.int i) = some (.int i) := rfl
theorem e_intB : intD (.bl a) = some (.int (if a then 1 else 0)) := rfl
theorem e_asB : asB (.bl a) = some a := rfl
theorem e_truB : truD (.bl a) = some a := rfl
theorem e_lenL : lenD (.lst xs) = some (.int xs.length) := rfl
theorem e_lenT : lenD (.tup xs) = some (.int xs.length) := rfl
theorem e_lenR {ns : List Int} : lenD (.scr ns) = some (.int ns.length) := rfl
theorem at_n {α : Type} {l : List α} {i : Int} {k : Nat} (e : i = k) (h : k < l.length) : atI l i = some l[k] := by
  subst e
  unfold atI ixN
  rw [if_pos (by omega), if_pos (by omega)]
  show l[((k : Nat) : Int).toNat]? = _
  rw [show ((k : Nat) : Int).toNat = k by omega]; exact List.getElem?_eq_getElem h
theorem at_i {α : Type} {l : List α} {i : Int} (h0 : 0 ≤ i) (h : i < l.length) : atI l i = some (l[i.toNat]'(by omega)) := at_n (Int.toNat_of_nonneg h0).symm (by omega)
theorem e_l0 : ixD (.lst (x :: xs)) (.int 0) = some x := at_n (l := x :: xs) (k := 0) rfl (by simp only [List.length_cons]; omega)
theorem e_l1 : ixD (.lst (x :: y :: xs)) (.int 1) = some y := at_n (l := x :: y :: xs) (k := 1) rfl (by simp only [List.length_cons]; omega)
theorem e_l2 {x2 : D} : ixD (.lst (x :: y :: x2 :: xs)) (.int 2) = some x2 := at_n (l := x :: y :: x2 :: xs) (k := 2) rfl (by simp only [List.length_cons]; omega)
theorem e_l3 {x2 x3 : D} : ixD (.lst (x :: y :: x2 :: x3 :: xs)) (.int 3) = some x3 := at_n (l := x :: y :: x2 :: x3 :: xs) (k := 3) rfl (by simp only [List.length_cons]; omega)
theorem e_t0 : ixD (.tup (x :: xs)) (.int 0) = some x := at_n (l := x :: xs) (k := 0) rfl (by simp only [List.length_cons]; omega)
theorem e_t1 : ixD (.tup (x :: y :: xs)) (.int 1) = some y := at_n (l := x :: y :: xs) (k := 1) rfl (by simp only [List.length_cons]; omega)
theorem e_t2 {x2 : D} : ixD (.tup (x :: y :: x2 :: xs)) (.int 2) = some x2 := at_n (l := x :: y :: x2 :: xs) (k := 2) rfl (by simp only [List.length_cons]; omega)
theorem e_t3 {x2 x3 : D} : ixD (.tup (x :: y :: x2 :: x3 :: xs)) (.int 3) = some x3 := at_n (l := x :: y :: x2 :: x3 :: xs) (k := 3) rfl (by simp only [List.length_cons]; omega)
theorem e_lI (h0 : 0 ≤ i) (h : i < xs.length) : ixD (.lst xs) (.int i) = some (xs[i.toNat]'(by omega)) := at_i h0 h
theorem e_tI (h0 : 0 ≤ i) (h : i < xs.length) : ixD (.tup xs) (.int i) = some (xs[i.toNat]'(by omega)) := at_i h0 h
theorem e_lN {k : Nat} (h : k < xs.length) : ixD (.lst xs) (.int (k : Nat)) = some xs[k] := at_n rfl h
theorem e_tN {k : Nat} (h : k < xs.length) : ixD (.tup xs) (.int (k : Nat)) = some xs[k] := at_n rfl h
theorem e_rI {ns : List Int} (h0 : 0 ≤ i) (h : i < ns.length) : ixD (.scr ns) (.int i) = some (.int (ns[i.toNat]'(by omega))) := by
  show (match atI ns i with | some n => some (D.int n) | none => none) = _
  rw [at_i h0 h]
theorem e_ixW {k : Nat} (h0 : 0 ≤ i) (h : i < k) : ixW k (.int i) = some i.toNat := by
  show ixN k i = _
  unfold ixN
  rw [if_pos h0, if_pos (by omega)]
theorem e_ixWN {k m : Nat} (h : m < k) : ixW k (.int (m : Nat)) = some m := by rw [e_ixW (by omega) (by omega)]; rfl
theorem e_rng1 (h : i < 4611686018427387904) (h2 : -4611686018427387904 ≤ i) : rng1 (.int i) = some (rangeD 0 i.toNat) := if_pos ⟨h2, h⟩
theorem e_rng1N {k : Nat} (h : k < 4611686018427387904) : rng1 (.int (k : Nat)) = some (rangeD 0 k) := by
  rw [e_rng1 (by omega) (by omega)]; rfl
theorem e_rng2 (h1 : -4611686018427387904 ≤ i) (h2 : i < 4611686018427387904) (h3 : -4611686018427387904 ≤ j) (h4 : j < 4611686018427387904) : rng2 (.int i) (.int j) = some (rangeD i (j - i).toNat) := if_pos ⟨h1, h2, h3, h4⟩
theorem e_seqL : seqD (.lst xs) = some xs := rfl
theorem e_seqT : seqD (.tup xs) = some xs := rfl
theorem e_tupL : tupleD (.lst xs) = some (.tup xs) := rfl
theorem e_tupT : tupleD (.tup xs) = some (.tup xs) := rfl
theorem e_lstL : listD (.lst xs) = some (.lst xs) := rfl
theorem e_lstT : listD (.tup xs) = some (.lst xs) := rfl
theorem e_iterL : iterD (.lst xs) = some xs := rfl
theorem e_iterT : iterD (.tup xs) = some xs := rfl
theorem e_iterR {ns : List Int} : iterD (.scr ns) = some (ns.map .int) := rfl
theorem e_size {n : Nat} (h : n ≤ 16777216) : sizeB n = true := decide_eq_true h
theorem e_cat (h : xs.length + ys.length ≤ 16777216) : catD (.lst xs) (.lst ys) = some (xs ++ ys) := if_pos h
theorem e_addL (h : xs.length + ys.length ≤ 16777216) : addD (.lst xs) (.lst ys) = some (.lst (xs ++ ys)) := if_pos h
theorem e_addT (h : xs.length + ys.length ≤ 16777216) : addD (.tup xs) (.tup ys) = some (.tup (xs ++ ys)) := if_pos h
theorem cut_one {x : D} {l : List D} : cutD (x :: l) none (some 1) = [x] := by
  unfold cutD HT.sIx
  simp
/-! isinstance -/
def tyI (d : D) : Bool := match d with | .int _ => true | .bl _ => true | _ => false
theorem e_isI_int : isiD (.int i) (.ty "int") = some true := rfl
theorem e_isB_int : isiD (.int i) (.ty "bool") = some false := rfl
theorem e_isS_int : isiD (.int i) (.ty "str") = some false := rfl
theorem e_isL_int : isiD (.int i) (.ty "list") = some false := rfl
theorem e_isT_int : isiD (.int i) (.ty "tuple") = some false := rfl
theorem e_isD_int : isiD (.int i) (.ty "dict") = some false := rfl
theorem e_isTL_int : isiD (.int i) (.tup [.ty "tuple", .ty "list"]) = some false := rfl
theorem e_isLT_int : isiD (.int i) (.tup [.ty "list", .ty "tuple"]) = some false := rfl
end
/-! ### loops -/
section
variable {ε α β : Type}
/-- the ways that o may end -/
def Nx (o : B ε α) (J : α → Prop) : Prop := match o with | .nx b => J b | _ => False
def Go (o : B ε α) (J : α → Prop) : Prop := match o with | .nx b => J b | .ct b => J b | _ => False
def Ok (x : R ε α) (Φ : α → ε → Prop) : Prop := match x with | .ok a s => Φ a s | _ => False
theorem Nx.ex {o : B ε α} {J : α → Prop} (h : Nx o J) : ∃ b, o = .nx b ∧ J b := by
  cases o <;> first | exact ⟨_, rfl, h⟩ | exact h.elim
theorem Ok.ex {x : R ε α} {Φ : α → ε → Prop} (h : Ok x Φ) : ∃ a s, x = .ok a s ∧ Φ a s := by
  cases x <;> first | exact ⟨_, _, rfl, h⟩ | exact h.elim
theorem Nx.mono {o : B ε α} {J J' : α → Prop} (h : Nx o J) (f : ∀ a, J a → J' a) : Nx o J' := by
  cases o <;> first | exact f _ h | exact h.elim
theorem Ok.mono {x : R ε α} {Φ Ψ : α → ε → Prop} (h : Ok x Φ) (f : ∀ a s, Φ a s → Ψ a s) : Ok x Ψ := by
  cases x <;> first | exact f _ _ h | exact h.elim
theorem nx_out {o : B ε α} (J : α → Prop) {P : β → Prop} {nx bk ct : α → β} {rt : D → ε → β} {er : Str → Flds → ε → β} {bad : β} (h : Nx o J) (hn : ∀ b, J b → P (nx b)) : P (outB o nx bk ct rt er bad) := by
  obtain ⟨b, rfl, h⟩ := h.ex
  exact hn b h
theorem nx_eq {o : B ε α} (J : α → Prop) {y : β} {nx bk ct : α → β} {rt : D → ε → β} {er : Str → Flds → ε → β} {bad : β} (h : Nx o J) (hn : ∀ b, J b → nx b = y) : outB o nx bk ct rt er bad = y := by
  obtain ⟨b, rfl, h⟩ := h.ex
  exact hn b h
theorem nx_go {γ δ : Type} {o : B ε α} (J : α → Prop) {I : δ → Prop} {nx bk ct : α → B γ δ} {rt : D → ε → B γ δ} {er : Str → Flds → ε → B γ δ} {bad : B γ δ} (h : Nx o J) (hn : ∀ b, J b → Go (nx b) I) : Go (outB o nx bk ct rt er bad) I := nx_out (P := fun y => Go y I) J h hn
theorem nx_nx {γ δ : Type} {o : B ε α} (J : α → Prop) {I : δ → Prop} {nx bk ct : α → B γ δ} {rt : D → ε → B γ δ} {er : Str → Flds → ε → B γ δ} {bad : B γ δ} (h : Nx o J) (hn : ∀ b, J b → Nx (nx b) I) : Nx (outB o nx bk ct rt er bad) I := nx_out (P := fun y => Nx y I) J h hn
theorem nx_ok {γ δ : Type} {o : B ε α} (J : α → Prop) {Φ : γ → δ → Prop} {nx bk ct : α → R δ γ} {rt : D → ε → R δ γ} {er : Str → Flds → ε → R δ γ} {bad : R δ γ} (h : Nx o J) (hn : ∀ b, J b → Ok (nx b) Φ) : Ok (outB o nx bk ct rt er bad) Φ := nx_out (P := fun y => Ok y Φ) J h hn
theorem ok_got {x : R ε α} (Ψ : α → ε → Prop) {P : β → Prop} {k : α → ε → β} {ex : Str → Flds → ε → β} {b : β} (h : Ok x Ψ) (hk : ∀ a s, Ψ a s → P (k a s)) : P (got x k ex b) := by
  obtain ⟨a, s, rfl, h⟩ := h.ex
  exact hk a s h
theorem ok_ok {γ δ : Type} {x : R ε α} (Ψ : α → ε → Prop) {Φ : γ → δ → Prop} {k : α → ε → R δ γ} {ex : Str → Flds → ε → R δ γ} {b : R δ γ} (h : Ok x Ψ) (hk : ∀ a s, Ψ a s → Ok (k a s) Φ) : Ok (got x k ex b) Φ := ok_got (P := fun y => Ok y Φ) Ψ h hk
theorem ok_go {γ δ : Type} {x : R ε α} (Ψ : α → ε → Prop) {I : δ → Prop} {k : α → ε → B γ δ} {ex : Str → Flds → ε → B γ δ} {b : B γ δ} (h : Ok x Ψ) (hk : ∀ a s, Ψ a s → Go (k a s) I) : Go (got x k ex b) I := ok_got (P := fun y => Go y I) Ψ h hk
theorem ok_nx {γ δ : Type} {x : R ε α} (Ψ : α → ε → Prop) {I : δ → Prop} {k : α → ε → B γ δ} {ex : Str → Flds → ε → B γ δ} {b : B γ δ} (h : Ok x Ψ) (hk : ∀ a s, Ψ a s → Nx (k a s) I) : Nx (got x k ex b) I := ok_got (P := fun y => Nx y I) Ψ h hk
theorem nx_goE {γ δ κ : Type} {o : B ε α} (J : κ → α → Prop) {I : δ → Prop} {nx bk ct : α → B γ δ} {rt : D → ε → B γ δ} {er : Str → Flds → ε → B γ δ} {bad : B γ δ} (h : Nx o fun t => ∃ c, J c t) (hn : ∀ c b, J c b → Go (nx b) I) : Go (outB o nx bk ct rt er bad) I := nx_go _ h fun b ⟨c, h⟩ => hn c b h
theorem ok_goE {γ δ κ : Type} {x : R ε α} (J : κ → α → ε → Prop) {I : δ → Prop} {k : α → ε → B γ δ} {ex : Str → Flds → ε → B γ δ} {b : B γ δ} (h : Ok x fun a s => ∃ c, J c a s) (hk : ∀ c a s, J c a s → Go (k a s) I) : Go (got x k ex b) I := ok_go _ h fun a s ⟨c, h⟩ => hk c a s h
theorem nx_nxE {γ δ κ : Type} {o : B ε α} (J : κ → α → Prop) {I : δ → Prop} {nx bk ct : α → B γ δ} {rt : D → ε → B γ δ} {er : Str → Flds → ε → B γ δ} {bad : B γ δ} (h : Nx o fun t => ∃ c, J c t) (hn : ∀ c b, J c b → Nx (nx b) I) : Nx (outB o nx bk ct rt er bad) I := nx_nx _ h fun b ⟨c, h⟩ => hn c b h
/-- a loop that runs to its end -/
theorem loop_all {f : α → D → B ε α} (I : Nat → α → Prop) : ∀ {xs : List D} {a : α} (n : Nat), I n a → (∀ (k : Nat) (h : k < xs.length) (a : α), I (n + k) a → Go (f a xs[k]) (I (n + k + 1))) → Nx (loopB f xs a) (I (n + xs.length))
  | [], a, n, h, _ => h
  | x :: xs, a, n, h, hs => by
    have h1 := hs 0 (by simp) a h
    have h2 : ∀ b, I (n + 1) b → Nx (loopB f xs b) (I (n + (x :: xs).length)) := fun b h => by
      have := loop_all (f := f) I (xs := xs) (n + 1) h fun k hk a ha => by
        have := hs (k + 1) (by simpa using hk) a (by rwa [show n + (k + 1) = n + 1 + k by omega])
        rw [show n + (k + 1) + 1 = n + 1 + k + 1 by omega] at this
        simpa using this
      rwa [show n + 1 + xs.length = n + (x :: xs).length by rw [List.length_cons]; omega] at this
    simp only [List.getElem_cons_zero] at h1
    unfold loopB
    cases e : f a x <;> rw [e] at h1 <;> first | exact h1.elim | exact h2 _ h1
/-- .. whose state keeps a property -/
theorem loop_inv {f : α → D → B ε α} (I : α → Prop) {xs : List D} {a : α} (h : I a) (hs : ∀ x ∈ xs, ∀ a, I a → Go (f a x) I) : Nx (loopB f xs a) I := loop_all (fun _ => I) 0 h fun k hk a ha => hs _ (List.getElem_mem hk) a ha
/-- .. that is a fold -/
theorem loop_fold {f : α → D → B ε α} (g : α → D → α) : ∀ {xs : List D} {a : α}, (∀ x ∈ xs, ∀ a, f a x = .nx (g a x)) → loopB f xs a = .nx (xs.foldl g a)
  | [], a, _ => rfl
  | x :: xs, a, h => by
    unfold loopB
    rw [h x (by simp)]
    exact loop_fold g fun y hy a => h y (by simp [hy]) a
/-- a loop that ends at the first bad item -/
theorem loop_find {f : α → D → B ε α} {S : Nat → α} {bad : Nat → Bool} {o : Nat → B ε α} (term : ∀ k go, stepB (o k) go = o k) : ∀ {xs : List D} (n : Nat), (∀ k (h : k < xs.length), (∀ j, n ≤ j → j < n + k → bad j = false) → f (S (n + k)) xs[k] = if bad (n + k) then o (n + k) else .nx (S (n + k + 1))) →
    loopB f xs (S n) = match ((List.range xs.length).map (n + ·)).find? bad with | some k => o k | none => .nx (S (n + xs.length))
  | [], n, _ => rfl
  | x :: xs, n, h => by
    have h0 := h 0 (by simp) fun j h1 h2 => by omega
    simp only [List.getElem_cons_zero, Nat.add_zero] at h0
    have e : (List.range (x :: xs).length).map (n + ·) = n :: (List.range xs.length).map (n + 1 + ·) := by
      rw [List.length_cons, List.range_succ_eq_map, List.map_cons, List.map_map]
      congr 1
      exact List.map_congr_left fun a _ => by simp; omega
    rw [e, List.find?_cons]
    unfold loopB
    rw [h0]
    cases hb : bad n with
    | true => simp only [if_true]; exact term n _
    | false =>
      simp only [Bool.false_eq_true, if_false]
      show loopB f xs (S (n + 1)) = _
      rw [loop_find term (n + 1) fun k hk hj => by
        have := h (k + 1) (by simpa using hk) fun j h1 h2 => by
          by_cases c : j = n
          · rw [c]; exact hb
          · exact hj j (by omega) (by omega)
        rw [show n + (k + 1) = n + 1 + k by omega] at this
        simpa using this]
      rw [show n + 1 + xs.length = n + (x :: xs).length by rw [List.length_cons]; omega]
theorem find_eq {f : α → D → B ε α} (S : Nat → α) (bad : Nat → Bool) (o : Nat → B ε α) (term : ∀ k go, stepB (o k) go = o k) {xs : List D} {nx bk ct : α → β} {rt : D → ε → β} {er : Str → Flds → ε → β} {b y : β} (hs : ∀ k (h : k < xs.length), (∀ j, j < k → bad j = false) → f (S k) xs[k] = if bad k then o k else .nx (S (k + 1)))
    (hy : outB (match (List.range xs.length).find? bad with | some k => o k | none => .nx (S xs.length)) nx bk ct rt er b = y) : outB (loopB f xs (S 0)) nx bk ct rt er b = y := by
  rw [loop_find term 0 fun k hk hj => by
    have := hs k hk fun j h => hj j (by omega) (by omega)
    simpa using this]
  rw [← hy]
  have e : (List.range xs.length).map (0 + ·) = List.range xs.length := by
    rw [List.map_congr_left (g := id) fun a _ => by simp]; simp
  rw [e, Nat.zero_add]
/-- a comprehension that changes a state -/
theorem lc_all {f : D → α → R α (Option D)} (I : α → Prop) (Q : D → Prop) : ∀ {xs : List D} {a : α}, I a → (∀ x ∈ xs, ∀ a, I a → Ok (f x a) fun o b => ∃ d, o = some d ∧ Q d ∧ I b) → Ok (lcS f xs a) fun ys b => ys.length = xs.length ∧ (∀ y ∈ ys, Q y) ∧ I b
  | [], a, h, _ => ⟨rfl, by simp, h⟩
  | x :: xs, a, h, hs => by
    obtain ⟨o, b, e, d, rfl, q, h1⟩ := (hs x (by simp) a h).ex
    obtain ⟨ys, c, e2, l, q2, h2⟩ := (lc_all I Q (xs := xs) h1 fun y hy a ha => hs y (by simp [hy]) a ha).ex
    unfold lcS; rw [e]; dsimp only; rw [e2]
    refine ⟨by simp [l], fun y hy => ?_, h2⟩
    rcases List.mem_cons.mp hy with rfl | hy
    · exact q
    · exact q2 y hy
theorem mapR_ok {f : D → P D} {g : D → D} : ∀ {xs : List D}, (∀ x ∈ xs, f x = .ok (g x) ()) → mapR f xs = .ok (xs.map g) ()
  | [], _ => rfl
  | x :: xs, h => by
    have := mapR_ok (xs := xs) fun y hy => h y (by simp [hy])
    simp only [mapR, h x (by simp), this, List.map_cons, bind_o]
theorem lcR_ok {f : D → P (Option D)} {g : D → Option D} : ∀ {xs : List D}, (∀ x ∈ xs, f x = .ok (g x) ()) → lcR f xs = .ok (xs.filterMap g) ()
  | [], _ => rfl
  | x :: xs, h => by
    have := lcR_ok (xs := xs) fun y hy => h y (by simp [hy])
    simp only [lcR, h x (by simp), this, List.filterMap_cons, bind_o]
    cases g x <;> rfl
theorem chkR_ok {xs : List D} (h : xs.length ≤ 16777216) : chkR (.ok xs ()) = .ok xs () := by
  unfold chkR; dsimp only
  first | (rw [e_size h]; rfl) | (rw [if_pos (e_size h)])
theorem mem_range {lo : Int} {n : Nat} {x : D} (h : x ∈ rangeD lo n) : ∃ k : Nat, k < n ∧ x = .int (lo + k) := by
  unfold rangeD at h
  obtain ⟨k, h1, h2⟩ := List.mem_map.mp h
  exact ⟨k, by simpa using h1, h2.symm⟩
theorem range_len {lo : Int} {n : Nat} : (rangeD lo n).length = n := by simp [rangeD]
theorem range_get {lo : Int} {n k : Nat} (h : k < (rangeD lo n).length) : (rangeD lo n)[k] = .int (lo + k) := by simp [rangeD]
end
end KM
namespace KD
open PySem PySem.Spec PyProof.Rows L2
/-! ### constants that are tuples: a decided look -/
/-- a word of the module, as data -/
def valOk : Value → D → Bool
  | .none, .non => true
  | .bool b, .bl c => b == c
  | .int i _, .int j => decide (i = j)
  | .str x _, .str y => decide (x = y)
  | _, _ => false
def valsOk : List Value → List D → Bool
  | [], [] => true
  | u :: us, d :: ds => valOk u d && valsOk us ds
  | _, _ => false
def isTupT : Value → Bool
  | .type n => n == "tuple"
  | _ => false
def tupOk (o : Obj) (ds : List D) : Bool :=
  match o.data with
  | .seq its _ => isTupT o.cls && (decide (its.size ≤ sizeLine) && valsOk its.toList ds)
  | _ => false
theorem valOk_rep : ∀ {u : Value} {d : D}, valOk u d = true → ∃ v, RelV v u ∧ ∀ K G, Rep K G v d := by
  intro u d h
  cases u <;> cases d <;> simp [valOk] at h
  · exact ⟨.non, rfl, fun _ _ => .non⟩
  · subst h; exact ⟨.bl _, rfl, fun _ _ => .bl _⟩
  · subst h; exact ⟨.int _, ⟨_, rfl⟩, fun _ _ => .int _⟩
  · subst h; exact ⟨.str _, ⟨_, rfl⟩, fun _ _ => .str _⟩
theorem valsOk_rep : ∀ {us : List Value} {ds : List D}, valsOk us ds = true → ∃ vs, Vals vs us ∧ ∀ K G, RepL K G vs ds
  | [], [], _ => ⟨[], .nil, fun _ _ => .nil⟩
  | [], _ :: _, h => by simp [valsOk] at h
  | _ :: _, [], h => by simp [valsOk] at h
  | u :: us, d :: ds, h => by
    simp only [valsOk, Bool.and_eq_true] at h
    obtain ⟨v, h1, h2⟩ := valOk_rep h.1
    obtain ⟨vs, h3, h4⟩ := valsOk_rep h.2
    exact ⟨v :: vs, .cons h1 h3, fun K G => .cons (h2 K G) (h4 K G)⟩
theorem tup_mk {K : PySem.W.Frag} {mg : Str → Option Value} {x : Str} {p : Addr} {o : Obj} {ds : List D} (h : mg x = some (.ref p)) (l : K.lookup p = some o) (c : tupOk o ds = true) : TupC K mg x ds := by
  obtain ⟨cls, dict, data, slots⟩ := o
  cases data <;> simp only [tupOk, Bool.false_eq_true] at c
  rename_i its n
  simp only [Bool.and_eq_true, decide_eq_true_eq] at c
  obtain ⟨vs, h3, h4⟩ := valsOk_rep c.2.2
  have hc : cls = .type "tuple" := by
    have := c.1
    cases cls <;> simp [isTupT] at this
    exact congrArg Value.type this
  exact ⟨p, _, its, n, vs, h, l, hc, rfl, c.2.1, h3, fun G => h4 K G⟩
end KD

set_option Elab.async false
set_option linter.all false
set_option maxRecDepth 100000
set_option maxHeartbeats 4000000
namespace Lw
open PySem PySem.Spec PyProof.Rows L2 KD KM
def topS (i : Nat) : Stmt := PySem.Challenge.pw_sparehouses_k48_polynomials.main.body.getD i (.Pass ⟨0, 0, 0, 0⟩)
abbrev T_errs : List Str := ["BadOctet", "BadPoints"]
abbrev U_errs : List Str := ["HouseError", "BadPoints", "BadOctet"]
def m_is_integer (v_thing : D) : P D :=
  (got (bind (bind (opt (isiD v_thing (D.ty "int"))) fun t5 => (if t5 then (bind (opt (isiD v_thing (D.ty "bool"))) fun t4 => (.ok (!t4) ())) else .ok false ())) fun b6 => .ok (.bl b6) ()) (fun t7 _ => (.ok t7 ())) (fun c fs _ => (.er c fs ())) .bad)
def m_is_octet (v_thing : D) : P D :=
  (got (bind (bind (bind (m_is_integer v_thing) fun t12 => (opt (asB t12))) fun t14 => (if t14 then (bind (opt (leD (D.int 0) v_thing)) fun t13 => (if t13 then (opt (leD v_thing (D.int 255))) else .ok false ())) else .ok false ())) fun b15 => .ok (.bl b15) ()) (fun t16 _ => (.ok t16 ())) (fun c fs _ => (.er c fs ())) .bad)
def m_is_row (v_thing : D) : P D :=
  (got (bind (opt (isiD v_thing (D.tup [(D.ty "list"), (D.ty "tuple")]))) fun b18 => .ok (.bl b18) ()) (fun t19 _ => (.ok t19 ())) (fun c fs _ => (.er c fs ())) .bad)
def m_check_octet (v_value : D) : P D :=
  (got (bind (bind (m_is_octet v_value) fun t22 => (opt (truD t22))) fun t23 => (.ok (!t23) ())) (fun t24 _ => (if t24 then (.er "BadOctet" [("value", v_value)] ()) else (.ok D.non ()))) (fun c fs _ => (.er c fs ())) .bad)
def k_POWERS : List D := [.int 1, .int 3, .int 5, .int 15, .int 17, .int 51, .int 85, .int 255, .int 26, .int 46, .int 114, .int 150, .int 161, .int 248, .int 19, .int 53, .int 95, .int 225, .int 56, .int 72, .int 216, .int 115, .int 149, .int 164, .int 247, .int 2, .int 6, .int 10, .int 30, .int 34, .int 102, .int 170, .int 229, .int 52, .int 92, .int 228, .int 55, .int 89, .int 235, .int 38, .int 106, .int 190, .int 217, .int 112, .int 144, .int 171, .int 230, .int 49, .int 83, .int 245, .int 4, .int 12, .int 20, .int 60, .int 68, .int 204, .int 79, .int 209, .int 104, .int 184, .int 211, .int 110, .int 178, .int 205, .int 76, .int 212, .int 103, .int 169, .int 224, .int 59, .int 77, .int 215, .int 98, .int 166, .int 241, .int 8, .int 24, .int 40, .int 120, .int 136, .int 131, .int 158, .int 185, .int 208, .int 107, .int 189, .int 220, .int 127, .int 129, .int 152, .int 179, .int 206, .int 73, .int 219, .int 118, .int 154, .int 181, .int 196, .int 87, .int 249, .int 16, .int 48, .int 80, .int 240, .int 11, .int 29, .int 39, .int 105, .int 187, .int 214, .int 97, .int 163, .int 254, .int 25, .int 43, .int 125, .int 135, .int 146, .int 173, .int 236, .int 47, .int 113, .int 147, .int 174, .int 233, .int 32, .int 96, .int 160, .int 251, .int 22, .int 58, .int 78, .int 210, .int 109, .int 183, .int 194, .int 93, .int 231, .int 50, .int 86, .int 250, .int 21, .int 63, .int 65, .int 195, .int 94, .int 226, .int 61, .int 71, .int 201, .int 64, .int 192, .int 91, .int 237, .int 44, .int 116, .int 156, .int 191, .int 218, .int 117, .int 159, .int 186, .int 213, .int 100, .int 172, .int 239, .int 42, .int 126, .int 130, .int 157, .int 188, .int 223, .int 122, .int 142, .int 137, .int 128, .int 155, .int 182, .int 193, .int 88, .int 232, .int 35, .int 101, .int 175, .int 234, .int 37, .int 111, .int 177, .int 200, .int 67, .int 197, .int 84, .int 252, .int 31, .int 33, .int 99, .int 165, .int 244, .int 7, .int 9, .int 27, .int 45, .int 119, .int 153, .int 176, .int 203, .int 70, .int 202, .int 69, .int 207, .int 74, .int 222, .int 121, .int 139, .int 134, .int 145, .int 168, .int 227, .int 62, .int 66, .int 198, .int 81, .int 243, .int 14, .int 18, .int 54, .int 90, .int 238, .int 41, .int 123, .int 141, .int 140, .int 143, .int 138, .int 133, .int 148, .int 167, .int 242, .int 13, .int 23, .int 57, .int 75, .int 221, .int 124, .int 132, .int 151, .int 162, .int 253, .int 28, .int 36, .int 108, .int 180, .int 199, .int 82, .int 246]
def k_EXPONENTS : List D := [.int 0, .int 0, .int 25, .int 1, .int 50, .int 2, .int 26, .int 198, .int 75, .int 199, .int 27, .int 104, .int 51, .int 238, .int 223, .int 3, .int 100, .int 4, .int 224, .int 14, .int 52, .int 141, .int 129, .int 239, .int 76, .int 113, .int 8, .int 200, .int 248, .int 105, .int 28, .int 193, .int 125, .int 194, .int 29, .int 181, .int 249, .int 185, .int 39, .int 106, .int 77, .int 228, .int 166, .int 114, .int 154, .int 201, .int 9, .int 120, .int 101, .int 47, .int 138, .int 5, .int 33, .int 15, .int 225, .int 36, .int 18, .int 240, .int 130, .int 69, .int 53, .int 147, .int 218, .int 142, .int 150, .int 143, .int 219, .int 189, .int 54, .int 208, .int 206, .int 148, .int 19, .int 92, .int 210, .int 241, .int 64, .int 70, .int 131, .int 56, .int 102, .int 221, .int 253, .int 48, .int 191, .int 6, .int 139, .int 98, .int 179, .int 37, .int 226, .int 152, .int 34, .int 136, .int 145, .int 16, .int 126, .int 110, .int 72, .int 195, .int 163, .int 182, .int 30, .int 66, .int 58, .int 107, .int 40, .int 84, .int 250, .int 133, .int 61, .int 186, .int 43, .int 121, .int 10, .int 21, .int 155, .int 159, .int 94, .int 202, .int 78, .int 212, .int 172, .int 229, .int 243, .int 115, .int 167, .int 87, .int 175, .int 88, .int 168, .int 80, .int 244, .int 234, .int 214, .int 116, .int 79, .int 174, .int 233, .int 213, .int 231, .int 230, .int 173, .int 232, .int 44, .int 215, .int 117, .int 122, .int 235, .int 22, .int 11, .int 245, .int 89, .int 203, .int 95, .int 176, .int 156, .int 169, .int 81, .int 160, .int 127, .int 12, .int 246, .int 111, .int 23, .int 196, .int 73, .int 236, .int 216, .int 67, .int 31, .int 45, .int 164, .int 118, .int 123, .int 183, .int 204, .int 187, .int 62, .int 90, .int 251, .int 96, .int 177, .int 134, .int 59, .int 82, .int 161, .int 108, .int 170, .int 85, .int 41, .int 157, .int 151, .int 178, .int 135, .int 144, .int 97, .int 190, .int 220, .int 252, .int 188, .int 149, .int 207, .int 205, .int 55, .int 63, .int 91, .int 209, .int 83, .int 57, .int 132, .int 60, .int 65, .int 162, .int 109, .int 71, .int 20, .int 42, .int 158, .int 93, .int 86, .int 242, .int 211, .int 171, .int 68, .int 17, .int 146, .int 217, .int 35, .int 32, .int 46, .int 137, .int 180, .int 124, .int 184, .int 38, .int 119, .int 153, .int 227, .int 165, .int 103, .int 74, .int 237, .int 222, .int 197, .int 49, .int 254, .int 24, .int 13, .int 99, .int 140, .int 128, .int 192, .int 247, .int 112, .int 7]
def m_product (v_one : D) (v_other : D) : P D :=
  (got (bind (opt (eqC v_one (D.int 0))) fun t30 => (if t30 then .ok true () else (opt (eqC v_other (D.int 0))))) (fun t31 _ => (if t31 then (.ok (D.int 0) ()) else (got (bind (bind (bind (opt (ixD (D.tup k_EXPONENTS) v_one)) fun t32 => (bind (opt (ixD (D.tup k_EXPONENTS) v_other)) fun t33 => (opt (addD t32 t33)))) fun t34 => (opt (modD t34 (D.int 255)))) fun t35 => (opt (ixD (D.tup k_POWERS) t35))) (fun t36 _ => (.ok t36 ())) (fun c fs _ => (.er c fs ())) .bad))) (fun c fs _ => (.er c fs ())) .bad)
def m_quotient (v_one : D) (v_other : D) : P D :=
  (got (opt (eqC v_one (D.int 0))) (fun t41 _ => (if t41 then (.ok (D.int 0) ()) else (got (bind (bind (bind (opt (ixD (D.tup k_EXPONENTS) v_one)) fun t42 => (bind (opt (ixD (D.tup k_EXPONENTS) v_other)) fun t43 => (opt (subD t42 t43)))) fun t44 => (opt (modD t44 (D.int 255)))) fun t45 => (opt (ixD (D.tup k_POWERS) t45))) (fun t46 _ => (.ok t46 ())) (fun c fs _ => (.er c fs ())) .bad))) (fun c fs _ => (.er c fs ())) .bad)
def m_weights (v_places : D) (v_place : D) : P D :=
  (got (opt (iterD v_places)) (fun t72 _ => (outB (loopB (fun s49 x50 => (got (opt (iterD v_places)) (fun t64 _ => (outB (loopB (fun s51 x52 => (outB (got (opt (neC x52 x50)) (fun t53 _ => (if t53 then (got (bind (opt (xorD v_place x52)) fun t54 => (m_product s51.1 t54)) (fun t55 _ => (got (bind (opt (xorD x50 x52)) fun t56 => (m_product s51.2.1 t56)) (fun t57 _ => (.nx (t55, t57, ()))) (fun c fs _ => (.er c fs (()))) .bad)) (fun c fs _ => (.er c fs (()))) .bad) else (.nx (s51.1, s51.2.1, ())))) (fun c fs _ => (.er c fs (()))) .bad) (fun s58 => (.nx (s58.1, s58.2.1, ()))) (fun s59 => (.bk (s59.1, s59.2.1, ()))) (fun s60 => (.ct (s60.1, s60.2.1, ()))) (fun t63 s61 => (.rt t63 (()))) (fun c fs s62 => (.er c fs (()))) .bad)) t64 ((D.int 1), (D.int 1), ())) (fun s65 => (got (m_quotient s65.1 s65.2.1) (fun t71 _ => (KM.guard (sizeB (s49.1.length + 1)) (.nx ((s49.1 ++ [t71]), ())) .bad)) (fun c fs _ => (.er c fs (()))) .bad)) (fun s66 => (.bk (s49.1, ()))) (fun s67 => (.ct (s49.1, ()))) (fun t70 s68 => (.rt t70 (()))) (fun c fs s69 => (.er c fs (()))) .bad)) (fun c fs _ => (.er c fs (()))) .bad)) t72 ([], ())) (fun s73 => (.ok (D.lst s73.1) ())) (fun s74 => .bad) (fun s75 => .bad) (fun t78 s76 => (.ok t78 ())) (fun c fs s77 => (.er c fs ())) .bad)) (fun c fs _ => (.er c fs ())) .bad)
def m_weighed (v_factors : D) (v_values : D) : P D :=
  (got (opt (zipI v_factors v_values)) (fun t86 _ => (outB (loopB (fun s80 x81 => (un2 x81 (fun x82 x83 => (got (bind (m_product x82 x83) fun t84 => (opt (xorD s80.1 t84))) (fun t85 _ => (.nx (t85, ()))) (fun c fs _ => (.er c fs (()))) .bad)) .bad)) t86 ((D.int 0), ())) (fun s87 => (.ok s87.1 ())) (fun s88 => .bad) (fun s89 => .bad) (fun t92 s90 => (.ok t92 ())) (fun c fs s91 => (.er c fs ())) .bad)) (fun c fs _ => (.er c fs ())) .bad)
def m_is_point (v_thing : D) : P D :=
  (got (bind (bind (opt (isiD v_thing (D.ty "tuple"))) fun t109 => (if t109 then (bind (bind (opt (lenD v_thing)) fun t102 => (opt (eqC t102 (D.int 2)))) fun t108 => (if t108 then (bind (bind (bind (opt (ixD v_thing (D.int 0))) fun t103 => (m_is_octet t103)) fun t104 => (opt (asB t104))) fun t107 => (if t107 then (bind (bind (opt (ixD v_thing (D.int 1))) fun t105 => (m_is_octet t105)) fun t106 => (opt (asB t106))) else .ok false ())) else .ok false ())) else .ok false ())) fun b110 => .ok (.bl b110) ()) (fun t111 _ => (.ok t111 ())) (fun c fs _ => (.er c fs ())) .bad)
def m_check_points (v_points : D) : P D :=
  (got (bind (bind (bind (m_is_row v_points) fun t122 => (opt (truD t122))) fun t123 => (.ok (!t123) ())) fun t127 => (if t127 then .ok true () else (bind (bind (opt (lenD v_points)) fun t124 => (bind (opt (leD (D.int 1) t124)) fun t125 => (if t125 then (opt (leD t124 (D.int 12))) else .ok false ()))) fun t126 => (.ok (!t126) ())))) (fun t128 _ => (if t128 then (got (opt (negD (D.int 1))) (fun t129 _ => (.er "BadPoints" [("value", t129)] ())) (fun c fs _ => (.er c fs ())) .bad) else (got (opt (enumI v_points)) (fun t140 _ => (outB (loopB (fun s130 x131 => (un2 x131 (fun x132 x133 => (got (bind (bind (bind (m_is_point x133) fun t134 => (opt (truD t134))) fun t135 => (.ok (!t135) ())) fun t137 => (if t137 then .ok true () else (bind (opt (ixD x133 (D.int 0))) fun t136 => (opt (inC t136 (D.lst s130.1)))))) (fun t138 _ => (if t138 then (.er "BadPoints" [("value", x132)] (())) else (got (opt (ixD x133 (D.int 0))) (fun t139 _ => (KM.guard (sizeB (s130.1.length + 1)) (.nx ((s130.1 ++ [t139]), ())) .bad)) (fun c fs _ => (.er c fs (()))) .bad))) (fun c fs _ => (.er c fs (()))) .bad)) .bad)) t140 ([], ())) (fun s141 => (.ok D.non ())) (fun s142 => .bad) (fun s143 => .bad) (fun t146 s144 => (.ok t146 ())) (fun c fs s145 => (.er c fs ())) .bad)) (fun c fs _ => (.er c fs ())) .bad))) (fun c fs _ => (.er c fs ())) .bad)
def m_value_at (v_points : D) (v_place : D) : P D :=
  (got (m_check_points v_points) (fun t158 _ => (got (m_check_octet v_place) (fun t159 _ => (got (bind (bind (bind (bind (opt (iterD v_points)) fun t163 => (chkR (mapR (fun x160 => (un2 x160 (fun x161 x162 => (noer (.ok x161 ()))) .bad)) t163))) fun ys => .ok (.lst ys) ()) fun t164 => (m_weights t164 v_place)) fun t169 => (bind (bind (bind (opt (iterD v_points)) fun t168 => (chkR (mapR (fun x165 => (un2 x165 (fun x166 x167 => (noer (.ok x167 ()))) .bad)) t168))) fun ys => .ok (.lst ys) ()) fun t170 => (m_weighed t169 t170))) (fun t171 _ => (.ok t171 ())) (fun c fs _ => (.er c fs ())) .bad)) (fun c fs _ => (.er c fs ())) .bad)) (fun c fs _ => (.er c fs ())) .bad)
def m__law_taken (v_row : List D) (v_many : D) : R (List D × Unit) D :=
  (got (bind (opt (ixD (D.lst v_row) (D.int 3))) fun t197 => (opt (gtD t197 (D.int 0)))) (fun t198 _ => (if t198 then (got (bind (bind (opt (ixD (D.lst v_row) (D.int 3))) fun t199 => (opt (intD t199))) fun t200 => (opt (modD t200 v_many))) (fun t201 _ => (got (bind (opt (ixD (D.lst v_row) (D.int 3))) fun t202 => (opt (fdivD t202 v_many))) (fun t203 _ => (gotO (ixW v_row.length (D.int 3)) (fun i204 => (.ok t201 ((v_row.set i204 t203), ()))) .bad)) (fun c fs _ => (.er c fs (v_row, ()))) .bad)) (fun c fs _ => (.er c fs (v_row, ()))) .bad) else (got (bind (opt (ixD (D.lst v_row) (D.int 1))) fun t205 => (opt (addD t205 (D.int 1)))) (fun t206 _ => (gotO (ixW v_row.length (D.int 1)) (fun i207 => (got (bind (opt (ixD (D.lst (v_row.set i207 t206)) (D.int 1))) fun t209 => (bind (bind (opt (ixD (D.lst (v_row.set i207 t206)) (D.int 0))) fun t208 => (opt (lenD t208))) fun t210 => (opt (gtD t209 t210)))) (fun t211 _ => (if t211 then (got (bind (bind (bind (bind (opt (ixD (D.lst (v_row.set i207 t206)) (D.int 2))) fun t212 => (opt (mulD t212 (D.int 48271)))) fun t213 => (opt (addD t213 (D.int 11)))) fun t214 => (opt (intD t214))) fun t215 => (opt (modD t215 (D.int 2147483647)))) (fun t216 _ => (gotO (ixW (v_row.set i207 t206).length (D.int 2)) (fun i217 => (got (bind (bind (bind (opt (ixD (D.lst ((v_row.set i207 t206).set i217 t216)) (D.int 2))) fun t218 => (opt (fdivD t218 (D.int 7)))) fun t219 => (opt (intD t219))) fun t220 => (opt (modD t220 v_many))) (fun t221 _ => (.ok t221 (((v_row.set i207 t206).set i217 t216), ()))) (fun c fs _ => (.er c fs (((v_row.set i207 t206).set i217 t216), ()))) .bad)) .bad)) (fun c fs _ => (.er c fs ((v_row.set i207 t206), ()))) .bad) else (got (bind (opt (ixD (D.lst (v_row.set i207 t206)) (D.int 0))) fun t223 => (bind (bind (opt (ixD (D.lst (v_row.set i207 t206)) (D.int 1))) fun t222 => (opt (subD t222 (D.int 1)))) fun t224 => (opt (ixD t223 t224)))) (fun t225 _ => (got (bind (bind (bind (bind (bind (opt (ixD (D.lst (v_row.set i207 t206)) (D.int 2))) fun t226 => (opt (mulD t226 (D.int 48271)))) fun t227 => (opt (addD t227 t225))) fun t228 => (opt (addD t228 (D.int 11)))) fun t229 => (opt (intD t229))) fun t230 => (opt (modD t230 (D.int 2147483647)))) (fun t231 _ => (gotO (ixW (v_row.set i207 t206).length (D.int 2)) (fun i232 => (outB (got (bind (opt (powD (D.int 10) (D.int 18))) fun t233 => (opt (geD t225 t233))) (fun t234 _ => (if t234 then (got (opt (fdivD t225 v_many)) (fun t235 _ => (gotO (ixW ((v_row.set i207 t206).set i232 t231).length (D.int 3)) (fun i236 => (.nx ((((v_row.set i207 t206).set i232 t231).set i236 t235), ()))) .bad)) (fun c fs _ => (.er c fs (((v_row.set i207 t206).set i232 t231), ()))) .bad) else (.nx (((v_row.set i207 t206).set i232 t231), ())))) (fun c fs _ => (.er c fs (((v_row.set i207 t206).set i232 t231), ()))) .bad) (fun s237 => (got (bind (opt (intD t225)) fun t243 => (opt (modD t243 v_many))) (fun t244 _ => (.ok t244 (s237.1, ()))) (fun c fs _ => (.er c fs (s237.1, ()))) .bad)) (fun s238 => .bad) (fun s239 => .bad) (fun t242 s240 => (.ok t242 (s240.1, ()))) (fun c fs s241 => (.er c fs (s241.1, ()))) .bad)) .bad)) (fun c fs _ => (.er c fs ((v_row.set i207 t206), ()))) .bad)) (fun c fs _ => (.er c fs ((v_row.set i207 t206), ()))) .bad))) (fun c fs _ => (.er c fs ((v_row.set i207 t206), ()))) .bad)) .bad)) (fun c fs _ => (.er c fs (v_row, ()))) .bad))) (fun c fs _ => (.er c fs (v_row, ()))) .bad)
def pk__law_taken : List Pk := [.l, .v]
def i__law_taken (vs : List D) (c : Ct pk__law_taken) : R (Ct pk__law_taken) D := match vs with
  | [v_many] => m__law_taken c.1 v_many
  | _ => .bad
def m__law_pick (v_row : List D) (v_some : D) : R (List D × Unit) D :=
  (got (opt (lenD v_some)) (fun t245 _ => (got (m__law_taken v_row t245) (fun t247 s246 => (gotO (ixD v_some t247) (fun t249 => (.ok t249 (s246.1, ()))) .bad)) (fun c fs s248 => (.er c fs (s248.1, ()))) .bad)) (fun c fs _ => (.er c fs (v_row, ()))) .bad)
def pk__law_pick : List Pk := [.l, .v]
def i__law_pick (vs : List D) (c : Ct pk__law_pick) : R (Ct pk__law_pick) D := match vs with
  | [v_some] => m__law_pick c.1 v_some
  | _ => .bad
def m__law_alike (n : Nat) : D → D → P D := match n with
  | 0 => fun _ _ => .bad
  | n + 1 => fun v_found v_due => (got (opt (isiD v_due (D.tup [(D.ty "tuple"), (D.ty "list")]))) (fun t292 _ => (if t292 then (got (bind (bind (opt (isiD v_found (D.tup [(D.ty "tuple"), (D.ty "list")]))) fun t293 => (.ok (!t293) ())) fun t298 => (if t298 then .ok true () else (bind (bind (opt (isiD v_found (D.ty "list"))) fun b294 => .ok (.bl b294) ()) fun t296 => (bind (bind (opt (isiD v_due (D.ty "list"))) fun b295 => .ok (.bl b295) ()) fun t297 => (opt (neC t296 t297)))))) (fun t299 _ => (if t299 then (.ok (D.bl false) ()) else (got (bind (opt (lenD v_found)) fun t300 => (bind (opt (lenD v_due)) fun t301 => (opt (neC t300 t301)))) (fun t302 _ => (if t302 then (.ok (D.bl false) ()) else (got (bind (bind (bind (bind (bind (opt (lenD v_due)) fun t303 => (opt (rng1 t303))) fun t309 => (chkR (lcR (fun x304 => (bind (noer (bind (bind (bind (opt (ixD v_found x304)) fun t305 => (bind (opt (ixD v_due x304)) fun t306 => (m__law_alike n t305 t306))) fun t307 => (opt (truD t307))) fun t308 => (.ok (!t308) ()))) fun b => if b then (bind (noer (.ok x304 ())) fun d => .ok (some d) ()) else .ok none ())) t309))) fun ys => .ok (.lst ys) ()) fun t310 => (opt (eqC t310 (D.lst [])))) fun b311 => .ok (.bl b311) ()) (fun t312 _ => (.ok t312 ())) (fun c fs _ => (.er c fs ())) .bad))) (fun c fs _ => (.er c fs ())) .bad))) (fun c fs _ => (.er c fs ())) .bad) else (got (opt (isiD v_due (D.ty "dict"))) (fun t313 _ => (if t313 then (got (bind (bind (opt (isiD v_found (D.ty "dict"))) fun t314 => (.ok (!t314) ())) fun t317 => (if t317 then .ok true () else (bind (opt (listD v_found)) fun t315 => (bind (opt (listD v_due)) fun t316 => (opt (neC t315 t316)))))) (fun t318 _ => (if t318 then (.ok (D.bl false) ()) else (got (bind (bind (bind (bind (opt (iterD v_due)) fun t324 => (chkR (lcR (fun x319 => (bind (noer (bind (bind (bind (opt (ixD v_found x319)) fun t320 => (bind (opt (ixD v_due x319)) fun t321 => (m__law_alike n t320 t321))) fun t322 => (opt (truD t322))) fun t323 => (.ok (!t323) ()))) fun b => if b then (bind (noer (.ok x319 ())) fun d => .ok (some d) ()) else .ok none ())) t324))) fun ys => .ok (.lst ys) ()) fun t325 => (opt (eqC t325 (D.lst [])))) fun b326 => .ok (.bl b326) ()) (fun t327 _ => (.ok t327 ())) (fun c fs _ => (.er c fs ())) .bad))) (fun c fs _ => (.er c fs ())) .bad) else (got (if (isNon v_due) then .ok true () else (opt (isiD v_due (D.ty "str")))) (fun t328 _ => (if t328 then (got (bind (bind (opt (eqC v_found v_due)) fun t333 => (if t333 then (bind (bind (opt (isiD v_found (D.ty "str"))) fun b329 => .ok (.bl b329) ()) fun t331 => (bind (bind (opt (isiD v_due (D.ty "str"))) fun b330 => .ok (.bl b330) ()) fun t332 => (opt (eqC t331 t332)))) else .ok false ())) fun b334 => .ok (.bl b334) ()) (fun t335 _ => (.ok t335 ())) (fun c fs _ => (.er c fs ())) .bad) else (got (bind (bind (opt (isiD v_found (D.ty "int"))) fun t341 => (if t341 then (bind (bind (bind (opt (isiD v_found (D.ty "bool"))) fun b336 => .ok (.bl b336) ()) fun t338 => (bind (bind (opt (isiD v_due (D.ty "bool"))) fun b337 => .ok (.bl b337) ()) fun t339 => (opt (eqC t338 t339)))) fun t340 => (if t340 then (opt (eqC v_found v_due)) else .ok false ())) else .ok false ())) fun b342 => .ok (.bl b342) ()) (fun t343 _ => (.ok t343 ())) (fun c fs _ => (.er c fs ())) .bad))) (fun c fs _ => (.er c fs ())) .bad))) (fun c fs _ => (.er c fs ())) .bad))) (fun c fs _ => (.er c fs ())) .bad)
def m__law_any (v_row : List D) : R (List D × Unit) D :=
  (got (bind (opt (negD (D.int 1))) fun t351 => (bind (opt (powD (D.int 10) (D.int 12))) fun t352 => (bind (bind (opt (powD (D.int 10) (D.int 12))) fun t350 => (opt (addD t350 (D.int 1)))) fun t353 => (bind (opt (powD (D.int 10) (D.int 20))) fun t354 => (.ok (D.lst [t351, (D.int 0), (D.int 1), (D.int 2), (D.int 7), (D.int 255), (D.int 256), (D.int 65535), (D.int 65536), t352, t353, t354]) ()))))) (fun t355 _ => (got (m__law_pick v_row t355) (fun t357 s356 => (got (bind (opt (dispD [((D.str "a"), t357)])) fun t359 => (.ok (D.lst [D.non, (D.bl true), (D.bl false), t357, (D.str ""), (D.str "a"), (D.str "a b"), (D.tup []), (D.lst []), (D.dic []), (D.tup [t357]), (D.lst [t357, D.non]), t359, (D.tup [(D.int 0), (D.tup [(D.int 1)])])]) ())) (fun t360 _ => (got (m__law_pick s356.1 t360) (fun t362 s361 => (.ok t362 (s361.1, ()))) (fun c fs s363 => (.er c fs (s363.1, ()))) .bad)) (fun c fs _ => (.er c fs (s356.1, ()))) .bad)) (fun c fs s358 => (.er c fs (s358.1, ()))) .bad)) (fun c fs _ => (.er c fs (v_row, ()))) .bad)
def pk__law_any : List Pk := [.l]
def i__law_any (vs : List D) (c : Ct pk__law_any) : R (Ct pk__law_any) D := match vs with
  | [] => m__law_any c.1
  | _ => .bad
def m__law_slow (v_one : D) (v_other : D) : P D :=
  (got (opt (rng1 (D.int 8))) (fun t390 _ => (outB (loopB (fun s367 x368 => (outB (got (bind (bind (opt (intD s367.2.2.1)) fun t369 => (opt (modD t369 (D.int 2)))) fun t370 => (opt (eqC t370 (D.int 1)))) (fun t371 _ => (if t371 then (got (opt (xorD s367.1 s367.2.1)) (fun t372 _ => (.nx (t372, ()))) (fun c fs _ => (.er c fs (()))) .bad) else (.nx (s367.1, ())))) (fun c fs _ => (.er c fs (()))) .bad) (fun s373 => (got (opt (fdivD s367.2.2.1 (D.int 2))) (fun t379 _ => (got (opt (mulD s367.2.1 (D.int 2))) (fun t380 _ => (outB (got (opt (gtD t380 (D.int 255))) (fun t381 _ => (if t381 then (got (bind (opt (subD t380 (D.int 256))) fun t382 => (opt (xorD t382 (D.int 27)))) (fun t383 _ => (.nx (t383, ()))) (fun c fs _ => (.er c fs (()))) .bad) else (.nx (t380, ())))) (fun c fs _ => (.er c fs (()))) .bad) (fun s384 => (.nx (s373.1, s384.1, t379, ()))) (fun s385 => (.bk (s373.1, s385.1, t379, ()))) (fun s386 => (.ct (s373.1, s386.1, t379, ()))) (fun t389 s387 => (.rt t389 (()))) (fun c fs s388 => (.er c fs (()))) .bad)) (fun c fs _ => (.er c fs (()))) .bad)) (fun c fs _ => (.er c fs (()))) .bad)) (fun s374 => (.bk (s374.1, s367.2.1, s367.2.2.1, ()))) (fun s375 => (.ct (s375.1, s367.2.1, s367.2.2.1, ()))) (fun t378 s376 => (.rt t378 (()))) (fun c fs s377 => (.er c fs (()))) .bad)) t390 ((D.int 0), v_one, v_other, ())) (fun s391 => (.ok s391.1 ())) (fun s392 => .bad) (fun s393 => .bad) (fun t396 s394 => (.ok t396 ())) (fun c fs s395 => (.er c fs ())) .bad)) (fun c fs _ => (.er c fs ())) .bad)
def m__law_value (v_coefficients : D) (v_place : D) : P D :=
  (got (opt (iterD v_coefficients)) (fun t402 _ => (outB (loopB (fun s398 x399 => (got (bind (m__law_slow s398.1 v_place) fun t400 => (opt (xorD t400 x399))) (fun t401 _ => (.nx (t401, ()))) (fun c fs _ => (.er c fs (()))) .bad)) t402 ((D.int 0), ())) (fun s403 => (.ok s403.1 ())) (fun s404 => .bad) (fun s405 => .bad) (fun t408 s406 => (.ok t408 ())) (fun c fs s407 => (.er c fs ())) .bad)) (fun c fs _ => (.er c fs ())) .bad)
def m__law_told (v_points : D) (v_place : D) : P D :=
  (got (bind (m_value_at v_points v_place) fun t414 => (.ok (D.lst [t414]) ())) (fun t415 _ => (.ok t415 ())) (fun c fs _ => (KM.guard (List.contains T_errs c) (if subN c "HouseError" then (got (bind (bind (bind (KM.guard (isTy "list" (D.lst [(D.bl (subN c "BadPoints")), (D.bl (subN c "BadOctet"))])) (opt (countD (D.lst [(D.bl (subN c "BadPoints")), (D.bl (subN c "BadOctet"))]) (D.bl true))) .bad) fun t416 => (opt (eqC t416 (D.int 1)))) fun t417 => (if t417 then (KM.guard (isTy "list" (D.lst [(D.bl (subN c "BadPoints")), (D.bl (subN c "BadOctet"))])) (opt (indexD (D.lst [(D.bl (subN c "BadPoints")), (D.bl (subN c "BadOctet"))]) (D.bl true))) .bad) else (.ok (D.int 2) ()))) fun t418 => (bind (opt (List.lookup ("value" : Str) fs)) fun t419 => (.ok (D.tup [t418, t419]) ()))) (fun t420 _ => (.ok t420 ())) (fun c fs _ => .bad) .bad) else (.er c fs ())) .bad)) .bad)
def m__law_is_octet (v_thing : D) : P D :=
  (got (bind (bind (opt (isiD v_thing (D.ty "int"))) fun t429 => (if t429 then (bind (bind (opt (isiD v_thing (D.ty "bool"))) fun t426 => (.ok (!t426) ())) fun t428 => (if t428 then (bind (opt (leD (D.int 0) v_thing)) fun t427 => (if t427 then (opt (leD v_thing (D.int 255))) else .ok false ())) else .ok false ())) else .ok false ())) fun b430 => .ok (.bl b430) ()) (fun t431 _ => (.ok t431 ())) (fun c fs _ => (.er c fs ())) .bad)
def m__law_due (v_points : D) (v_place : D) : P D :=
  (got (bind (bind (opt (isiD v_points (D.tup [(D.ty "list"), (D.ty "tuple")]))) fun t462 => (.ok (!t462) ())) fun t466 => (if t466 then .ok true () else (bind (bind (opt (lenD v_points)) fun t463 => (bind (opt (leD (D.int 1) t463)) fun t464 => (if t464 then (opt (leD t463 (D.int 12))) else .ok false ()))) fun t465 => (.ok (!t465) ())))) (fun t467 _ => (if t467 then (got (bind (opt (negD (D.int 1))) fun t468 => (.ok (D.tup [(D.int 0), t468]) ())) (fun t469 _ => (.ok t469 ())) (fun c fs _ => (.er c fs ())) .bad) else (got (bind (opt (lenD v_points)) fun t470 => (opt (rng1 t470))) (fun t497 _ => (outB (loopB (fun s471 x472 => (got (bind (bind (bind (opt (ixD v_points x472)) fun t473 => (opt (isiD t473 (D.ty "tuple")))) fun t474 => (.ok (!t474) ())) fun t477 => (if t477 then .ok true () else (bind (bind (opt (ixD v_points x472)) fun t475 => (opt (lenD t475))) fun t476 => (opt (neC t476 (D.int 2)))))) (fun t478 _ => (if t478 then (.rt (D.tup [(D.int 0), x472]) (())) else (got (bind (bind (bind (bind (bind (opt (ixD v_points x472)) fun t479 => (opt (ixD t479 (D.int 0)))) fun t480 => (m__law_is_octet t480)) fun t481 => (opt (truD t481))) fun t482 => (.ok (!t482) ())) fun t487 => (if t487 then .ok true () else (bind (bind (bind (bind (opt (ixD v_points x472)) fun t483 => (opt (ixD t483 (D.int 1)))) fun t484 => (m__law_is_octet t484)) fun t485 => (opt (truD t485))) fun t486 => (.ok (!t486) ())))) (fun t488 _ => (if t488 then (.rt (D.tup [(D.int 0), x472]) (())) else (got (bind (bind (opt (ixD v_points x472)) fun t489 => (opt (ixD t489 (D.int 0)))) fun t494 => (bind (bind (bind (bind (bind (bind (opt (intOf x472)) fun i => .ok (some i) ()) fun t490 => (opt (slD v_points none t490))) fun t491 => (opt (iterD t491))) fun t493 => (chkR (mapR (fun x492 => (noer (opt (ixD x492 (D.int 0))))) t493))) fun ys => .ok (.lst ys) ()) fun t495 => (opt (inC t494 t495)))) (fun t496 _ => (if t496 then (.rt (D.tup [(D.int 0), x472]) (())) else (.nx (())))) (fun c fs _ => (.er c fs (()))) .bad))) (fun c fs _ => (.er c fs (()))) .bad))) (fun c fs _ => (.er c fs (()))) .bad)) t497 (())) (fun s498 => (got (bind (bind (m__law_is_octet v_place) fun t504 => (opt (truD t504))) fun t505 => (if t505 then (.ok D.non ()) else (.ok (D.tup [(D.int 1), v_place]) ()))) (fun t506 _ => (.ok t506 ())) (fun c fs _ => (.er c fs ())) .bad)) (fun s499 => .bad) (fun s500 => .bad) (fun t503 s501 => (.ok t503 ())) (fun c fs s502 => (.er c fs ())) .bad)) (fun c fs _ => (.er c fs ())) .bad))) (fun c fs _ => (.er c fs ())) .bad)
def m_law (v_script : D) : P D :=
  (got (opt (rng1 (D.int 4))) (fun t733 _ => (outB (loopB (fun s536 x537 => (got (got (m__law_taken s536.1 (D.int 4)) (fun t539 s538 => (gotO (gtD t539 (D.int 0)) (fun t541 => (if t541 then (got (m__law_taken s538.1 (D.int 5)) (fun t543 s542 => (gotO (addD (D.int 1) t543) (fun t545 => (.ok t545 (s542.1, ()))) .bad)) (fun c fs s544 => (.er c fs (s544.1, ()))) .bad) else (got (m__law_taken s538.1 (D.int 12)) (fun t547 s546 => (gotO (addD (D.int 1) t547) (fun t549 => (.ok t549 (s546.1, ()))) .bad)) (fun c fs s548 => (.er c fs (s548.1, ()))) .bad))) .bad)) (fun c fs s540 => (.er c fs (s540.1, ()))) .bad) (fun t550 s551 => (got (got (m__law_taken s551.1 (D.int 3)) (fun t554 s553 => (gotO (gtD t554 (D.int 0)) (fun t556 => (if t556 then (.ok t550 (s553.1, ())) else (got (m__law_taken s553.1 t550) (fun t558 s557 => (gotO (addD (D.int 1) t558) (fun t560 => (.ok t560 (s557.1, ()))) .bad)) (fun c fs s559 => (.er c fs (s559.1, ()))) .bad))) .bad)) (fun c fs s555 => (.er c fs (s555.1, ()))) .bad) (fun t561 s562 => (got (opt (rng1 t561)) (fun t564 _ => (got (lcS (fun x565 s566 => (if true then (got (m__law_taken s566.1 (D.int 256)) (fun t568 s567 => (.ok (some t568) (s567.1, ()))) (fun c fs s569 => .bad) .bad) else .ok none (s566.1, ()))) t564 (s562.1, ())) (fun ys570 s571 => KM.guard (sizeB ys570.length) (outB (got (m__law_taken s571.1 (D.int 5)) (fun t573 s572 => (gotO (eqC t573 (D.int 0)) (fun t575 => (if t575 then (got (bind (bind (bind (opt (subD t561 (D.int 1))) fun t576 => (opt (rng1 t576))) fun t578 => (chkR (mapR (fun x577 => (noer (.ok (D.int 0) ()))) t578))) fun ys => .ok (.lst ys) ()) (fun t579 _ => (got (m__law_taken s572.1 (D.int 2)) (fun t581 s580 => (got (opt (ixD (D.lst ys570) (D.int 0))) (fun t583 _ => (gotO (mulD t581 t583) (fun t584 => (gotO (addD t579 (D.lst [t584])) (fun t585 => (.nx (s580.1, t585, ()))) .bad)) .bad)) (fun c fs _ => (.er c fs (()))) .bad)) (fun c fs s582 => (.er c fs (()))) .bad)) (fun c fs _ => (.er c fs (()))) .bad) else (.nx (s572.1, (D.lst ys570), ())))) .bad)) (fun c fs s574 => (.er c fs (()))) .bad) (fun s586 => (got (opt (rng1 t550)) (fun t612 _ => (outB (loopB (fun s592 x593 => (got (opt (subD (D.int 255) x593)) (fun t594 _ => (got (m__law_taken s592.1 (D.int 256)) (fun t596 s595 => (got (m__law_pick s595.1 (D.lst [x593, t594, t596])) (fun t599 s598 => (outB (got (opt (inC t599 (D.lst s592.2.1))) (fun t601 _ => (if t601 then (got (bind (bind (bind (opt (rng1 (D.int 13))) fun t603 => (chkR (lcR (fun x602 => (bind (noer (opt (notInC x602 (D.lst s592.2.1)))) fun b => if b then (bind (noer (.ok x602 ())) fun d => .ok (some d) ()) else .ok none ())) t603))) fun ys => .ok (.lst ys) ()) fun t604 => (opt (ixD t604 (D.int 0)))) (fun t605 _ => (.nx (t605, ()))) (fun c fs _ => (.er c fs (()))) .bad) else (.nx (t599, ())))) (fun c fs _ => (.er c fs (()))) .bad) (fun s606 => (KM.guard (sizeB (s592.2.1.length + 1)) (.nx (s598.1, (s592.2.1 ++ [s606.1]), ())) .bad)) (fun s607 => (.bk (s598.1, s592.2.1, ()))) (fun s608 => (.ct (s598.1, s592.2.1, ()))) (fun t611 s609 => (.rt t611 (()))) (fun c fs s610 => (.er c fs (()))) .bad)) (fun c fs s600 => (.er c fs (()))) .bad)) (fun c fs s597 => (.er c fs (()))) .bad)) (fun c fs _ => (.er c fs (()))) .bad)) t612 (s586.1, [], ())) (fun s613 => (got (bind (bind (opt (iterD (D.lst s613.2.1))) fun t621 => (chkR (mapR (fun x619 => (noer (bind (m__law_value s586.2.1 x619) fun t620 => (.ok (D.tup [x619, t620]) ())))) t621))) fun ys => .ok (.lst ys) ()) (fun t622 _ => (got (got (m__law_taken s613.1 (D.int 2)) (fun t624 s623 => (gotO (eqC t624 (D.int 0)) (fun t626 => (if t626 then (got (opt (tupleD t622)) (fun t627 _ => (.ok t627 (s623.1, ()))) (fun c fs _ => (.er c fs (s623.1, ()))) .bad) else (got (opt (listD t622)) (fun t628 _ => (.ok t628 (s623.1, ()))) (fun c fs _ => (.er c fs (s623.1, ()))) .bad))) .bad)) (fun c fs s625 => (.er c fs (s625.1, ()))) .bad) (fun t629 s630 => (got (opt (ixD (D.lst s613.2.1) (D.int 0))) (fun t642 _ => (got (m__law_taken s630.1 (D.int 256)) (fun t644 s643 => (got (m__law_pick s643.1 (D.lst [(D.int 0), (D.int 1), (D.int 255), t644])) (fun t647 s646 => (gotO (iterD (D.lst [t642, t647])) (fun t649 => (outB (loopB (fun s632 x633 => (got (bind (bind (bind (bind (m__law_told t629 x633) fun t635 => (bind (bind (m__law_value s586.2.1 x633) fun t634 => (.ok (D.lst [t634]) ())) fun t636 => (m__law_alike 12 t635 t636))) fun t637 => (opt (truD t637))) fun t638 => (.ok (!t638) ())) fun t640 => (if t640 then .ok true () else (bind (opt (listD t629)) fun t639 => (opt (neC t639 t622))))) (fun t641 _ => (if t641 then (.rt (D.bl false) (())) else (.nx (s632.1, ())))) (fun c fs _ => (.er c fs (()))) .bad)) t649 (s646.1, ())) (fun s650 => (got (m__law_taken s650.1 (D.int 7)) (fun t657 s656 => (got (m__law_taken s656.1 t550) (fun t660 s659 => (got (opt (seqD t622)) (fun t662 _ => (outB (got (opt (eqC t657 (D.int 0))) (fun t663 _ => (if t663 then (got (m__law_any s659.1) (fun t665 s664 => (got (bind (opt (negD (D.int 1))) fun t667 => (.ok (D.tup [(D.int 0), t667]) ())) (fun t668 _ => (got (bind (bind (opt (ixD t622 t660)) fun t669 => (opt (ixD t669 (D.int 0)))) fun t670 => (.ok (D.lst [t670, (D.int 1)]) ())) (fun t671 _ => (got (bind (opt (ixD t622 t660)) fun t672 => (opt (addD t672 (D.tup [(D.int 0)])))) (fun t673 _ => (got (m__law_pick s664.1 (D.lst [t665, (D.tup [(D.int 256), (D.int 0)]), t668, (D.tup [(D.bl true), (D.int 0)]), t671, t673])) (fun t675 s674 => (gotO (ixW t662.length t660) (fun i677 => (.nx (s674.1, (D.lst (t662.set i677 t675)), ()))) .bad)) (fun c fs s676 => (.er c fs (()))) .bad)) (fun c fs _ => (.er c fs (()))) .bad)) (fun c fs _ => (.er c fs (()))) .bad)) (fun c fs _ => (.er c fs (()))) .bad)) (fun c fs s666 => (.er c fs (()))) .bad) else (outB (got (opt (eqC t657 (D.int 1))) (fun t678 _ => (if t678 then (got (m__law_taken s659.1 t550) (fun t680 s679 => (gotO (ixD t622 t680) (fun t682 => (gotO (insG t662 [t660, t682]) (fun r683 => (.nx (s679.1, (D.lst r683.2), ()))) .bad)) .bad)) (fun c fs s681 => (.er c fs (()))) .bad) else (outB (got (opt (eqC t657 (D.int 2))) (fun t684 _ => (if t684 then (got (bind (bind (opt (mulD (D.lst [(D.tup [(D.int 13), (D.int 1)])]) (D.int 12))) fun t685 => (opt (addD (D.lst t662) t685))) fun t686 => (.ok (D.lst [D.non, (D.dic []), (D.str ""), (D.int 3), t686, (D.lst [])]) ())) (fun t687 _ => (got (m__law_pick s659.1 t687) (fun t689 s688 => (.nx (s688.1, t689, ()))) (fun c fs s690 => (.er c fs (()))) .bad)) (fun c fs _ => (.er c fs (()))) .bad) else (.nx (s659.1, (D.lst t662), ())))) (fun c fs _ => (.er c fs (()))) .bad) (fun s691 => (.nx (s691.1, s691.2.1, ()))) (fun s692 => (.bk (s692.1, s692.2.1, ()))) (fun s693 => (.ct (s693.1, s693.2.1, ()))) (fun t696 s694 => (.rt t696 (()))) (fun c fs s695 => (.er c fs (()))) .bad))) (fun c fs _ => (.er c fs (()))) .bad) (fun s697 => (.nx (s697.1, s697.2.1, ()))) (fun s698 => (.bk (s698.1, s698.2.1, ()))) (fun s699 => (.ct (s699.1, s699.2.1, ()))) (fun t702 s700 => (.rt t702 (()))) (fun c fs s701 => (.er c fs (()))) .bad))) (fun c fs _ => (.er c fs (()))) .bad) (fun s703 => (got (got (m__law_taken s703.1 (D.int 2)) (fun t710 s709 => (gotO (eqC t710 (D.int 0)) (fun t712 => (if t712 then (got (m__law_any s709.1) (fun t714 s713 => (.ok t714 (s713.1, ()))) (fun c fs s715 => (.er c fs (s715.1, ()))) .bad) else (got (m__law_taken s709.1 (D.int 256)) (fun t717 s716 => (.ok t717 (s716.1, ()))) (fun c fs s718 => (.er c fs (s718.1, ()))) .bad))) .bad)) (fun c fs s711 => (.er c fs (s711.1, ()))) .bad) (fun t719 s720 => (got (m__law_due s703.2.1 t719) (fun t722 _ => (got (m__law_told s703.2.1 t719) (fun t723 _ => (got (if (!isNon t722) then (bind (bind (m__law_alike 12 t723 t722) fun t724 => (opt (truD t724))) fun t725 => (.ok (!t725) ())) else .ok false ()) (fun t726 _ => (if t726 then (.rt (D.bl false) (())) else (got (if (isNon t722) then (bind (bind (bind (bind (bind (m__law_value s586.2.1 t719) fun t727 => (.ok (D.lst [t727]) ())) fun t728 => (m__law_alike 12 t723 t728)) fun t729 => (opt (truD t729))) fun t730 => (.ok (!t730) ())) fun t731 => (if t731 then (opt (gtD t657 (D.int 2))) else .ok false ())) else .ok false ()) (fun t732 _ => (if t732 then (.rt (D.bl false) (())) else (.nx (s720.1, ())))) (fun c fs _ => (.er c fs (()))) .bad))) (fun c fs _ => (.er c fs (()))) .bad)) (fun c fs _ => (.er c fs (()))) .bad)) (fun c fs _ => (.er c fs (()))) .bad)) (fun c fs s721 => (.er c fs (()))) .bad)) (fun s704 => (.bk (s704.1, ()))) (fun s705 => (.ct (s705.1, ()))) (fun t708 s706 => (.rt t708 (()))) (fun c fs s707 => (.er c fs (()))) .bad)) (fun c fs _ => (.er c fs (()))) .bad)) (fun c fs s661 => (.er c fs (()))) .bad)) (fun c fs s658 => (.er c fs (()))) .bad)) (fun s651 => (.bk (s651.1, ()))) (fun s652 => (.ct (s652.1, ()))) (fun t655 s653 => (.rt t655 (()))) (fun c fs s654 => (.er c fs (()))) .bad)) .bad)) (fun c fs s648 => (.er c fs (()))) .bad)) (fun c fs s645 => (.er c fs (()))) .bad)) (fun c fs _ => (.er c fs (()))) .bad)) (fun c fs s631 => (.er c fs (()))) .bad)) (fun c fs _ => (.er c fs (()))) .bad)) (fun s614 => (.bk (s614.1, ()))) (fun s615 => (.ct (s615.1, ()))) (fun t618 s616 => (.rt t618 (()))) (fun c fs s617 => (.er c fs (()))) .bad)) (fun c fs _ => (.er c fs (()))) .bad)) (fun s587 => (.bk (s587.1, ()))) (fun s588 => (.ct (s588.1, ()))) (fun t591 s589 => (.rt t591 (()))) (fun c fs s590 => (.er c fs (()))) .bad) .bad) (fun _ _ _ => .bad) .bad)) (fun c fs _ => (.er c fs (()))) .bad)) (fun c fs s563 => (.er c fs (()))) .bad)) (fun c fs s552 => (.er c fs (()))) .bad)) t733 ([v_script, (D.int 0), (D.int 4801), (D.int 0)], ())) (fun s734 => (.ok (D.bl true) ())) (fun s735 => .bad) (fun s736 => .bad) (fun t739 s737 => (.ok t739 ())) (fun c fs s738 => (.er c fs ())) .bad)) (fun c fs _ => (.er c fs ())) .bad)
def intB : D → Bool
  | .int _ => true
  | _ => false
theorem is_integer_ok {d : D} (h : (tyN d).isSome = true) : m_is_integer d = .ok (.bl (intB d)) () := by
  cases d <;> first | (cases h; done) | rfl

def octB : D → Bool
  | .int i => decide (0 ≤ i ∧ i ≤ 255)
  | _ => false
theorem is_octet_ok {d : D} (h : (tyN d).isSome = true) : m_is_octet d = .ok (.bl (octB d)) () := by
  unfold m_is_octet
  rw [is_integer_ok h]
  cases d <;> first | (cases h; done) | rfl | skip
  rename_i i
  simp (config := { implicitDefEqProofs := false }) only [got_o, got_e, bind_o, bind_e, opt_s, gotO_s, guard_t, outB_nx, outB_bk, outB_ct, outB_rt, outB_er, un2_t, un2_l, un3_t, un3_l, un4_t, un4_l, noer_o, stepB_nx, stepB_ct, stepB_bk, stepB_rt, stepB_er, e_asB, intB, e_le, if_true]
  by_cases c : 0 ≤ i <;> by_cases c' : i ≤ 255 <;> simp [octB, c, c', got, KM.bind]
theorem oct_nat {d : D} (h : octB d = true) : ∃ n : Nat, d = .int (n : Nat) ∧ n < 256 := by
  cases d <;> first | (cases h; done) | skip
  rename_i i
  have := of_decide_eq_true h
  exact ⟨i.toNat, by congr 1; omega, by omega⟩
theorem nat_oct {n : Nat} (h : n < 256) : octB (.int (n : Nat)) = true := decide_eq_true (by omega)

def rowB : D → Bool
  | .lst _ => true
  | .tup _ => true
  | _ => false
theorem is_row_ok {d : D} (h : (tyN d).isSome = true) : m_is_row d = .ok (.bl (rowB d)) () := by
  cases d <;> first | (cases h; done) | rfl

theorem check_octet_ok {d : D} (h : (tyN d).isSome = true) : m_check_octet d = if octB d then .ok .non () else .er "BadOctet" [("value", d)] () := by
  unfold m_check_octet
  rw [is_octet_ok h]
  cases octB d <;> rfl
theorem check_octet_nat {n : Nat} (h : n < 256) : m_check_octet (.int (n : Nat)) = .ok .non () := by rw [check_octet_ok rfl, if_pos (nat_oct h)]

/-! ### the field -/
def pwN (i : Nat) : Nat := (121466575815500734415996836054882879791832871126464106601702187317037704638720699736399773789881350966450612456712855012027411276600174289287471020404625812305602624065235109912861702064162581238381248958448422203687095403783548669481020115429473714815130546491650907227391014769411226625179674495964331439187933946584331397333639979447433688574122779091165484305754955373075414835846686739481168846087332879005575464100018941681806164995707250399423063311368515928344698269234575261926727907427524598329539937222090466892085999338983806607642276495436692919915470849325341672618663070658392065151738926641076044545 >>> (8 * i)) % 256
def exN (i : Nat) : Nat := (939374623831894136699086600277250597547650664638770418422125146541797353646788332867483593573384618611044815625336497665827114626705134492515730415652478061620339993830966980270842846318821775850471098591710629241171812800746666233448222972174585295916389942636813666312872914849454985560152530477328703759683306625234997237483834721220409437442253146756845415190424543171129629468776480674528486868811725071010351012234056630775688111116293610821126543142160426617079940511630006820862697466582575257349116925728488930366609138264019883664906661504235885380294353134295748489096855100647154935187045898006656778240 >>> (8 * i)) % 256
def chkL (f : Nat → Nat) : List D → Nat → Bool
  | [], _ => true
  | .int i :: r, k => decide (i = (f k : Nat)) && chkL f r (k + 1)
  | _, _ => false
theorem chk_get {f : Nat → Nat} : ∀ {xs : List D} {k i : Nat}, chkL f xs k = true → i < xs.length → xs[i]? = some (.int (f (k + i) : Nat))
  | [], _, _, _, h => by simp at h
  | x :: r, k, i, e, h => by
    cases x <;> simp only [chkL, Bool.false_eq_true, Bool.and_eq_true, decide_eq_true_eq] at e
    cases i with
    | zero => simp [e.1]
    | succ i =>
      rw [List.getElem?_cons_succ, chk_get e.2 (by simpa using h), show k + 1 + i = k + (i + 1) by omega]
theorem atI_of {xs : List D} {i : Nat} {d : D} (h : xs[i]? = some d) : atI xs (i : Int) = some d := by
  obtain ⟨hl, e⟩ := List.getElem?_eq_some_iff.mp h
  rw [at_n rfl hl, e]
theorem pw_chk : chkL pwN k_POWERS 0 = true := by decide +kernel
theorem ex_chk : chkL exN k_EXPONENTS 0 = true := by decide +kernel
theorem pw_at {i : Nat} (h : i < 255) : atI k_POWERS (i : Int) = some (.int (pwN i : Nat)) := by
  have := chk_get (i := i) pw_chk (by have e : k_POWERS.length = 255 := by decide +kernel
                                      omega)
  rw [Nat.zero_add] at this; exact atI_of this
theorem ex_at {i : Nat} (h : i < 256) : atI k_EXPONENTS (i : Int) = some (.int (exN i : Nat)) := by
  have := chk_get (i := i) ex_chk (by have e : k_EXPONENTS.length = 256 := by decide +kernel
                                      omega)
  rw [Nat.zero_add] at this; exact atI_of this
def allN (n : Nat) (p : Nat → Bool) : Bool := Nat.rec true (fun k ih => p k && ih) n
theorem allN_of {n : Nat} {p : Nat → Bool} (h : allN n p = true) {i : Nat} (hi : i < n) : p i = true := by
  induction n with
  | zero => omega
  | succ n ih =>
    have h : (p n && allN n p) = true := h
    rw [Bool.and_eq_true] at h
    by_cases e : i = n
    · rw [e]; exact h.1
    · exact ih h.2 (by omega)
/-- the product -/
def gm (a b : Nat) : Nat := if a = 0 ∨ b = 0 then 0 else pwN ((exN a + exN b) % 255)
/-- the inverse -/
def gi (a : Nat) : Nat := pwN ((255 - exN a) % 255)
theorem ex_pw {i : Nat} (h : i < 255) : exN (pwN i) = i ∧ 0 < pwN i ∧ pwN i < 256 := by
  have := allN_of (n := 255) (p := fun i => decide (exN (pwN i) = i ∧ 0 < pwN i ∧ pwN i < 256)) (by decide +kernel) h
  exact of_decide_eq_true this
theorem pw_ex {a : Nat} (h0 : 0 < a) (h : a < 256) : pwN (exN a) = a ∧ exN a < 255 := by
  have := allN_of (n := 256) (p := fun a => decide (a = 0 ∨ (pwN (exN a) = a ∧ exN a < 255))) (by decide +kernel) h
  rcases of_decide_eq_true this with e | e
  · omega
  · exact e
theorem gm_lt (a b : Nat) : gm a b < 256 := by
  unfold gm; split
  · decide
  · exact Nat.mod_lt _ (by decide)
theorem gm_comm (a b : Nat) : gm a b = gm b a := by
  unfold gm; rw [Nat.add_comm (exN a)]; simp only [or_comm]
theorem gm_zero (a : Nat) : gm 0 a = 0 ∧ gm a 0 = 0 := by constructor <;> simp [gm]
theorem gm_pos {a b : Nat} (ha : 0 < a) (hb : 0 < b) : 0 < gm a b ∧ exN (gm a b) = (exN a + exN b) % 255 := by
  have e : gm a b = pwN ((exN a + exN b) % 255) := by unfold gm; rw [if_neg (by omega)]
  have := ex_pw (i := (exN a + exN b) % 255) (Nat.mod_lt _ (by decide))
  rw [e]; exact ⟨this.2.1, this.1⟩
theorem gm_assoc (a b c : Nat) : gm (gm a b) c = gm a (gm b c) := by
  by_cases ha : a = 0
  · subst ha; simp [gm_zero]
  by_cases hb : b = 0
  · subst hb; simp [gm_zero]
  by_cases hc : c = 0
  · subst hc; simp [gm_zero]
  obtain ⟨h1, h2⟩ := gm_pos (a := a) (b := b) (by omega) (by omega)
  obtain ⟨h3, h4⟩ := gm_pos (a := b) (b := c) (by omega) (by omega)
  have e1 : gm (gm a b) c = pwN ((exN (gm a b) + exN c) % 255) := by rw [gm, if_neg (by omega)]
  have e2 : gm a (gm b c) = pwN ((exN a + exN (gm b c)) % 255) := by rw [gm, if_neg (by omega)]
  rw [e1, e2, h2, h4]
  congr 1; omega
theorem gi_ok {a : Nat} (h0 : 0 < a) (h : a < 256) : 0 < gi a ∧ gi a < 256 ∧ gm a (gi a) = 1 ∧ gi (gi a) = a := by
  obtain ⟨h1, h2⟩ := pw_ex h0 h
  obtain ⟨h3, h4, h5⟩ := ex_pw (i := (255 - exN a) % 255) (Nat.mod_lt _ (by decide))
  have e1 : exN (gi a) = (255 - exN a) % 255 := h3
  refine ⟨h4, h5, ?_, ?_⟩
  · rw [gm, if_neg (by have : 0 < gi a := h4; omega), e1]
    rw [show (exN a + (255 - exN a) % 255) % 255 = 0 by omega]
    decide +kernel
  · show pwN ((255 - exN (gi a)) % 255) = a
    rw [e1, show (255 - (255 - exN a) % 255) % 255 = exN a by omega, h1]
theorem xor_pp (a b : Nat) : Builtin.bitXor (a : Int) (b : Int) = ((a ^^^ b : Nat) : Int) := by
  rw [Bits.bitXor_pp (by omega) (by omega)]; simp
/-! ### the slow product is the product -/
def x2 (l : Nat) : Nat := (l <<< 1) ^^^ ((l >>> 7) * 283)
theorem bit_cases {a : Nat} (h : a < 256) : a >>> 7 = 0 ∨ a >>> 7 = 1 := by rw [Nat.shiftRight_eq_div_pow]; omega
theorem xor_lt {a b : Nat} (ha : a < 256) (hb : b < 256) : a ^^^ b < 256 := Nat.xor_lt_two_pow (n := 8) ha hb
theorem x2_xor {a b : Nat} (ha : a < 256) (hb : b < 256) : x2 (a ^^^ b) = x2 a ^^^ x2 b := by
  unfold x2
  rw [Nat.shiftLeft_xor_distrib, Nat.shiftRight_xor_distrib]
  have e : (a >>> 7 ^^^ b >>> 7) * 283 = (a >>> 7) * 283 ^^^ (b >>> 7) * 283 := by
    rcases bit_cases ha with h1 | h1 <;> rcases bit_cases hb with h2 | h2 <;> rw [h1, h2] <;> decide
  rw [e]
  ac_rfl
theorem x2_lt {a : Nat} (ha : a < 256) : x2 a < 256 := by
  have := allN_of (n := 256) (p := fun a => decide (x2 a < 256)) (by decide +kernel) ha
  exact of_decide_eq_true this
def slowR : Nat → Nat → Nat → Nat
  | 0, _, _ => 0
  | n + 1, a, b => (b % 2) * a ^^^ slowR n (x2 a) (b / 2)
theorem slowR_lt : ∀ (n a b : Nat), a < 256 → slowR n a b < 256
  | 0, _, _, _ => by simp [slowR]
  | n + 1, a, b, h => by
    refine xor_lt ?_ (slowR_lt n _ _ (x2_lt h))
    rcases Nat.mod_two_eq_zero_or_one b with e | e <;> rw [e] <;> omega
theorem slowR_xor : ∀ (n a b c : Nat), slowR n a (b ^^^ c) = slowR n a b ^^^ slowR n a c
  | 0, _, _, _ => by simp [slowR]
  | n + 1, a, b, c => by
    have e1 : (b ^^^ c) / 2 = b / 2 ^^^ c / 2 := by
      have := Nat.shiftRight_xor_distrib (a := b) (b := c) (i := 1)
      simpa [Nat.shiftRight_eq_div_pow] using this
    have e2 : (b ^^^ c) % 2 * a = (b % 2) * a ^^^ (c % 2) * a := by
      have := Nat.xor_mod_two_pow (a := b) (b := c) (n := 1)
      rw [show (2 : Nat) ^ 1 = 2 from rfl] at this
      rw [this]
      rcases Nat.mod_two_eq_zero_or_one b with h1 | h1 <;> rcases Nat.mod_two_eq_zero_or_one c with h2 | h2 <;> rw [h1, h2] <;> simp
    rw [slowR, slowR, slowR, e1, e2, slowR_xor n]
    ac_rfl
def m3 (y : Nat) : Nat := y ^^^ x2 y
theorem m3_xor {a b : Nat} (ha : a < 256) (hb : b < 256) : m3 (a ^^^ b) = m3 a ^^^ m3 b := by
  unfold m3; rw [x2_xor ha hb]; ac_rfl
theorem pow_xor : ∀ n < 8, ∀ c < 2 ^ n, 2 ^ n ^^^ c = 2 ^ n + c := by decide +kernel
/-- two functions that share the sum and the powers of two -/
theorem lin_eq (f g : Nat → Nat) (h0 : f 0 = g 0) (hf : ∀ a b, a < 256 → b < 256 → f (a ^^^ b) = f a ^^^ f b) (hg : ∀ a b, a < 256 → b < 256 → g (a ^^^ b) = g a ^^^ g b) (hp : ∀ k < 8, f (2 ^ k) = g (2 ^ k)) : ∀ n ≤ 8, ∀ b < 2 ^ n, f b = g b := by
  intro n
  induction n with
  | zero => intro _ b hb; rw [show b = 0 by omega]; exact h0
  | succ n ih =>
    intro hn b hb
    by_cases c : b < 2 ^ n
    · exact ih (by omega) b c
    · have hs : 2 ^ (n + 1) = 2 ^ n + 2 ^ n := by rw [Nat.pow_succ]; omega
      have hl : 2 ^ (n + 1) ≤ 2 ^ 8 := Nat.pow_le_pow_right (by decide) hn
      have e := pow_xor n (by omega) (b - 2 ^ n) (by omega)
      rw [show 2 ^ n + (b - 2 ^ n) = b by omega] at e
      rw [← e, hf _ _ (by omega) (by omega), hg _ _ (by omega) (by omega), hp n (by omega), ih (by omega) _ (by omega)]
theorem slow_m3 {a b : Nat} (ha : a < 256) (hb : b < 256) : slowR 8 a (m3 b) = m3 (slowR 8 a b) := by
  refine lin_eq (fun b => slowR 8 a (m3 b)) (fun b => m3 (slowR 8 a b)) ?_ (fun c d hc hd => ?_) (fun c d hc hd => ?_) (fun k hk => ?_) 8 (Nat.le_refl _) b hb
  · have := allN_of (n := 256) (p := fun a => decide (slowR 8 a (m3 0) = m3 (slowR 8 a 0))) (by decide +kernel) ha
    exact of_decide_eq_true this
  · show slowR 8 a (m3 (c ^^^ d)) = _
    rw [m3_xor hc hd, slowR_xor]
  · show m3 (slowR 8 a (c ^^^ d)) = _
    rw [slowR_xor, m3_xor (slowR_lt _ _ _ ha) (slowR_lt _ _ _ ha)]
  · have := allN_of (n := 256) (p := fun a => allN 8 fun k => decide (slowR 8 a (m3 (2 ^ k)) = m3 (slowR 8 a (2 ^ k)))) (by decide +kernel) ha
    exact of_decide_eq_true (allN_of this hk)
theorem pw_succ {j : Nat} (h : j < 255) : pwN ((j + 1) % 255) = m3 (pwN j) := by
  have := allN_of (n := 255) (p := fun j => decide (pwN ((j + 1) % 255) = m3 (pwN j))) (by decide +kernel) h
  exact of_decide_eq_true this
theorem slow_pw {a : Nat} (h0 : 0 < a) (ha : a < 256) : ∀ j < 255, slowR 8 a (pwN j) = pwN ((exN a + j) % 255) := by
  intro j
  induction j with
  | zero =>
    intro _
    have := allN_of (n := 256) (p := fun a => decide (slowR 8 a (pwN 0) = a)) (by decide +kernel) ha
    rw [of_decide_eq_true this, Nat.add_zero, Nat.mod_eq_of_lt (pw_ex h0 ha).2, (pw_ex h0 ha).1]
  | succ j ih =>
    intro hj
    have e := pw_succ (j := j) (by omega)
    rw [Nat.mod_eq_of_lt hj] at e
    rw [e, slow_m3 ha (ex_pw (i := j) (by omega)).2.2, ih (by omega), ← pw_succ (Nat.mod_lt _ (by decide))]
    congr 1; omega
theorem slow_gm {a b : Nat} (ha : a < 256) (hb : b < 256) : slowR 8 a b = gm a b := by
  by_cases h0 : a = 0
  · subst h0
    have := allN_of (n := 256) (p := fun b => decide (slowR 8 0 b = 0)) (by decide +kernel) hb
    rw [of_decide_eq_true this, (gm_zero b).1]
  by_cases h1 : b = 0
  · subst h1
    have := allN_of (n := 256) (p := fun a => decide (slowR 8 a 0 = 0)) (by decide +kernel) ha
    rw [of_decide_eq_true this, (gm_zero a).2]
  have h2 := pw_ex (a := b) (by omega) hb
  have := slow_pw (a := a) (by omega) ha (exN b) h2.2
  rw [h2.1] at this
  rw [this, gm, if_neg (by omega)]
theorem gm_xor {a b c : Nat} (ha : a < 256) (hb : b < 256) (hc : c < 256) : gm a (b ^^^ c) = gm a b ^^^ gm a c := by
  rw [← slow_gm ha (xor_lt hb hc), ← slow_gm ha hb, ← slow_gm ha hc, slowR_xor]
/-- a turn: what is found, what is left of one, of the other -/
def stepS (t : Nat × Nat × Nat) : Nat × Nat × Nat := (if t.2.2 % 2 = 1 then t.1 ^^^ t.2.1 else t.1, if 255 < t.2.1 * 2 then (t.2.1 * 2 - 256) ^^^ 27 else t.2.1 * 2, t.2.2 / 2)
def iterS : Nat → Nat × Nat × Nat → Nat × Nat × Nat
  | 0, t => t
  | n + 1, t => iterS n (stepS t)
theorem iterS_succ : ∀ (n : Nat) (t : Nat × Nat × Nat), iterS (n + 1) t = stepS (iterS n t)
  | 0, _ => rfl
  | n + 1, t => by rw [iterS, iterS_succ n, iterS]
theorem x2_if {l : Nat} (h : l < 256) : (if 255 < l * 2 then (l * 2 - 256) ^^^ 27 else l * 2) = x2 l := by
  have := allN_of (n := 256) (p := fun l => decide ((if 255 < l * 2 then (l * 2 - 256) ^^^ 27 else l * 2) = x2 l)) (by decide +kernel) h
  exact of_decide_eq_true this
theorem iterS_slow : ∀ (n f l m : Nat), l < 256 → (iterS n (f, l, m)).1 = f ^^^ slowR n l m
  | 0, f, l, m, _ => by simp [iterS, slowR]
  | n + 1, f, l, m, h => by
    rw [iterS, stepS]
    simp only
    rw [x2_if h, iterS_slow n _ _ _ (x2_lt h), slowR]
    rcases Nat.mod_two_eq_zero_or_one m with e | e <;> rw [e] <;> simp [Nat.xor_assoc]
theorem iterS_lt : ∀ (n f l m : Nat), l < 256 → (iterS n (f, l, m)).2.1 < 256
  | 0, f, l, m, h => h
  | n + 1, f, l, m, h => by
    rw [iterS, stepS]
    simp only
    rw [x2_if h]
    exact iterS_lt n _ _ _ (x2_lt h)

theorem ix_ex {a : Nat} (h : a < 256) : ixD (.tup k_EXPONENTS) (.int (a : Nat)) = some (.int (exN a : Nat)) := ex_at h
theorem ix_pw {n : Int} {a : Nat} (e : n = (a : Nat)) (h : a < 255) : ixD (.tup k_POWERS) (.int n) = some (.int (pwN a : Nat)) := by rw [e]; exact pw_at h
theorem product_ok {a b : Nat} (ha : a < 256) (hb : b < 256) : m_product (.int (a : Nat)) (.int (b : Nat)) = .ok (.int (gm a b : Nat)) () := by
  unfold m_product gm
  have e3 := ix_pw (n := ((exN a : Int) + (exN b : Int)) % 255) (a := (exN a + exN b) % 255) (by omega) (Nat.mod_lt _ (by decide))
  by_cases h0 : a = 0
  · subst h0; rfl
  · have h0' : ¬ (a : Int) = 0 := by omega
    by_cases h1 : b = 0
    · subst h1
      simp (config := { implicitDefEqProofs := false }) only [got_o, got_e, bind_o, bind_e, opt_s, gotO_s, guard_t, outB_nx, outB_bk, outB_ct, outB_rt, outB_er, un2_t, un2_l, un3_t, un3_l, un4_t, un4_l, noer_o, stepB_nx, stepB_ct, stepB_bk, stepB_rt, stepB_er, e_eqI, h0', decide_false, Bool.false_eq_true, if_false]
      simp
    · have h1' : ¬ (b : Int) = 0 := by omega
      rw [if_neg (by omega)]
      simp (config := { implicitDefEqProofs := false }) only [got_o, got_e, bind_o, bind_e, opt_s, gotO_s, guard_t, outB_nx, outB_bk, outB_ct, outB_rt, outB_er, un2_t, un2_l, un3_t, un3_l, un4_t, un4_l, noer_o, stepB_nx, stepB_ct, stepB_bk, stepB_rt, stepB_er, e_eqI, h0', h1', decide_false, Bool.false_eq_true, if_false, ix_ex ha, ix_ex hb, e_add, e_mod (show (0 : Int) < 255 by decide), e3]

theorem quotient_gen {a b : Nat} (ha : a < 256) (h0 : 0 < b) (hb : b < 256) : m_quotient (.int (a : Nat)) (.int (b : Nat)) = .ok (.int (gm a (gi b) : Nat)) () := by
  unfold m_quotient
  by_cases c : a = 0
  · subst c
    rw [(gm_zero _).1]; rfl
  · have c' : ¬ (a : Int) = 0 := by omega
    have h1 := (pw_ex h0 hb).2
    obtain ⟨g1, g2, _⟩ := gi_ok h0 hb
    have e0 : exN (gi b) = (255 - exN b) % 255 := (ex_pw (i := (255 - exN b) % 255) (Nat.mod_lt _ (by decide))).1
    have e3 := ix_pw (n := ((exN a : Int) - (exN b : Int)) % 255) (a := (exN a + exN (gi b)) % 255) (by rw [e0]; omega) (Nat.mod_lt _ (by decide))
    rw [gm, if_neg (by omega)]
    simp (config := { implicitDefEqProofs := false }) only [got_o, got_e, bind_o, bind_e, opt_s, gotO_s, guard_t, outB_nx, outB_bk, outB_ct, outB_rt, outB_er, un2_t, un2_l, un3_t, un3_l, un4_t, un4_l, noer_o, stepB_nx, stepB_ct, stepB_bk, stepB_rt, stepB_er, e_eqI, c', decide_false, Bool.false_eq_true, if_false, ix_ex ha, ix_ex hb, e_sub, e_mod (show (0 : Int) < 255 by decide), e3]
theorem quotient_ok {b : Nat} (h0 : 0 < b) (hb : b < 256) : m_quotient (.int 1) (.int (b : Nat)) = .ok (.int (gi b : Nat)) () := by
  have e : gm 1 (gi b) = gi b := by
    have := allN_of (n := 256) (p := fun a => decide (gm 1 a = a)) (by decide +kernel) (gi_ok h0 hb).2.1
    exact of_decide_eq_true this
  have := quotient_gen (a := 1) (by decide) h0 hb
  rw [e] at this; exact this

/-! ### the field as a type, and interpolation -/
theorem gm_one {a : Nat} (h : a < 256) : gm 1 a = a := by
  have := allN_of (n := 256) (p := fun a => decide (gm 1 a = a)) (by decide +kernel) h
  exact of_decide_eq_true this
structure GF where
  v : Nat
  h : v < 256
theorem GF.ext {a b : GF} (e : a.v = b.v) : a = b := by cases a; cases b; cases e; rfl
def ga (a b : GF) : GF := ⟨a.v ^^^ b.v, xor_lt a.h b.h⟩
def gp (a b : GF) : GF := ⟨gm a.v b.v, gm_lt _ _⟩
def g0 : GF := ⟨0, by decide⟩
def g1 : GF := ⟨1, by decide⟩
def gv (a : GF) : GF := if h : a.v = 0 then g0 else ⟨gi a.v, (gi_ok (by omega) a.h).2.1⟩
theorem ga_assoc (a b c : GF) : ga (ga a b) c = ga a (ga b c) := GF.ext (Nat.xor_assoc ..)
theorem ga_comm (a b : GF) : ga a b = ga b a := GF.ext (Nat.xor_comm ..)
instance : Std.Associative ga := ⟨ga_assoc⟩
instance : Std.Commutative ga := ⟨ga_comm⟩
theorem gp_assoc (a b c : GF) : gp (gp a b) c = gp a (gp b c) := GF.ext (gm_assoc ..)
theorem gp_comm (a b : GF) : gp a b = gp b a := GF.ext (gm_comm ..)
instance : Std.Associative gp := ⟨gp_assoc⟩
instance : Std.Commutative gp := ⟨gp_comm⟩
theorem gp_ga (a b c : GF) : gp a (ga b c) = ga (gp a b) (gp a c) := GF.ext (gm_xor a.h b.h c.h)
theorem ga_gp (a b c : GF) : gp (ga b c) a = ga (gp b a) (gp c a) := by rw [gp_comm, gp_ga, gp_comm a b, gp_comm a c]
theorem ga_self (a : GF) : ga a a = g0 := GF.ext (Nat.xor_self _)
theorem ga_0 (a : GF) : ga a g0 = a := GF.ext (Nat.xor_zero _)
theorem ga_0l (a : GF) : ga g0 a = a := GF.ext (Nat.zero_xor _)
theorem gp_0 (a : GF) : gp a g0 = g0 := GF.ext (gm_zero a.v).2
theorem gp_0l (a : GF) : gp g0 a = g0 := GF.ext (gm_zero a.v).1
theorem gp_1l (a : GF) : gp g1 a = a := GF.ext (gm_one a.h)
theorem gp_1 (a : GF) : gp a g1 = a := by rw [gp_comm, gp_1l]
theorem gp_gv {a : GF} (h : a ≠ g0) : gp a (gv a) = g1 := by
  have h0 : a.v ≠ 0 := fun e => h (GF.ext e)
  refine GF.ext ?_
  unfold gv
  rw [dif_neg h0]
  exact (gi_ok (by omega) a.h).2.2.1
theorem ga_ne {a b : GF} (h : a ≠ b) : ga a b ≠ g0 := fun e => h (by
  have : ga (ga a b) b = ga g0 b := by rw [e]
  rw [ga_assoc, ga_self, ga_0, ga_0l] at this
  exact this)
theorem gp_ne {a b : GF} (ha : a ≠ g0) (hb : b ≠ g0) : gp a b ≠ g0 := fun e => hb (by
  have : gp (gv a) (gp a b) = gp (gv a) g0 := by rw [e]
  rw [← gp_assoc, gp_comm (gv a) a, gp_gv ha, gp_1l, gp_0] at this
  exact this)
theorem gv_unique {a b : GF} (ha : a ≠ g0) (e : gp a b = g1) : b = gv a := by
  have : gp (gv a) (gp a b) = gp (gv a) g1 := by rw [e]
  rw [← gp_assoc, gp_comm (gv a) a, gp_gv ha, gp_1l, gp_1] at this
  exact this
theorem gv_gp {a b : GF} (ha : a ≠ g0) (hb : b ≠ g0) : gv (gp a b) = gp (gv a) (gv b) := (gv_unique (gp_ne ha hb) (by
  rw [show gp (gp a b) (gp (gv a) (gv b)) = gp (gp a (gv a)) (gp b (gv b)) by ac_rfl, gp_gv ha, gp_gv hb, gp_1])).symm
theorem gv_1 : gv g1 = g1 := (gv_unique (by intro e; cases e) (gp_1 g1)).symm
/-- the sum of f over l -/
def gs {α : Type} (f : α → GF) : List α → GF
  | [] => g0
  | x :: l => ga (f x) (gs f l)
theorem gs_congr {α : Type} {f g : α → GF} : ∀ {l : List α}, (∀ x ∈ l, f x = g x) → gs f l = gs g l
  | [], _ => rfl
  | x :: l, h => by rw [gs, gs, h x (by simp), gs_congr fun y hy => h y (by simp [hy])]
theorem gs_add {α : Type} (f g : α → GF) : ∀ l : List α, gs (fun x => ga (f x) (g x)) l = ga (gs f l) (gs g l)
  | [] => (ga_0 _).symm
  | x :: l => by rw [gs, gs, gs, gs_add f g l]; ac_rfl
theorem gs_mul {α : Type} (c : GF) (f : α → GF) : ∀ l : List α, gs (fun x => gp c (f x)) l = gp c (gs f l)
  | [] => (gp_0 _).symm
  | x :: l => by rw [gs, gs, gs_mul c f l, gp_ga]
/-- the product of t - y over l -/
def gP (t : GF) : List GF → GF
  | [] => g1
  | y :: l => gp (ga t y) (gP t l)
theorem gP_ne {t : GF} : ∀ {l : List GF}, t ∉ l → gP t l ≠ g0
  | [], _ => fun e => by cases e
  | y :: l, h => by
    rw [List.mem_cons, not_or] at h
    exact gp_ne (ga_ne h.1) (gP_ne h.2)
/-- l without x -/
def wo (x : GF) : List GF → List GF
  | [] => []
  | y :: l => if y.v = x.v then wo x l else y :: wo x l
theorem wo_not {x : GF} : ∀ {l : List GF}, x ∉ l → wo x l = l
  | [], _ => rfl
  | y :: l, h => by
    rw [List.mem_cons, not_or] at h
    rw [wo, if_neg fun e => h.1 (GF.ext e.symm), wo_not h.2]
theorem wo_mem {x : GF} : ∀ {l : List GF}, x ∉ wo x l
  | [] => by simp [wo]
  | y :: l => by
    unfold wo
    split
    · exact wo_mem
    · rename_i h
      rw [List.mem_cons, not_or]
      exact ⟨fun e => h (by rw [e]), wo_mem⟩
theorem wo_prod {x t : GF} : ∀ {l : List GF}, x ∈ l → l.Nodup → gP t l = gp (ga t x) (gP t (wo x l))
  | y :: l, h, hn => by
    rw [List.nodup_cons] at hn
    by_cases c : y = x
    · subst c
      rw [wo, if_pos rfl, wo_not hn.1]; rfl
    · have hx : x ∈ l := by
        rcases List.mem_cons.mp h with e | e
        · exact absurd e.symm c
        · exact e
      rw [wo, if_neg fun e => c (GF.ext e), gP, gP, wo_prod hx hn.2]; ac_rfl
/-- the weight of x -/
def gW (l : List GF) (x t : GF) : GF := gp (gP t (wo x l)) (gv (gP x (wo x l)))
theorem gW_old {n x t : GF} {l : List GF} (h : n ≠ x) : gW (n :: l) x t = gp (gW l x t) (gp (ga t n) (gv (ga x n))) := by
  unfold gW
  rw [wo, if_neg fun e => h (GF.ext e), gP, gP, gv_gp (ga_ne fun e => h e.symm) (gP_ne wo_mem)]; ac_rfl
theorem gW_new {n t : GF} {l : List GF} (h : n ∉ l) : gW (n :: l) n t = gp (gP t l) (gv (gP n l)) := by
  unfold gW
  rw [wo, if_pos rfl, wo_not h]
/-- the weights sum to one -/
theorem gW_one : ∀ {l : List GF}, l ≠ [] → l.Nodup → ∀ t, gs (fun x => gW l x t) l = g1
  | [], h, _, _ => absurd rfl h
  | [n], _, _, t => by
    rw [gs, gs, gW_new (by simp), ga_0, gP, gP, gv_1, gp_1]
  | n :: m :: l, _, hn, t => by
    have hn0 := hn
    rw [List.nodup_cons] at hn
    obtain ⟨hnm, hn'⟩ := hn
    have ih := gW_one (l := m :: l) (by simp) hn'
    generalize hl : m :: l = l' at *
    have ne : ∀ x ∈ l', n ≠ x := fun x hx e => hnm (by rw [e]; exact hx)
    rw [gs, gW_new hnm]
    have e1 : gs (fun x => gW (n :: l') x t) l' = gs (fun x => ga (gW l' x t) (gp (gP t l') (gp (gv (gP x (wo x l'))) (gv (ga x n))))) l' := gs_congr fun x hx => by
      rw [gW_old (ne x hx)]
      have e : ga t n = ga (ga x n) (ga t x) := by
        rw [show ga (ga x n) (ga t x) = ga (ga x x) (ga t n) by ac_rfl, ga_self, ga_0l]
      rw [e, ga_gp, gp_gv (ga_ne fun z => ne x hx z.symm), gp_ga, gp_1, wo_prod hx hn']
      congr 1
      unfold gW; ac_rfl
    have e2 : gp (gP n l') (gs (fun x => gp (gv (gP x (wo x l'))) (gv (ga x n))) l') = g1 := by
      rw [← ih n, ← gs_mul]
      refine gs_congr fun x hx => ?_
      rw [wo_prod hx hn', ga_comm n x]
      have := gp_gv (ga_ne fun z => ne x hx z.symm)
      rw [show gp (gp (ga x n) (gP n (wo x l'))) (gp (gv (gP x (wo x l'))) (gv (ga x n))) = gp (gp (ga x n) (gv (ga x n))) (gp (gP n (wo x l')) (gv (gP x (wo x l')))) by ac_rfl, this, gp_1l]
      rfl
    rw [e1, gs_add, ih t, gs_mul, gv_unique (gP_ne hnm) e2, show ga (gp (gP t l') (gv (gP n l'))) (ga g1 (gp (gP t l') (gv (gP n l')))) = ga g1 (ga (gp (gP t l') (gv (gP n l'))) (gp (gP t l') (gv (gP n l')))) by ac_rfl, ga_self, ga_0]
/-- a polynomial's value, the coefficients from the highest on (turned round) -/
def gh (t : GF) : List GF → GF
  | [] => g0
  | c :: cs => ga (gp (gh t cs) t) c
/-- what the division by (t - n) leaves out -/
def gq (n : GF) : List GF → List GF
  | [] => []
  | c :: cs => gh n cs :: gq n cs
theorem gq_ok (n t : GF) : ∀ cs : List GF, gh t cs = ga (gh n cs) (gp (ga t n) (gh t (gq n cs)))
  | [] => by simp only [gq, gh, gp_0, ga_0]
  | c :: cs => by
    rw [gq, gh, gh, gh, gq_ok n t cs]
    generalize gh n cs = u
    generalize gh t (gq n cs) = w
    rw [ga_gp, gp_ga, ga_gp u t n]
    have e : gp (ga t n) (gp w t) = gp (gp (ga t n) w) t := by ac_rfl
    rw [e, gp_comm t u, gp_comm n u]
    generalize gp (gp (ga t n) w) t = z
    rw [show ga (ga (gp u n) c) (ga z (ga (gp u t) (gp u n))) = ga (ga (gp u n) (gp u n)) (ga (ga (gp u t) z) c) by ac_rfl, ga_self, ga_0l]
theorem gq_len (n : GF) : ∀ cs : List GF, (gq n cs).length = cs.length
  | [] => rfl
  | c :: cs => by rw [gq, List.length_cons, List.length_cons, gq_len n cs]
/-- the last one of the quotient is nothing -/
theorem gq_last (n : GF) : ∀ (c : GF) (cs : List GF), ∃ qs : List GF, qs.length = cs.length ∧ ∀ t, gh t (gq n (c :: cs)) = gh t qs
  | c, [] => ⟨[], rfl, fun t => by rw [gq, gq, gh, gh, gh, gh, gp_0l, ga_0]⟩
  | c, d :: cs => by
    obtain ⟨qs, h1, h2⟩ := gq_last n d cs
    refine ⟨gh n (d :: cs) :: qs, by rw [List.length_cons, List.length_cons, h1], fun t => ?_⟩
    show ga (gp (gh t (gq n (d :: cs))) t) (gh n (d :: cs)) = _
    rw [h2 t]; rfl
theorem lagrange : ∀ {l : List GF}, l ≠ [] → l.Nodup → ∀ (cs : List GF), cs.length ≤ l.length → ∀ t, gs (fun x => gp (gW l x t) (gh x cs)) l = gh t cs
  | [], h, _, _, _, _ => absurd rfl h
  | n :: l, _, hn, [], _, t => by
    show gs (fun x => gp (gW (n :: l) x t) g0) (n :: l) = g0
    rw [gs_congr (g := fun x => gp g0 (gW (n :: l) x t)) fun x _ => gp_comm _ _, gs_mul, gp_0l]
  | n :: l, _, hn, c :: cs, hc, t => by
    obtain ⟨qs, h1, h2⟩ := gq_last n c cs
    have hv : ∀ x, gh x (c :: cs) = ga (gh n (c :: cs)) (gp (ga x n) (gh x qs)) := fun x => by rw [gq_ok n x (c :: cs), h2 x]
    have hn0 := hn
    rw [List.nodup_cons] at hn
    have ne : ∀ x ∈ l, n ≠ x := fun x hx e => hn.1 (by rw [e]; exact hx)
    rw [gs_congr (g := fun x => ga (gp (gh n (c :: cs)) (gW (n :: l) x t)) (gp (gW (n :: l) x t) (gp (ga x n) (gh x qs)))) fun x _ => by rw [hv x, gp_ga, gp_comm (gW (n :: l) x t) (gh n (c :: cs))], gs_add, gs_mul, gW_one (by simp) hn0, gp_1, hv t]
    congr 1
    rw [gs, ga_self, gp_0l, gp_0, ga_0l, gs_congr (g := fun x => gp (ga t n) (gp (gW l x t) (gh x qs))) fun x hx => by
      rw [gW_old (ne x hx), show gp (gp (gW l x t) (gp (ga t n) (gv (ga x n)))) (gp (ga x n) (gh x qs)) = gp (gp (ga x n) (gv (ga x n))) (gp (ga t n) (gp (gW l x t) (gh x qs))) by ac_rfl, gp_gv (ga_ne fun z => ne x hx z.symm), gp_1l], gs_mul]
    by_cases hl : l = []
    · subst hl
      have : qs = [] := by
        rw [List.length_cons, List.length_cons, List.length_nil] at hc
        exact List.eq_nil_of_length_eq_zero (by omega)
      subst this; rfl
    · rw [lagrange hl hn.2 qs (by rw [List.length_cons, List.length_cons] at hc; omega) t]
/-! the program's reckoning -/
def gd (a : GF) : D := .int (a.v : Nat)
theorem product_gf (a b : GF) : m_product (gd a) (gd b) = .ok (gd (gp a b)) () := product_ok a.h b.h
theorem xor_gf (a b : GF) : xorD (gd a) (gd b) = some (gd (ga a b)) := by
  show some (D.int (Builtin.bitXor (a.v : Int) (b.v : Int))) = _
  rw [xor_pp]; rfl
theorem quotient_gf (a : GF) {b : GF} (h : b ≠ g0) : m_quotient (gd a) (gd b) = .ok (gd (gp a (gv b))) () := by
  have h0 : b.v ≠ 0 := fun e => h (GF.ext e)
  have e : (gv b).v = gi b.v := by unfold gv; rw [dif_neg h0]
  rw [gd, gd, quotient_gen a.h (by omega) b.h, ← e]; rfl
theorem wo_app {x y : GF} : ∀ {l : List GF}, wo x (l ++ [y]) = wo x l ++ (if y.v = x.v then [] else [y])
  | [] => by simp only [List.nil_append, wo]
  | z :: l => by
    rw [List.cons_append, wo, wo, wo_app]
    split <;> rfl
theorem gP_app {t y : GF} : ∀ {l : List GF}, gP t (l ++ [y]) = gp (gP t l) (ga t y)
  | [] => by rw [List.nil_append, gP, gP, gP, gp_1, gp_1l]
  | z :: l => by rw [List.cons_append, gP, gP, gP_app]; ac_rfl
theorem gs_map {α β : Type} (f : β → GF) (g : α → β) : ∀ l : List α, gs f (l.map g) = gs (fun x => f (g x)) l
  | [] => rfl
  | x :: l => by rw [List.map_cons, gs, gs, gs_map f g l]
theorem gs_app {α : Type} {f : α → GF} {y : α} : ∀ {l : List α}, gs f (l ++ [y]) = ga (gs f l) (f y)
  | [] => by rw [List.nil_append, gs, gs, gs, ga_0, ga_0l]
  | z :: l => by rw [List.cons_append, gs, gs, gs_app]; ac_rfl
theorem take_next {α : Type} {l : List α} {k : Nat} (h : k < l.length) : l.take (k + 1) = l.take k ++ [l[k]] := by
  rw [List.take_succ, List.getElem?_eq_getElem h]; rfl
theorem zip_map {α : Type} {a b : α → D} : ∀ {l : List α}, zipD (l.map a) (l.map b) = l.map fun x => .tup [a x, b x]
  | [] => rfl
  | x :: l => by
    show D.tup [a x, b x] :: zipD (l.map a) (l.map b) = _
    rw [zip_map]; rfl
theorem weights_ok {l : List GF} (hn : l.Nodup) (hl : l.length ≤ 16777215) (t : GF) : m_weights (.lst (l.map gd)) (gd t) = .ok (.lst (l.map fun x => gd (gW l x t))) () := by
  unfold m_weights
  rw [e_iterL]
  simp (config := { implicitDefEqProofs := false }) only [got_o, got_e, bind_o, bind_e, opt_s, gotO_s, guard_t, outB_nx, outB_bk, outB_ct, outB_rt, outB_er, un2_t, un2_l, un3_t, un3_l, un4_t, un4_l, noer_o, stepB_nx, stepB_ct, stepB_bk, stepB_rt, stepB_er]
  refine nx_eq _ (loop_all (fun n (s : List D × Unit) => s = ((l.take n).map (fun x => gd (gW l x t)), ())) 0 rfl fun k hk s hs => ?_) fun s hs => ?_
  · subst hs
    have hk' : k < l.length := by simpa using hk
    rw [List.getElem_map]
    simp (config := { implicitDefEqProofs := false }) only [got_o, got_e, bind_o, bind_e, opt_s, gotO_s, guard_t, outB_nx, outB_bk, outB_ct, outB_rt, outB_er, un2_t, un2_l, un3_t, un3_l, un4_t, un4_l, noer_o, stepB_nx, stepB_ct, stepB_bk, stepB_rt, stepB_er]
    refine nx_go (fun s : D × D × Unit => s = (gd (gP t (wo l[k] l)), gd (gP l[k] (wo l[k] l)), ())) ?_ fun s hs => ?_
    · refine Nx.mono (loop_all (fun n (s : D × D × Unit) => s = (gd (gP t (wo l[k] (l.take n))), gd (gP l[k] (wo l[k] (l.take n))), ())) 0 rfl fun j hj s hs => ?_) fun s hs => ?_
      rotate_left
      · rw [List.length_map, Nat.zero_add, List.take_length] at hs
        exact hs
      · skip
        subst hs
        have hj' : j < l.length := by simpa using hj
        rw [List.getElem_map]
        have hne : neC (gd l[j]) (gd l[k]) = some (!decide (((l[j]).v : Int) = ((l[k]).v : Int))) := rfl
        rw [Nat.zero_add, take_next hj', wo_app]
        by_cases c : (l[j]).v = (l[k]).v
        · have c' : ((l[j]).v : Int) = ((l[k]).v : Int) := by omega
          simp (config := { implicitDefEqProofs := false }) only [got_o, got_e, bind_o, bind_e, opt_s, gotO_s, guard_t, outB_nx, outB_bk, outB_ct, outB_rt, outB_er, un2_t, un2_l, un3_t, un3_l, un4_t, un4_l, noer_o, stepB_nx, stepB_ct, stepB_bk, stepB_rt, stepB_er, hne, c', decide_true, Bool.not_true, Bool.false_eq_true, if_false, c, if_true, List.append_nil]
          rfl
        · have c' : ¬ ((l[j]).v : Int) = ((l[k]).v : Int) := by omega
          simp (config := { implicitDefEqProofs := false }) only [got_o, got_e, bind_o, bind_e, opt_s, gotO_s, guard_t, outB_nx, outB_bk, outB_ct, outB_rt, outB_er, un2_t, un2_l, un3_t, un3_l, un4_t, un4_l, noer_o, stepB_nx, stepB_ct, stepB_bk, stepB_rt, stepB_er, hne, c', decide_false, Bool.not_false, if_true, c, if_false, xor_gf, product_gf, gP_app]
          rfl
    · subst hs
      have hlen : ((l.take (0 + k)).map (fun x => gd (gW l x t))).length + 1 ≤ 16777216 := by
        rw [List.length_map, List.length_take]; omega
      simp (config := { implicitDefEqProofs := false }) only [got_o, got_e, bind_o, bind_e, opt_s, gotO_s, guard_t, outB_nx, outB_bk, outB_ct, outB_rt, outB_er, un2_t, un2_l, un3_t, un3_l, un4_t, un4_l, noer_o, stepB_nx, stepB_ct, stepB_bk, stepB_rt, stepB_er, quotient_gf _ (gP_ne wo_mem), e_size hlen]
      show _ = _
      rw [Nat.zero_add, take_next hk', List.map_append]
      rfl
  · rw [hs, List.length_map, Nat.zero_add, List.take_length]

theorem weighed_ok {α : Type} {l : List α} (F f : α → GF) : m_weighed (.lst (l.map fun x => gd (F x))) (.lst (l.map fun x => gd (f x))) = .ok (gd (gs (fun x => gp (F x) (f x)) l)) () := by
  unfold m_weighed
  have ez : zipI (.lst (l.map fun x => gd (F x))) (.lst (l.map fun x => gd (f x))) = some (l.map fun x => .tup [gd (F x), gd (f x)]) := by
    exact congrArg some zip_map
  rw [ez]
  simp (config := { implicitDefEqProofs := false }) only [got_o, got_e, bind_o, bind_e, opt_s, gotO_s, guard_t, outB_nx, outB_bk, outB_ct, outB_rt, outB_er, un2_t, un2_l, un3_t, un3_l, un4_t, un4_l, noer_o, stepB_nx, stepB_ct, stepB_bk, stepB_rt, stepB_er]
  refine nx_eq _ (loop_all (fun n (s : D × Unit) => s = (gd (gs (fun x => gp (F x) (f x)) (l.take n)), ())) 0 rfl fun k hk s hs => ?_) fun s hs => ?_
  · subst hs
    have hk' : k < l.length := by simpa using hk
    rw [List.getElem_map, Nat.zero_add, take_next hk', gs_app]
    simp (config := { implicitDefEqProofs := false }) only [got_o, got_e, bind_o, bind_e, opt_s, gotO_s, guard_t, outB_nx, outB_bk, outB_ct, outB_rt, outB_er, un2_t, un2_l, un3_t, un3_l, un4_t, un4_l, noer_o, stepB_nx, stepB_ct, stepB_bk, stepB_rt, stepB_er, product_gf, xor_gf]
    rfl
  · rw [hs, List.length_map, Nat.zero_add, List.take_length]

/-- an item that can be asked what it is -/
def OkE (e : D) : Prop := (tyN e).isSome = true ∧ ∀ xs, e = .tup xs → ∀ x ∈ xs, (tyN x).isSome = true
def ptB : D → Bool
  | .tup [x, y] => octB x && octB y
  | _ => false
theorem is_point_ok {e : D} (h : OkE e) : m_is_point e = .ok (.bl (ptB e)) () := by
  cases e with
  | tup xs =>
    have t1 : isiD (.tup xs) (.ty "tuple") = some true := rfl
    unfold m_is_point
    match xs, h with
    | [], _ => rfl
    | [x], _ => rfl
    | [x, y], h =>
      have hx := h.2 _ rfl x (by simp)
      have hy := h.2 _ rfl y (by simp)
      have c : (([x, y] : List D).length : Int) = 2 := rfl
      simp (config := { implicitDefEqProofs := false }) only [got_o, got_e, bind_o, bind_e, opt_s, gotO_s, guard_t, outB_nx, outB_bk, outB_ct, outB_rt, outB_er, un2_t, un2_l, un3_t, un3_l, un4_t, un4_l, noer_o, stepB_nx, stepB_ct, stepB_bk, stepB_rt, stepB_er, t1, if_true, e_lenT, e_eqI, c, decide_true, e_t0, e_t1 (x := x), is_octet_ok hx, is_octet_ok hy, e_asB, ptB]
      cases octB x <;> cases octB y <;> rfl
    | x :: y :: z :: l, _ =>
      have c : ¬ ((x :: y :: z :: l : List D).length : Int) = 2 := by simp only [List.length_cons]; omega
      simp (config := { implicitDefEqProofs := false }) only [got_o, got_e, bind_o, bind_e, opt_s, gotO_s, guard_t, outB_nx, outB_bk, outB_ct, outB_rt, outB_er, un2_t, un2_l, un3_t, un3_l, un4_t, un4_l, noer_o, stepB_nx, stepB_ct, stepB_bk, stepB_rt, stepB_er, t1, if_true, e_lenT, e_eqI, c, decide_false, Bool.false_eq_true, if_false, ptB]
  | ref a => cases h.1
  | scr ns => cases h.1
  | ty t => cases h.1
  | dit t => cases h.1
  | _ => rfl
theorem pt_ex {e : D} (h : ptB e = true) : ∃ a b : Nat, e = .tup [.int (a : Nat), .int (b : Nat)] ∧ a < 256 ∧ b < 256 := by
  unfold ptB at h
  split at h
  · rw [Bool.and_eq_true] at h
    obtain ⟨a, rfl, ha⟩ := oct_nat h.1
    obtain ⟨b, rfl, hb⟩ := oct_nat h.2
    exact ⟨a, b, rfl, ha, hb⟩
  · cases h

def itemsD : D → Option (List D)
  | .lst xs => some xs
  | .tup xs => some xs
  | _ => none
def headD : D → D
  | .tup (x :: _) => x
  | _ => .non
def badP (ps : List D) (k : Nat) : Bool := !ptB (ps.getD k .non) || inF (headD (ps.getD k .non)) ((ps.take k).map headD)
def firstBad (ps : List D) : Option Nat := (List.range ps.length).find? (badP ps)
theorem getD_at {l : List D} {k : Nat} (h : k < l.length) : l.getD k .non = l[k] := by simp [h]
theorem heads_flat {ps : List D} {k : Nat} (hk : k ≤ ps.length) (h : ∀ j, j < k → badP ps j = false) : ((ps.take k).map headD).all flatD = true := by
  rw [List.all_eq_true]
  intro x hx
  obtain ⟨e, he, rfl⟩ := List.mem_map.mp hx
  obtain ⟨j, hj, rfl⟩ := List.mem_iff_getElem.mp he
  have hj' : j < k := by rw [List.length_take] at hj; omega
  have := h j hj'
  unfold badP at this
  rw [Bool.or_eq_false_iff, getD_at (by omega)] at this
  obtain ⟨a, b, e1, _⟩ := pt_ex (by simpa using this.1)
  rw [List.getElem_take, e1]; rfl
theorem in_flat {x : D} {l : List D} (hx : flatD x = true) (hl : l.all flatD = true) : inC x (.lst l) = some (inF x l) := if_pos ⟨hx, hl⟩
theorem range0 {n : Nat} : (List.range n).map (0 + ·) = List.range n := by
  rw [List.map_congr_left (g := id) fun a _ => by simp]; simp
def refuse (k : Int) : P D := .er "BadPoints" [("value", .int k)] ()
theorem check_points_ok {p : D} (hp : (tyN p).isSome = true) (hE : ∀ xs, itemsD p = some xs → ∀ e ∈ xs, OkE e) : m_check_points p = match itemsD p with
    | none => refuse (-1)
    | some ps => if 1 ≤ ps.length ∧ ps.length ≤ 12 then (match firstBad ps with | some k => refuse (k : Nat) | none => .ok .non ()) else refuse (-1) := by
  have main : ∀ ps : List D, (∀ e ∈ ps, OkE e) → (p = .lst ps ∨ p = .tup ps) → m_check_points p = if 1 ≤ ps.length ∧ ps.length ≤ 12 then (match firstBad ps with | some k => refuse (k : Nat) | none => .ok .non ()) else refuse (-1) := fun ps hE h => by
    have e1 : m_is_row p = .ok (.bl true) () := by rw [is_row_ok hp]; rcases h with rfl | rfl <;> rfl
    have e2 : lenD p = some (.int ps.length) := by rcases h with rfl | rfl <;> rfl
    have e3 : enumI p = some (enumD ps) := by rcases h with rfl | rfl <;> rfl
    unfold m_check_points
    simp (config := { implicitDefEqProofs := false }) only [got_o, got_e, bind_o, bind_e, opt_s, gotO_s, guard_t, outB_nx, outB_bk, outB_ct, outB_rt, outB_er, un2_t, un2_l, un3_t, un3_l, un4_t, un4_l, noer_o, stepB_nx, stepB_ct, stepB_bk, stepB_rt, stepB_er, e1, e2, e3, e_truB, Bool.not_true, Bool.false_eq_true, if_false, e_le, e_neg]
    by_cases c : 1 ≤ ps.length ∧ ps.length ≤ 12
    · have c1 : (1 : Int) ≤ (ps.length : Nat) := by omega
      have c2 : ((ps.length : Nat) : Int) ≤ 12 := by omega
      rw [if_pos c]
      simp (config := { implicitDefEqProofs := false }) only [got_o, got_e, bind_o, bind_e, opt_s, gotO_s, guard_t, outB_nx, outB_bk, outB_ct, outB_rt, outB_er, un2_t, un2_l, un3_t, un3_l, un4_t, un4_l, noer_o, stepB_nx, stepB_ct, stepB_bk, stepB_rt, stepB_er, c1, c2, decide_true, if_true, Bool.not_true, Bool.false_eq_true, if_false]
      refine find_eq (fun k => ((ps.take k).map headD, ())) (badP ps) (fun k => .er "BadPoints" [("value", .int (k : Nat))] ()) (fun _ _ => rfl) (fun k hk hj => ?_) ?_
      · have hk' : k < ps.length := by simpa [enumD] using hk
        have ex : (enumD ps)[k] = .tup [.int (k : Nat), ps[k]] := by
          have := enumD_get (List.getElem?_eq_getElem hk')
          rw [List.getElem?_eq_getElem hk] at this
          exact Option.some.inj this
        rw [ex]
        simp (config := { implicitDefEqProofs := false }) only [got_o, got_e, bind_o, bind_e, opt_s, gotO_s, guard_t, outB_nx, outB_bk, outB_ct, outB_rt, outB_er, un2_t, un2_l, un3_t, un3_l, un4_t, un4_l, noer_o, stepB_nx, stepB_ct, stepB_bk, stepB_rt, stepB_er, is_point_ok (hE _ (List.getElem_mem hk')), e_truB]
        have fl := heads_flat (by omega) hj
        unfold badP
        rw [getD_at hk']
        cases hb : ptB ps[k] with
        | false => rfl
        | true =>
          obtain ⟨x, y, e4, _, _⟩ := pt_ex hb
          have e5 : headD ps[k] = .int (x : Nat) := by rw [e4]; rfl
          have e6 : ixD ps[k] (.int 0) = some (.int (x : Nat)) := by rw [e4]; exact e_t0
          rw [e5]
          simp (config := { implicitDefEqProofs := false }) only [got_o, got_e, bind_o, bind_e, opt_s, gotO_s, guard_t, outB_nx, outB_bk, outB_ct, outB_rt, outB_er, un2_t, un2_l, un3_t, un3_l, un4_t, un4_l, noer_o, stepB_nx, stepB_ct, stepB_bk, stepB_rt, stepB_er, Bool.not_true, Bool.false_eq_true, if_false, e6, in_flat (x := .int (x : Nat)) rfl fl, Bool.false_or]
          cases hi : inF (.int (x : Nat)) ((ps.take k).map headD) with
          | true => rfl
          | false =>
            have hlen : ((ps.take k).map headD).length + 1 ≤ 16777216 := by rw [List.length_map, List.length_take]; omega
            simp (config := { implicitDefEqProofs := false }) only [got_o, got_e, bind_o, bind_e, opt_s, gotO_s, guard_t, outB_nx, outB_bk, outB_ct, outB_rt, outB_er, un2_t, un2_l, un3_t, un3_l, un4_t, un4_l, noer_o, stepB_nx, stepB_ct, stepB_bk, stepB_rt, stepB_er, Bool.false_eq_true, if_false, e_size hlen]
            rw [take_next hk', List.map_append, List.map_singleton, e5]
      · rw [show (enumD ps).length = ps.length by simp [enumD]]
        show outB (match firstBad ps with | some k => _ | none => _) _ _ _ _ _ _ = _
        cases firstBad ps <;> rfl
    · rw [if_neg c]
      by_cases c1 : (1 : Int) ≤ (ps.length : Nat)
      · have c2 : ¬ ((ps.length : Nat) : Int) ≤ 12 := by omega
        simp (config := { implicitDefEqProofs := false }) only [got_o, got_e, bind_o, bind_e, opt_s, gotO_s, guard_t, outB_nx, outB_bk, outB_ct, outB_rt, outB_er, un2_t, un2_l, un3_t, un3_l, un4_t, un4_l, noer_o, stepB_nx, stepB_ct, stepB_bk, stepB_rt, stepB_er, c1, c2, decide_true, decide_false, if_true, Bool.not_false]; rfl
      · simp (config := { implicitDefEqProofs := false }) only [got_o, got_e, bind_o, bind_e, opt_s, gotO_s, guard_t, outB_nx, outB_bk, outB_ct, outB_rt, outB_er, un2_t, un2_l, un3_t, un3_l, un4_t, un4_l, noer_o, stepB_nx, stepB_ct, stepB_bk, stepB_rt, stepB_er, c1, decide_false, Bool.false_eq_true, if_false, Bool.not_false, if_true]; rfl
  cases p with
  | lst ps => exact main ps (hE ps rfl) (.inl rfl)
  | tup ps => exact main ps (hE ps rfl) (.inr rfl)
  | ref a => cases hp
  | scr ns => cases hp
  | ty t => cases hp
  | dit t => cases hp
  | _ => rfl

/-- points as the field's -/
def ptD (p : GF × GF) : D := .tup [gd p.1, gd p.2]
theorem gd_inj {a b : GF} (h : gd a = gd b) : a = b := by
  have : (a.v : Int) = (b.v : Int) := D.int.inj h
  exact GF.ext (by omega)
theorem points_of {ps : List D} : ∀ n ≤ ps.length, (∀ k < n, badP ps k = false) → ∃ l : List (GF × GF), ps.take n = l.map ptD ∧ (l.map (·.1)).Nodup := by
  intro n
  induction n with
  | zero => exact fun _ _ => ⟨[], rfl, by simp⟩
  | succ n ih =>
    intro hn hb
    obtain ⟨l, h1, h2⟩ := ih (by omega) fun k hk => hb k (by omega)
    have := hb n (by omega)
    unfold badP at this
    rw [Bool.or_eq_false_iff, getD_at (by omega)] at this
    obtain ⟨a, b, e1, ha, hb'⟩ := pt_ex (by simpa using this.1)
    refine ⟨l ++ [(⟨a, ha⟩, ⟨b, hb'⟩)], ?_, ?_⟩
    · rw [take_next (by omega), h1, List.map_append, e1]; rfl
    · rw [List.map_append, List.map_singleton, List.nodup_append]
      refine ⟨h2, by simp, fun x hx y hy => ?_⟩
      rw [List.mem_singleton] at hy
      subst hy
      intro e
      subst e
      have h3 := this.2
      rw [h1, e1] at h3
      unfold inF at h3
      rw [List.any_eq_false] at h3
      obtain ⟨p, hp, e⟩ := List.mem_map.mp hx
      refine h3 (gd p.1) (List.mem_map.mpr ⟨ptD p, List.mem_map.mpr ⟨p, hp, rfl⟩, rfl⟩) ?_
      rw [e]
      show ((a : Int) == (a : Int)) = true
      simp
theorem points_ex {ps : List D} (h : firstBad ps = none) : ∃ l : List (GF × GF), ps = l.map ptD ∧ (l.map (·.1)).Nodup := by
  have := List.find?_eq_none.mp h
  obtain ⟨l, h1, h2⟩ := points_of (ps := ps) ps.length (Nat.le_refl _) fun k hk => by
    have := this k (by simpa using hk)
    simpa using this
  rw [List.take_length] at h1
  exact ⟨l, h1, h2⟩
/-- what is reckoned of points at t -/
def valP (l : List (GF × GF)) (t : GF) : GF := gs (fun p => gp (gW (l.map (·.1)) p.1 t) p.2) l
theorem value_at_er {p place : D} {k : Int} (h : m_check_points p = refuse k) : m_value_at p place = refuse k := by
  unfold m_value_at
  rw [h]; rfl
theorem value_at_er2 {p place : D} (h : m_check_points p = .ok .non ()) (hp : (tyN place).isSome = true) (ho : octB place = false) : m_value_at p place = .er "BadOctet" [("value", place)] () := by
  unfold m_value_at
  rw [h, check_octet_ok hp, ho]; rfl
theorem value_at_ok {p : D} {l : List (GF × GF)} (hi : iterD p = some (l.map ptD)) (h : m_check_points p = .ok .non ()) (hn : (l.map (·.1)).Nodup) (hl : l.length ≤ 12) (t : GF) : m_value_at p (gd t) = .ok (gd (valP l t)) () := by
  unfold m_value_at
  have ho : m_check_octet (gd t) = .ok .non () := check_octet_nat t.h
  have e1 : ∀ f : D → P D, (∀ q : GF × GF, f (ptD q) = .ok (gd q.1) ()) → mapR f (l.map ptD) = .ok (l.map fun q => gd q.1) () := fun f hf => by
    rw [mapR_ok (g := headD) fun x hx => by
      obtain ⟨q, _, rfl⟩ := List.mem_map.mp hx
      rw [hf]; rfl, List.map_map]
    rfl
  have e2 : ∀ f : D → P D, (∀ q : GF × GF, f (ptD q) = .ok (gd q.2) ()) → mapR f (l.map ptD) = .ok (l.map fun q => gd q.2) () := fun f hf => by
    rw [mapR_ok (g := fun d => match d with | .tup [_, y] => y | _ => .non) fun x hx => by
      obtain ⟨q, _, rfl⟩ := List.mem_map.mp hx
      rw [hf]; rfl, List.map_map]
    rfl
  simp (config := { implicitDefEqProofs := false }) only [got_o, got_e, bind_o, bind_e, opt_s, gotO_s, guard_t, outB_nx, outB_bk, outB_ct, outB_rt, outB_er, un2_t, un2_l, un3_t, un3_l, un4_t, un4_l, noer_o, stepB_nx, stepB_ct, stepB_bk, stepB_rt, stepB_er, h, ho, hi]
  rw [e1 _ fun q => rfl, e2 _ fun q => rfl, chkR_ok (by rw [List.length_map]; omega), chkR_ok (by rw [List.length_map]; omega)]
  have ew : (l.map fun q : GF × GF => gd q.1) = (l.map (·.1)).map gd := by rw [List.map_map]; rfl
  rw [ew]
  simp (config := { implicitDefEqProofs := false }) only [got_o, got_e, bind_o, bind_e, opt_s, gotO_s, guard_t, outB_nx, outB_bk, outB_ct, outB_rt, outB_er, un2_t, un2_l, un3_t, un3_l, un4_t, un4_l, noer_o, stepB_nx, stepB_ct, stepB_bk, stepB_rt, stepB_er, weights_ok hn (by rw [List.length_map]; omega) t]
  rw [List.map_map]
  have := weighed_ok (l := l) (fun q => gW (l.map (·.1)) q.1 t) (fun q => q.2)
  rw [show ((fun x => gd (gW (l.map (·.1)) x t)) ∘ fun q : GF × GF => q.1) = fun q => gd (gW (l.map (·.1)) q.1 t) from rfl, this]
  rfl

/-- the row of a law: the script, how far it is read, the state, what is left of a large number -/
def RowL (xs : List D) : Prop := ∃ (ns : List Int) (i s l : Int), xs = [.scr ns, .int i, .int s, .int l] ∧ 0 ≤ i ∧ 0 ≤ s ∧ s < 2147483647
theorem taken_ok {row : List D} {m : Int} (hr : RowL row) (m0 : 0 < m) (m1 : m < 18446744073709551616) : ∃ (v : Int) (row' : List D), m__law_taken row (.int m) = .ok (.int v) (row', ()) ∧ 0 ≤ v ∧ v < m ∧ RowL row' := by
  obtain ⟨ns, i, s, l, rfl, h0, h1, h2⟩ := hr
  unfold m__law_taken
  have w1 : ∀ (a b c d : D), ixW [a, b, c, d].length (.int 1) = some 1 := fun _ _ _ _ => e_ixW (by decide) (by simp)
  have w2 : ∀ (a b c d : D), ixW [a, b, c, d].length (.int 2) = some 2 := fun _ _ _ _ => e_ixW (by decide) (by simp)
  have w3 : ∀ (a b c d : D), ixW [a, b, c, d].length (.int 3) = some 3 := fun _ _ _ _ => e_ixW (by decide) (by simp)
  have s1 : ∀ (a b c d x : D), [a, b, c, d].set 1 x = [a, x, c, d] := fun _ _ _ _ _ => rfl
  have s2 : ∀ (a b c d x : D), [a, b, c, d].set 2 x = [a, b, x, d] := fun _ _ _ _ _ => rfl
  have s3 : ∀ (a b c d x : D), [a, b, c, d].set 3 x = [a, b, c, x] := fun _ _ _ _ _ => rfl
  simp (config := { implicitDefEqProofs := false }) only [got_o, got_e, bind_o, bind_e, opt_s, gotO_s, guard_t, outB_nx, outB_bk, outB_ct, outB_rt, outB_er, un2_t, un2_l, un3_t, un3_l, un4_t, un4_l, noer_o, stepB_nx, stepB_ct, stepB_bk, stepB_rt, stepB_er, e_l0, e_l1, e_l2, e_l3, e_gt, e_add, e_int, e_lenR, w1, w2, w3, s1, s2, s3, e_sub, e_mod m0, e_fdiv m0 m1, e_mulR (show (-18446744073709551616 : Int) < 48271 by decide) (by decide), e_mod (show (0 : Int) < 2147483647 by decide), e_fdiv (show (0 : Int) < 7 by decide) (by decide),
    e_pow (show (0 : Int) ≤ 18 by decide) (by decide) (show (-18446744073709551616 : Int) < 10 by decide) (by decide)]
  by_cases hl : 0 < l
  · simp only [hl, decide_true, if_true]
    exact ⟨_, _, rfl, Int.emod_nonneg _ (by omega), Int.emod_lt_of_pos _ m0, ns, i, s, l / m, rfl, h0, h1, h2⟩
  · simp only [hl, decide_false, Bool.false_eq_true, if_false]
    by_cases hi : (ns.length : Int) < i + 1
    · simp only [hi, decide_true, if_true]
      exact ⟨_, _, rfl, Int.emod_nonneg _ (by omega), Int.emod_lt_of_pos _ m0, ns, i + 1, _, l, rfl, by omega, Int.emod_nonneg _ (by omega), Int.emod_lt_of_pos _ (by omega)⟩
    · have e1 : i + 1 - 1 = i := by omega
      simp only [hi, decide_false, Bool.false_eq_true, if_false, e1, e_rI h0 (show i < ns.length by omega), got_o, got_e, bind_o, bind_e, opt_s, gotO_s, guard_t, outB_nx, outB_bk, outB_ct, outB_rt, outB_er, un2_t, un2_l, un3_t, un3_l, un4_t, un4_l, noer_o, stepB_nx, stepB_ct, stepB_bk, stepB_rt, stepB_er, e_add, e_int, e_ge, e_mod (show (0 : Int) < 2147483647 by decide), e_fdiv m0 m1, w3, s3]
      by_cases hc : (10 : Int) ^ (18 : Int).toNat ≤ ns[i.toNat]
      · simp only [hc, decide_true, if_true, got_o, got_e, bind_o, bind_e, opt_s, gotO_s, guard_t, outB_nx, outB_bk, outB_ct, outB_rt, outB_er, un2_t, un2_l, un3_t, un3_l, un4_t, un4_l, noer_o, stepB_nx, stepB_ct, stepB_bk, stepB_rt, stepB_er, e_mod m0]
        exact ⟨_, _, rfl, Int.emod_nonneg _ (by omega), Int.emod_lt_of_pos _ m0, ns, i + 1, _, _, rfl, by omega, Int.emod_nonneg _ (by omega), Int.emod_lt_of_pos _ (by omega)⟩
      · simp only [hc, decide_false, Bool.false_eq_true, if_false, got_o, got_e, bind_o, bind_e, opt_s, gotO_s, guard_t, outB_nx, outB_bk, outB_ct, outB_rt, outB_er, un2_t, un2_l, un3_t, un3_l, un4_t, un4_l, noer_o, stepB_nx, stepB_ct, stepB_bk, stepB_rt, stepB_er, e_mod m0]
        exact ⟨_, _, rfl, Int.emod_nonneg _ (by omega), Int.emod_lt_of_pos _ m0, ns, i + 1, _, l, rfl, by omega, Int.emod_nonneg _ (by omega), Int.emod_lt_of_pos _ (by omega)⟩
theorem row_start {ns : List Int} {s : Int} (h : 0 ≤ s) (h2 : s < 2147483647) : RowL [.scr ns, .int 0, .int s, .int 0] := ⟨ns, 0, s, 0, rfl, by decide, h, h2⟩

theorem pick_ok {row xs : List D} (hr : RowL row) (h0 : 0 < xs.length) (h1 : xs.length ≤ 16777216) : ∃ (v : D) (row' : List D), m__law_pick row (.lst xs) = .ok v (row', ()) ∧ v ∈ xs ∧ RowL row' := by
  obtain ⟨k, row', e, k0, k1, r'⟩ := taken_ok (m := (xs.length : Int)) hr (by omega) (by omega)
  refine ⟨_, row', ?_, List.getElem_mem (show k.toNat < xs.length by omega), r'⟩
  unfold m__law_pick
  simp (config := { implicitDefEqProofs := false }) only [got_o, got_e, bind_o, bind_e, opt_s, gotO_s, guard_t, outB_nx, outB_bk, outB_ct, outB_rt, outB_er, un2_t, un2_l, un3_t, un3_l, un4_t, un4_l, noer_o, stepB_nx, stepB_ct, stepB_bk, stepB_rt, stepB_er, e_lenL, e, e_lI k0 k1]
theorem pick_okT {row xs : List D} (hr : RowL row) (h0 : 0 < xs.length) (h1 : xs.length ≤ 16777216) : ∃ (v : D) (row' : List D), m__law_pick row (.tup xs) = .ok v (row', ()) ∧ v ∈ xs ∧ RowL row' := by
  obtain ⟨k, row', e, k0, k1, r'⟩ := taken_ok (m := (xs.length : Int)) hr (by omega) (by omega)
  refine ⟨_, row', ?_, List.getElem_mem (show k.toNat < xs.length by omega), r'⟩
  unfold m__law_pick
  simp (config := { implicitDefEqProofs := false }) only [got_o, got_e, bind_o, bind_e, opt_s, gotO_s, guard_t, outB_nx, outB_bk, outB_ct, outB_rt, outB_er, un2_t, un2_l, un3_t, un3_l, un4_t, un4_l, noer_o, stepB_nx, stepB_ct, stepB_bk, stepB_rt, stepB_er, e_lenT, e, e_tI k0 k1]

/-- data that are alike themselves -/
def plain : Nat → D → Prop
  | 0, _ => False
  | n + 1, d => match d with
    | .non => True
    | .bl _ => True
    | .int _ => True
    | .str _ => True
    | .lst xs => xs.length ≤ 16777216 ∧ ∀ x ∈ xs, plain n x
    | .tup xs => xs.length ≤ 16777216 ∧ ∀ x ∈ xs, plain n x
    | .dic kvs => kvs.length ≤ 16777216 ∧ neC (.lst (kvs.map fun kv => kD kv.1)) (.lst (kvs.map fun kv => kD kv.1)) = some false ∧ ∀ kv ∈ kvs, ∃ v, ixD (.dic kvs) (kD kv.1) = some v ∧ plain n v
    | _ => False
theorem lc_none {f : D → P (Option D)} : ∀ {xs : List D}, (∀ x ∈ xs, f x = .ok none ()) → lcR f xs = .ok [] ()
  | [], _ => rfl
  | x :: xs, h => by
    have := lc_none (xs := xs) fun y hy => h y (by simp [hy])
    simp only [lcR, h x (by simp), this, bind_o]
theorem alike_self (n : Nat) : ∀ (d : D), plain n d → m__law_alike n d d = .ok (.bl true) () := by
  induction n with
  | zero => exact fun d h => h.elim
  | succ n ih =>
    intro d h
    have is1 : ∀ b : Bool, eqC (.bl b) (.bl b) = some true := fun b => by rw [e_eqB]; simp
    have is2 : ∀ b : Bool, neC (.bl b) (.bl b) = some false := fun b => by rw [e_neB]; simp
    have is3 : ∀ z : Str, eqC (.str z) (.str z) = some true := fun z => by rw [e_eqS]; simp
    have is4 : ∀ i : Int, eqC (.int i) (.int i) = some true := fun i => by rw [e_eqI]; simp
    have is5 : ∀ i : Int, neC (.int i) (.int i) = some false := fun i => by rw [e_neI]; simp
    have is6 : eqC (.lst []) (.lst []) = some true := rfl
    have is7 : chkR (.ok [] ()) = .ok [] () := rfl
    cases d with
    | non =>
      have t1 : isiD .non (.tup [.ty "tuple", .ty "list"]) = some false := rfl
      have t2 : isiD .non (.ty "dict") = some false := rfl
      have t3 : isiD .non (.ty "str") = some false := rfl
      have t4 : eqC .non .non = some true := rfl
      unfold m__law_alike
      simp (config := { implicitDefEqProofs := false }) only [got_o, got_e, bind_o, bind_e, opt_s, gotO_s, guard_t, outB_nx, outB_bk, outB_ct, outB_rt, outB_er, un2_t, un2_l, un3_t, un3_l, un4_t, un4_l, noer_o, stepB_nx, stepB_ct, stepB_bk, stepB_rt, stepB_er, t1, t2, t3, t4, Bool.false_eq_true, if_false, if_true, KD.isNon, is1]
    | bl b =>
      have t1 : isiD (.bl b) (.tup [.ty "tuple", .ty "list"]) = some false := rfl
      have t2 : isiD (.bl b) (.ty "dict") = some false := rfl
      have t3 : isiD (.bl b) (.ty "str") = some false := rfl
      have t4 : isiD (.bl b) (.ty "int") = some true := rfl
      have t5 : isiD (.bl b) (.ty "bool") = some true := rfl
      unfold m__law_alike
      simp (config := { implicitDefEqProofs := false }) only [got_o, got_e, bind_o, bind_e, opt_s, gotO_s, guard_t, outB_nx, outB_bk, outB_ct, outB_rt, outB_er, un2_t, un2_l, un3_t, un3_l, un4_t, un4_l, noer_o, stepB_nx, stepB_ct, stepB_bk, stepB_rt, stepB_er, t1, t2, t3, t4, t5, Bool.false_eq_true, if_false, if_true, KD.isNon, is1]
    | int i =>
      unfold m__law_alike
      simp (config := { implicitDefEqProofs := false }) only [got_o, got_e, bind_o, bind_e, opt_s, gotO_s, guard_t, outB_nx, outB_bk, outB_ct, outB_rt, outB_er, un2_t, un2_l, un3_t, un3_l, un4_t, un4_l, noer_o, stepB_nx, stepB_ct, stepB_bk, stepB_rt, stepB_er, e_isTL_int, e_isD_int, e_isS_int, e_isI_int, e_isB_int, Bool.false_eq_true, if_false, if_true, KD.isNon, is1, is4]
    | str z =>
      have t1 : isiD (.str z) (.tup [.ty "tuple", .ty "list"]) = some false := rfl
      have t2 : isiD (.str z) (.ty "dict") = some false := rfl
      have t3 : isiD (.str z) (.ty "str") = some true := rfl
      unfold m__law_alike
      simp (config := { implicitDefEqProofs := false }) only [got_o, got_e, bind_o, bind_e, opt_s, gotO_s, guard_t, outB_nx, outB_bk, outB_ct, outB_rt, outB_er, un2_t, un2_l, un3_t, un3_l, un4_t, un4_l, noer_o, stepB_nx, stepB_ct, stepB_bk, stepB_rt, stepB_er, t1, t2, t3, Bool.false_eq_true, if_false, if_true, KD.isNon, is1, is3]
    | lst xs =>
      obtain ⟨h1, h2⟩ := h
      have t1 : isiD (.lst xs) (.tup [.ty "tuple", .ty "list"]) = some true := rfl
      have t2 : isiD (.lst xs) (.ty "list") = some true := rfl
      unfold m__law_alike
      simp (config := { implicitDefEqProofs := false }) only [got_o, got_e, bind_o, bind_e, opt_s, gotO_s, guard_t, outB_nx, outB_bk, outB_ct, outB_rt, outB_er, un2_t, un2_l, un3_t, un3_l, un4_t, un4_l, noer_o, stepB_nx, stepB_ct, stepB_bk, stepB_rt, stepB_er, t1, t2, Bool.not_true, Bool.false_eq_true, if_false, if_true, is2, is5, e_lenL, e_rng1N (show xs.length < 4611686018427387904 by omega)]
      rw [lc_none fun x hx => by
        obtain ⟨k, hk, rfl⟩ := mem_range hx
        have e : (0 : Int) + (k : Nat) = (k : Nat) := by omega
        rw [e]
        simp (config := { implicitDefEqProofs := false }) only [got_o, got_e, bind_o, bind_e, opt_s, gotO_s, guard_t, outB_nx, outB_bk, outB_ct, outB_rt, outB_er, un2_t, un2_l, un3_t, un3_l, un4_t, un4_l, noer_o, stepB_nx, stepB_ct, stepB_bk, stepB_rt, stepB_er, e_lN hk, ih _ (h2 _ (List.getElem_mem hk)), e_truB, Bool.not_true, Bool.false_eq_true, if_false]]
      simp only [is7, got_o, got_e, bind_o, bind_e, opt_s, gotO_s, guard_t, outB_nx, outB_bk, outB_ct, outB_rt, outB_er, un2_t, un2_l, un3_t, un3_l, un4_t, un4_l, noer_o, stepB_nx, stepB_ct, stepB_bk, stepB_rt, stepB_er, is6]
    | tup xs =>
      obtain ⟨h1, h2⟩ := h
      have t1 : isiD (.tup xs) (.tup [.ty "tuple", .ty "list"]) = some true := rfl
      have t2 : isiD (.tup xs) (.ty "list") = some false := rfl
      unfold m__law_alike
      simp (config := { implicitDefEqProofs := false }) only [got_o, got_e, bind_o, bind_e, opt_s, gotO_s, guard_t, outB_nx, outB_bk, outB_ct, outB_rt, outB_er, un2_t, un2_l, un3_t, un3_l, un4_t, un4_l, noer_o, stepB_nx, stepB_ct, stepB_bk, stepB_rt, stepB_er, t1, t2, Bool.not_true, Bool.false_eq_true, if_false, if_true, is2, is5, e_lenT, e_rng1N (show xs.length < 4611686018427387904 by omega)]
      rw [lc_none fun x hx => by
        obtain ⟨k, hk, rfl⟩ := mem_range hx
        have e : (0 : Int) + (k : Nat) = (k : Nat) := by omega
        rw [e]
        simp (config := { implicitDefEqProofs := false }) only [got_o, got_e, bind_o, bind_e, opt_s, gotO_s, guard_t, outB_nx, outB_bk, outB_ct, outB_rt, outB_er, un2_t, un2_l, un3_t, un3_l, un4_t, un4_l, noer_o, stepB_nx, stepB_ct, stepB_bk, stepB_rt, stepB_er, e_tN hk, ih _ (h2 _ (List.getElem_mem hk)), e_truB, Bool.not_true, Bool.false_eq_true, if_false]]
      simp only [is7, got_o, got_e, bind_o, bind_e, opt_s, gotO_s, guard_t, outB_nx, outB_bk, outB_ct, outB_rt, outB_er, un2_t, un2_l, un3_t, un3_l, un4_t, un4_l, noer_o, stepB_nx, stepB_ct, stepB_bk, stepB_rt, stepB_er, is6]
    | dic kvs =>
      obtain ⟨h0, h1, h2⟩ := h
      have t1 : isiD (.dic kvs) (.tup [.ty "tuple", .ty "list"]) = some false := rfl
      have t2 : isiD (.dic kvs) (.ty "dict") = some true := rfl
      have t3 : listD (.dic kvs) = some (.lst (kvs.map fun kv => kD kv.1)) := rfl
      have t4 : iterD (.dic kvs) = some (kvs.map fun kv => kD kv.1) := rfl
      unfold m__law_alike
      simp (config := { implicitDefEqProofs := false }) only [got_o, got_e, bind_o, bind_e, opt_s, gotO_s, guard_t, outB_nx, outB_bk, outB_ct, outB_rt, outB_er, un2_t, un2_l, un3_t, un3_l, un4_t, un4_l, noer_o, stepB_nx, stepB_ct, stepB_bk, stepB_rt, stepB_er, t1, t2, t3, t4, h1, Bool.not_true, Bool.false_eq_true, if_false, if_true]
      rw [lc_none fun x hx => by
        obtain ⟨kv, hk, rfl⟩ := List.mem_map.mp hx
        obtain ⟨v, e, hv⟩ := h2 kv hk
        simp (config := { implicitDefEqProofs := false }) only [got_o, got_e, bind_o, bind_e, opt_s, gotO_s, guard_t, outB_nx, outB_bk, outB_ct, outB_rt, outB_er, un2_t, un2_l, un3_t, un3_l, un4_t, un4_l, noer_o, stepB_nx, stepB_ct, stepB_bk, stepB_rt, stepB_er, e, ih v hv, e_truB, Bool.not_true, Bool.false_eq_true, if_false]]
      simp only [is7, got_o, got_e, bind_o, bind_e, opt_s, gotO_s, guard_t, outB_nx, outB_bk, outB_ct, outB_rt, outB_er, un2_t, un2_l, un3_t, un3_l, un4_t, un4_l, noer_o, stepB_nx, stepB_ct, stepB_bk, stepB_rt, stepB_er, is6]
    | ref a => exact h.elim
    | scr ns => exact h.elim
    | ty t => exact h.elim
    | dit t => exact h.elim
theorem plain_mono : ∀ {n m : Nat} {d : D}, n ≤ m → plain n d → plain m d
  | 0, _, _, _, h => h.elim
  | n + 1, 0, _, hl, _ => absurd hl (by omega)
  | n + 1, m + 1, d, hl, h => by
    cases d with
    | lst xs => exact ⟨h.1, fun x hx => plain_mono (by omega) (h.2 x hx)⟩
    | tup xs => exact ⟨h.1, fun x hx => plain_mono (by omega) (h.2 x hx)⟩
    | dic kvs => exact ⟨h.1, h.2.1, fun kv hk => let ⟨v, e, p⟩ := h.2.2 kv hk; ⟨v, e, plain_mono (by omega) p⟩⟩
    | _ => exact h

/-- what may come instead of a right thing -/
def anyL (n : Int) : List D := [.non, .bl true, .bl false, .int n, .str "", .str "a", .str "a b", .tup [], .lst [], .dic [], .tup [.int n], .lst [.int n, .non], .dic [(.inr "a", .int n)], .tup [.int 0, .tup [.int 1]]]
def AnyD (d : D) : Prop := ∃ n : Int, d ∈ anyL n
theorem any_ok {row : List D} (hr : RowL row) : ∃ (v : D) (row' : List D), m__law_any row = .ok v (row', ()) ∧ AnyD v ∧ RowL row' := by
  unfold m__law_any
  simp (config := { implicitDefEqProofs := false }) only [got_o, got_e, bind_o, bind_e, opt_s, gotO_s, guard_t, outB_nx, outB_bk, outB_ct, outB_rt, outB_er, un2_t, un2_l, un3_t, un3_l, un4_t, un4_l, noer_o, stepB_nx, stepB_ct, stepB_bk, stepB_rt, stepB_er, e_neg, e_pow (show (0 : Int) ≤ 12 by decide) (by decide) (show (-18446744073709551616 : Int) < 10 by decide) (by decide), e_pow (show (0 : Int) ≤ 20 by decide) (by decide) (show (-18446744073709551616 : Int) < 10 by decide) (by decide), e_add]
  obtain ⟨v, r1, e1, h1, hr1⟩ := pick_ok (xs := [.int (-1), .int 0, .int 1, .int 2, .int 7, .int 255, .int 256, .int 65535, .int 65536, .int (10 ^ (12 : Int).toNat), .int (10 ^ (12 : Int).toNat + 1), .int (10 ^ (20 : Int).toNat)]) hr (by simp) (by simp)
  obtain ⟨n, rfl⟩ : ∃ n : Int, v = .int n := by
    simp only [List.mem_cons, List.not_mem_nil, or_false] at h1
    rcases h1 with h | h | h | h | h | h | h | h | h | h | h | h <;> exact ⟨_, h⟩
  have ed : dispD [(.str "a", .int n)] = some (.dic [(.inr "a", .int n)]) := rfl
  simp (config := { implicitDefEqProofs := false }) only [got_o, got_e, bind_o, bind_e, opt_s, gotO_s, guard_t, outB_nx, outB_bk, outB_ct, outB_rt, outB_er, un2_t, un2_l, un3_t, un3_l, un4_t, un4_l, noer_o, stepB_nx, stepB_ct, stepB_bk, stepB_rt, stepB_er, e1, ed]
  obtain ⟨w, r2, e2, h2, hr2⟩ := pick_ok (xs := anyL n) hr1 (by simp [anyL]) (by simp [anyL])
  unfold anyL at e2
  simp (config := { implicitDefEqProofs := false }) only [got_o, got_e, bind_o, bind_e, opt_s, gotO_s, guard_t, outB_nx, outB_bk, outB_ct, outB_rt, outB_er, un2_t, un2_l, un3_t, un3_l, un4_t, un4_l, noer_o, stepB_nx, stepB_ct, stepB_bk, stepB_rt, stepB_er, e2]
  exact ⟨w, r2, rfl, ⟨n, h2⟩, hr2⟩
theorem any_cases {P : D → Prop} {d : D} (h : AnyD d) (hp : ∀ n, ∀ x ∈ anyL n, P x) : P d := by
  obtain ⟨n, h⟩ := h
  exact hp n d h
theorem any_ty {d : D} (h : AnyD d) : (tyN d).isSome = true := any_cases (P := fun d => (tyN d).isSome = true) h fun n x hx => by
  simp only [anyL, List.mem_cons, List.not_mem_nil, or_false] at hx
  rcases hx with h | h | h | h | h | h | h | h | h | h | h | h | h | h <;> subst h <;> rfl
theorem any_plain {d : D} (h : AnyD d) : plain 4 d := any_cases (P := fun d => plain 4 d) h fun n x hx => by
  simp only [anyL, List.mem_cons, List.not_mem_nil, or_false] at hx
  rcases hx with h | h | h | h | h | h | h | h | h | h | h | h | h | h <;> subst h <;> simp [plain]
  · rfl
  · exact ⟨by decide +kernel, .int n, rfl, trivial⟩

theorem slow_ok {a b : Nat} (ha : a < 256) (hb : b < 256) : m__law_slow (.int (a : Nat)) (.int (b : Nat)) = .ok (.int (gm a b : Nat)) () := by
  unfold m__law_slow
  rw [show rng1 (.int 8) = some (rangeD 0 8) from rfl]
  simp (config := { implicitDefEqProofs := false }) only [got_o, got_e, bind_o, bind_e, opt_s, gotO_s, guard_t, outB_nx, outB_bk, outB_ct, outB_rt, outB_er, un2_t, un2_l, un3_t, un3_l, un4_t, un4_l, noer_o, stepB_nx, stepB_ct, stepB_bk, stepB_rt, stepB_er]

  rw [← slow_gm ha hb]
  have e0 : slowR 8 a b = (iterS 8 (0, a, b)).1 := by rw [iterS_slow _ _ _ _ ha]; simp
  rw [e0]
  refine nx_eq _ (loop_all (fun i (t : D × D × D × Unit) => t = (.int ((iterS i (0, a, b)).1 : Nat), .int ((iterS i (0, a, b)).2.1 : Nat), .int ((iterS i (0, a, b)).2.2 : Nat), ())) 0 rfl fun k hk t ht => ?_) (fun t h => by rw [h]; rfl)
  · subst ht
    have hl := iterS_lt (0 + k) 0 a b ha
    rw [iterS_succ]
    generalize iterS (0 + k) (0, a, b) = t at hl ⊢
    obtain ⟨f, l, m⟩ := t
    have hl : l < 256 := hl
    have em : ((m : Nat) : Int) % 2 = ((m % 2 : Nat) : Int) := by omega
    have ed : ((m : Nat) : Int) / 2 = ((m / 2 : Nat) : Int) := by omega
    have e2 : ((l : Nat) : Int) * 2 = ((l * 2 : Nat) : Int) := by omega
    simp (config := { implicitDefEqProofs := false }) only [got_o, got_e, bind_o, bind_e, opt_s, gotO_s, guard_t, outB_nx, outB_bk, outB_ct, outB_rt, outB_er, un2_t, un2_l, un3_t, un3_l, un4_t, un4_l, noer_o, stepB_nx, stepB_ct, stepB_bk, stepB_rt, stepB_er, e_int, e_mod (show (0 : Int) < 2 by decide), e_eqI, em, e_fdiv (show (0 : Int) < 2 by decide) (by decide), ed, e_mulR (show (-18446744073709551616 : Int) < 2 by decide) (by decide), e2, e_gt, e_xor, xor_pp, e_sub]
    by_cases c : m % 2 = 1
    · have c1 : ((m % 2 : Nat) : Int) = 1 := by omega
      simp (config := { implicitDefEqProofs := false }) only [got_o, got_e, bind_o, bind_e, opt_s, gotO_s, guard_t, outB_nx, outB_bk, outB_ct, outB_rt, outB_er, un2_t, un2_l, un3_t, un3_l, un4_t, un4_l, noer_o, stepB_nx, stepB_ct, stepB_bk, stepB_rt, stepB_er, c1, decide_true, if_true]
      by_cases c2 : 255 < l * 2
      · have c3 : (255 : Int) < ((l * 2 : Nat) : Int) := by omega
        have c4 : ((l * 2 : Nat) : Int) - 256 = ((l * 2 - 256 : Nat) : Int) := by omega

        simp (config := { implicitDefEqProofs := false }) only [got_o, got_e, bind_o, bind_e, opt_s, gotO_s, guard_t, outB_nx, outB_bk, outB_ct, outB_rt, outB_er, un2_t, un2_l, un3_t, un3_l, un4_t, un4_l, noer_o, stepB_nx, stepB_ct, stepB_bk, stepB_rt, stepB_er, c3, decide_true, if_true, c4]
        rw [show (27 : Int) = ((27 : Nat) : Int) from rfl, xor_pp]
        simp [Go, stepS, c, c2]
      · have c3 : ¬ (255 : Int) < ((l * 2 : Nat) : Int) := by omega
        simp (config := { implicitDefEqProofs := false }) only [got_o, got_e, bind_o, bind_e, opt_s, gotO_s, guard_t, outB_nx, outB_bk, outB_ct, outB_rt, outB_er, un2_t, un2_l, un3_t, un3_l, un4_t, un4_l, noer_o, stepB_nx, stepB_ct, stepB_bk, stepB_rt, stepB_er, c3, decide_false, Bool.false_eq_true, if_false]
        simp [Go, stepS, c, c2]
    · have c1 : ¬ ((m % 2 : Nat) : Int) = 1 := by omega
      simp (config := { implicitDefEqProofs := false }) only [got_o, got_e, bind_o, bind_e, opt_s, gotO_s, guard_t, outB_nx, outB_bk, outB_ct, outB_rt, outB_er, un2_t, un2_l, un3_t, un3_l, un4_t, un4_l, noer_o, stepB_nx, stepB_ct, stepB_bk, stepB_rt, stepB_er, c1, decide_false, Bool.false_eq_true, if_false]
      by_cases c2 : 255 < l * 2
      · have c3 : (255 : Int) < ((l * 2 : Nat) : Int) := by omega
        have c4 : ((l * 2 : Nat) : Int) - 256 = ((l * 2 - 256 : Nat) : Int) := by omega
        simp (config := { implicitDefEqProofs := false }) only [got_o, got_e, bind_o, bind_e, opt_s, gotO_s, guard_t, outB_nx, outB_bk, outB_ct, outB_rt, outB_er, un2_t, un2_l, un3_t, un3_l, un4_t, un4_l, noer_o, stepB_nx, stepB_ct, stepB_bk, stepB_rt, stepB_er, c3, decide_true, if_true, c4]
        rw [show (27 : Int) = ((27 : Nat) : Int) from rfl, xor_pp]
        simp [Go, stepS, c, c2]
      · have c3 : ¬ (255 : Int) < ((l * 2 : Nat) : Int) := by omega
        simp (config := { implicitDefEqProofs := false }) only [got_o, got_e, bind_o, bind_e, opt_s, gotO_s, guard_t, outB_nx, outB_bk, outB_ct, outB_rt, outB_er, un2_t, un2_l, un3_t, un3_l, un4_t, un4_l, noer_o, stepB_nx, stepB_ct, stepB_bk, stepB_rt, stepB_er, c3, decide_false, Bool.false_eq_true, if_false]
        simp [Go, stepS, c, c2]

theorem law_value_ok (cs : List GF) (t : GF) : m__law_value (.lst (cs.map gd)) (gd t) = .ok (gd (gh t cs.reverse)) () := by
  unfold m__law_value
  rw [e_iterL]
  simp (config := { implicitDefEqProofs := false }) only [got_o, got_e, bind_o, bind_e, opt_s, gotO_s, guard_t, outB_nx, outB_bk, outB_ct, outB_rt, outB_er, un2_t, un2_l, un3_t, un3_l, un4_t, un4_l, noer_o, stepB_nx, stepB_ct, stepB_bk, stepB_rt, stepB_er]
  refine nx_eq _ (loop_all (fun n (s : D × Unit) => s = (gd (gh t (cs.take n).reverse), ())) 0 rfl fun k hk s hs => ?_) fun s hs => ?_
  · subst hs
    have hk' : k < cs.length := by simpa using hk
    rw [List.getElem_map, Nat.zero_add, take_next hk', List.reverse_append]
    have e1 : m__law_slow (gd (gh t (cs.take k).reverse)) (gd t) = .ok (gd (gp (gh t (cs.take k).reverse) t)) () := slow_ok (GF.h _) t.h
    simp (config := { implicitDefEqProofs := false }) only [got_o, got_e, bind_o, bind_e, opt_s, gotO_s, guard_t, outB_nx, outB_bk, outB_ct, outB_rt, outB_er, un2_t, un2_l, un3_t, un3_l, un4_t, un4_l, noer_o, stepB_nx, stepB_ct, stepB_bk, stepB_rt, stepB_er, e1, xor_gf]
    rfl
  · rw [hs, List.length_map, Nat.zero_add, List.take_length]

theorem law_is_octet_ok {d : D} (h : (tyN d).isSome = true) : m__law_is_octet d = .ok (.bl (octB d)) () := by
  unfold m__law_is_octet
  cases d <;> first | (cases h; done) | rfl | skip
  rename_i i
  simp (config := { implicitDefEqProofs := false }) only [got_o, got_e, bind_o, bind_e, opt_s, gotO_s, guard_t, outB_nx, outB_bk, outB_ct, outB_rt, outB_er, un2_t, un2_l, un3_t, un3_l, un4_t, un4_l, noer_o, stepB_nx, stepB_ct, stepB_bk, stepB_rt, stepB_er, e_isI_int, e_isB_int, Bool.not_false, e_le, if_true]
  by_cases c : 0 ≤ i <;> by_cases c' : i ≤ 255 <;> simp [octB, c, c', got, KM.bind]

/-- what is due of points at a place -/
def dueP (p place : D) : D := match itemsD p with
  | none => .tup [.int 0, .int (-1)]
  | some ps => if 1 ≤ ps.length ∧ ps.length ≤ 12 then (match firstBad ps with | some k => .tup [.int 0, .int (k : Nat)] | none => if octB place then .non else .tup [.int 1, place]) else .tup [.int 0, .int (-1)]
theorem told_0 {p place : D} {k : Int} (h : m_value_at p place = refuse k) : m__law_told p place = .ok (.tup [.int 0, .int k]) () := by
  unfold m__law_told
  rw [h]; rfl
theorem told_1 {p place x : D} (h : m_value_at p place = .er "BadOctet" [("value", x)] ()) : m__law_told p place = .ok (.tup [.int 1, x]) () := by
  unfold m__law_told
  rw [h]; rfl
theorem told_v {p place x : D} (h : m_value_at p place = .ok x ()) : m__law_told p place = .ok (.lst [x]) () := by
  unfold m__law_told
  rw [h]; rfl
theorem told_ok {p place : D} (hp : (tyN p).isSome = true) (hE : ∀ xs, itemsD p = some xs → ∀ e ∈ xs, OkE e) (hq : (tyN place).isSome = true) :
    (dueP p place ≠ .non ∧ m__law_told p place = .ok (dueP p place) ()) ∨ (dueP p place = .non ∧ ∃ (l : List (GF × GF)) (t : GF), itemsD p = some (l.map ptD) ∧ place = gd t ∧ (l.map (·.1)).Nodup ∧ m__law_told p place = .ok (.lst [gd (valP l t)]) ()) := by
  have hc := check_points_ok hp hE
  unfold dueP
  cases hi : itemsD p with
  | none =>
    rw [hi] at hc
    exact .inl ⟨by simp, told_0 (value_at_er hc)⟩
  | some ps =>
    rw [hi] at hc
    dsimp only at hc ⊢
    by_cases c : 1 ≤ ps.length ∧ ps.length ≤ 12
    · rw [if_pos c] at hc ⊢
      cases hb : firstBad ps with
      | some k =>
        rw [hb] at hc
        exact .inl ⟨by simp, told_0 (value_at_er hc)⟩
      | none =>
        rw [hb] at hc
        cases ho : octB place with
        | false => exact .inl ⟨by simp, told_1 (value_at_er2 hc hq ho)⟩
        | true =>
          obtain ⟨n, rfl, hn⟩ := oct_nat ho
          obtain ⟨l, rfl, hl⟩ := points_ex hb
          refine .inr ⟨rfl, l, ⟨n, hn⟩, rfl, rfl, hl, told_v (value_at_ok (by cases p <;> first | exact hi | cases hi) hc hl (by rw [List.length_map] at c; omega) ⟨n, hn⟩)⟩
    · rw [if_neg c] at hc ⊢
      exact .inl ⟨by simp, told_0 (value_at_er hc)⟩
theorem cut_take {xs : List D} {k : Nat} (h : k ≤ xs.length) : KD.cutD xs none (some ((k : Nat) : Int)) = xs.take k := by
  unfold KD.cutD HT.sIx
  have c : ¬ ((k : Nat) : Int) < 0 := by omega
  simp [c]
  all_goals first | done | (congr 1; omega)
theorem law_due_ok {p place : D} (hp : (tyN p).isSome = true) (hE : ∀ xs, itemsD p = some xs → ∀ e ∈ xs, OkE e) (hq : (tyN place).isSome = true) : m__law_due p place = .ok (dueP p place) () := by
  have main : ∀ ps : List D, (∀ e ∈ ps, OkE e) → (p = .lst ps ∨ p = .tup ps) → m__law_due p place = .ok (dueP p place) () := fun ps hE h => by
    have e0 : isiD p (.tup [.ty "list", .ty "tuple"]) = some true := by rcases h with rfl | rfl <;> rfl
    have e2 : lenD p = some (.int ps.length) := by rcases h with rfl | rfl <;> rfl
    have e3 : itemsD p = some ps := by rcases h with rfl | rfl <;> rfl
    have e4 : ∀ k (hk : k < ps.length), ixD p (.int (k : Nat)) = some ps[k] := fun k hk => by rcases h with rfl | rfl; exact e_lN hk; exact e_tN hk
    have e5 : ∀ k, k ≤ ps.length → ∃ q, slD p none (some ((k : Nat) : Int)) = some q ∧ iterD q = some (ps.take k) := fun k hk => by
      rcases h with rfl | rfl
      · exact ⟨_, rfl, by show some (KD.cutD ps none (some ((k : Nat) : Int))) = _; rw [cut_take hk]⟩
      · exact ⟨_, rfl, by show some (KD.cutD ps none (some ((k : Nat) : Int))) = _; rw [cut_take hk]⟩
    unfold m__law_due dueP
    rw [e3]
    simp (config := { implicitDefEqProofs := false }) only [got_o, got_e, bind_o, bind_e, opt_s, gotO_s, guard_t, outB_nx, outB_bk, outB_ct, outB_rt, outB_er, un2_t, un2_l, un3_t, un3_l, un4_t, un4_l, noer_o, stepB_nx, stepB_ct, stepB_bk, stepB_rt, stepB_er, e0, e2, Bool.not_true, Bool.false_eq_true, if_false, e_le, e_neg]
    by_cases c : 1 ≤ ps.length ∧ ps.length ≤ 12
    · have c1 : (1 : Int) ≤ (ps.length : Nat) := by omega
      have c2 : ((ps.length : Nat) : Int) ≤ 12 := by omega
      rw [if_pos c]
      simp (config := { implicitDefEqProofs := false }) only [got_o, got_e, bind_o, bind_e, opt_s, gotO_s, guard_t, outB_nx, outB_bk, outB_ct, outB_rt, outB_er, un2_t, un2_l, un3_t, un3_l, un4_t, un4_l, noer_o, stepB_nx, stepB_ct, stepB_bk, stepB_rt, stepB_er, c1, c2, decide_true, if_true, Bool.not_true, Bool.false_eq_true, if_false, e_rng1N (show ps.length < 4611686018427387904 by omega)]
      refine find_eq (fun _ => ()) (badP ps) (fun k => .rt (.tup [.int 0, .int (k : Nat)]) ()) (fun _ _ => rfl) (fun k hk hj => ?_) ?_
      · have hk' : k < ps.length := by simpa [rangeD] using hk
        rw [range_get, show (0 : Int) + (k : Nat) = (k : Nat) by omega]
        have ok := hE _ (List.getElem_mem hk')
        simp (config := { implicitDefEqProofs := false }) only [got_o, got_e, bind_o, bind_e, opt_s, gotO_s, guard_t, outB_nx, outB_bk, outB_ct, outB_rt, outB_er, un2_t, un2_l, un3_t, un3_l, un4_t, un4_l, noer_o, stepB_nx, stepB_ct, stepB_bk, stepB_rt, stepB_er, e4 k hk']
        have hb : badP ps k = (!ptB ps[k] || inF (headD ps[k]) ((ps.take k).map headD)) := by unfold badP; rw [getD_at hk']
        rw [hb]
        have fl := heads_flat (by omega) hj
        obtain ⟨q, hq1, hq2⟩ := e5 k (by omega)
        have hm : mapR (fun x492 => noer (opt (ixD x492 (D.int 0)))) (ps.take k) = .ok ((ps.take k).map headD) () := mapR_ok fun x hx => by
          obtain ⟨j, hj1, rfl⟩ := List.mem_iff_getElem.mp hx
          have hj2 : j < k := by rw [List.length_take] at hj1; omega
          have := hj j hj2
          unfold badP at this
          rw [Bool.or_eq_false_iff, getD_at (by omega)] at this
          obtain ⟨a, b, e1, _⟩ := pt_ex (by simpa using this.1)
          rw [List.getElem_take, e1]; rfl
        generalize ps[k] = e at ok
        have i1 : intOf (.int (k : Nat)) = some ((k : Nat) : Int) := rfl
        cases e with
        | tup xs =>
          have t1 : isiD (.tup xs) (.ty "tuple") = some true := rfl
          match xs, ok with
          | [], _ => rfl
          | [x], _ => rfl
          | [x, y], ok =>
            have hx := ok.2 _ rfl x (by simp)
            have hy := ok.2 _ rfl y (by simp)
            have c : (([x, y] : List D).length : Int) = 2 := rfl
            have e6 : headD (.tup [x, y]) = x := rfl
            rw [e6]
            simp (config := { implicitDefEqProofs := false }) only [got_o, got_e, bind_o, bind_e, opt_s, gotO_s, guard_t, outB_nx, outB_bk, outB_ct, outB_rt, outB_er, un2_t, un2_l, un3_t, un3_l, un4_t, un4_l, noer_o, stepB_nx, stepB_ct, stepB_bk, stepB_rt, stepB_er, t1, Bool.not_true, Bool.false_eq_true, if_false, e_lenT, e_neI, c, decide_true, e_t0, e_t1 (x := x), law_is_octet_ok hx, law_is_octet_ok hy, e_truB, ptB]
            rcases Bool.eq_false_or_eq_true (octB x) with h1 | h1
            · rcases Bool.eq_false_or_eq_true (octB y) with h2 | h2
              · obtain ⟨a, rfl, _⟩ := oct_nat h1
                simp (config := { implicitDefEqProofs := false }) only [got_o, got_e, bind_o, bind_e, opt_s, gotO_s, guard_t, outB_nx, outB_bk, outB_ct, outB_rt, outB_er, un2_t, un2_l, un3_t, un3_l, un4_t, un4_l, noer_o, stepB_nx, stepB_ct, stepB_bk, stepB_rt, stepB_er, h1, h2, Bool.not_true, Bool.false_eq_true, if_false, i1, hq1, hq2, hm, chkR_ok (show ((ps.take k).map headD).length ≤ 16777216 by rw [List.length_map, List.length_take]; omega), in_flat (x := .int (a : Nat)) rfl fl, Bool.and_self, Bool.false_or]
              · simp (config := { implicitDefEqProofs := false }) only [got_o, got_e, bind_o, bind_e, opt_s, gotO_s, guard_t, outB_nx, outB_bk, outB_ct, outB_rt, outB_er, un2_t, un2_l, un3_t, un3_l, un4_t, un4_l, noer_o, stepB_nx, stepB_ct, stepB_bk, stepB_rt, stepB_er, h1, h2, Bool.not_true, Bool.not_false, Bool.false_eq_true, if_false, if_true, Bool.and_false, Bool.true_or]
            · simp (config := { implicitDefEqProofs := false }) only [got_o, got_e, bind_o, bind_e, opt_s, gotO_s, guard_t, outB_nx, outB_bk, outB_ct, outB_rt, outB_er, un2_t, un2_l, un3_t, un3_l, un4_t, un4_l, noer_o, stepB_nx, stepB_ct, stepB_bk, stepB_rt, stepB_er, h1, Bool.not_false, if_true, Bool.false_and, Bool.true_or]
          | x :: y :: z :: l, _ =>
            have c : ¬ ((x :: y :: z :: l : List D).length : Int) = 2 := by simp only [List.length_cons]; omega
            simp (config := { implicitDefEqProofs := false }) only [got_o, got_e, bind_o, bind_e, opt_s, gotO_s, guard_t, outB_nx, outB_bk, outB_ct, outB_rt, outB_er, un2_t, un2_l, un3_t, un3_l, un4_t, un4_l, noer_o, stepB_nx, stepB_ct, stepB_bk, stepB_rt, stepB_er, t1, Bool.not_true, Bool.false_eq_true, if_false, if_true, e_lenT, e_neI, c, decide_false, Bool.not_false, ptB, Bool.true_or]
        | ref a => cases ok.1
        | scr ns => cases ok.1
        | ty t => cases ok.1
        | dit t => cases ok.1
        | _ => rfl
      · rw [range_len]
        show outB (match firstBad ps with | some k => _ | none => _) _ _ _ _ _ _ = _
        cases firstBad ps with
        | some k => rfl
        | none =>
          simp (config := { implicitDefEqProofs := false }) only [got_o, got_e, bind_o, bind_e, opt_s, gotO_s, guard_t, outB_nx, outB_bk, outB_ct, outB_rt, outB_er, un2_t, un2_l, un3_t, un3_l, un4_t, un4_l, noer_o, stepB_nx, stepB_ct, stepB_bk, stepB_rt, stepB_er, law_is_octet_ok hq, e_truB]
          cases octB place <;> rfl
    · rw [if_neg c]
      by_cases c1 : (1 : Int) ≤ (ps.length : Nat)
      · have c2 : ¬ ((ps.length : Nat) : Int) ≤ 12 := by omega
        simp (config := { implicitDefEqProofs := false }) only [got_o, got_e, bind_o, bind_e, opt_s, gotO_s, guard_t, outB_nx, outB_bk, outB_ct, outB_rt, outB_er, un2_t, un2_l, un3_t, un3_l, un4_t, un4_l, noer_o, stepB_nx, stepB_ct, stepB_bk, stepB_rt, stepB_er, c1, c2, decide_true, decide_false, if_true, Bool.not_false]
      · simp (config := { implicitDefEqProofs := false }) only [got_o, got_e, bind_o, bind_e, opt_s, gotO_s, guard_t, outB_nx, outB_bk, outB_ct, outB_rt, outB_er, un2_t, un2_l, un3_t, un3_l, un4_t, un4_l, noer_o, stepB_nx, stepB_ct, stepB_bk, stepB_rt, stepB_er, c1, decide_false, Bool.false_eq_true, if_false, Bool.not_false, if_true]
  cases p with
  | lst ps => exact main ps (hE ps rfl) (.inl rfl)
  | tup ps => exact main ps (hE ps rfl) (.inr rfl)
  | ref a => cases hp
  | scr ns => cases hp
  | ty t => cases hp
  | dit t => cases hp
  | _ => rfl
theorem alike_ii (n : Nat) (i j : Int) : m__law_alike (n + 1) (.int i) (.int j) = .ok (.bl (decide (i = j))) () := by
  unfold m__law_alike
  simp (config := { implicitDefEqProofs := false }) only [got_o, got_e, bind_o, bind_e, opt_s, gotO_s, guard_t, outB_nx, outB_bk, outB_ct, outB_rt, outB_er, un2_t, un2_l, un3_t, un3_l, un4_t, un4_l, noer_o, stepB_nx, stepB_ct, stepB_bk, stepB_rt, stepB_er, e_isTL_int, e_isD_int, e_isS_int, e_isI_int, e_isB_int, Bool.false_eq_true, if_false, if_true, KD.isNon, show eqC (.bl false) (.bl false) = some true from rfl, e_eqI]
theorem alike_l1 (n : Nat) (i j : Int) : m__law_alike (n + 2) (.lst [.int i]) (.lst [.int j]) = .ok (.bl (decide (i = j))) () := by
  have t1 : ∀ xs : List D, isiD (.lst xs) (.tup [.ty "tuple", .ty "list"]) = some true := fun _ => rfl
  have t2 : ∀ xs : List D, isiD (.lst xs) (.ty "list") = some true := fun _ => rfl
  have r1 : rng1 (.int 1) = some [.int 0] := by rw [e_rng1 (by decide) (by decide)]; rfl
  have li : ∀ x : D, (([x] : List D).length : Int) = 1 := fun _ => rfl
  have is2 : ∀ b : Bool, neC (.bl b) (.bl b) = some false := fun b => by rw [e_neB]; simp
  have is5 : ∀ i : Int, neC (.int i) (.int i) = some false := fun i => by rw [e_neI]; simp
  unfold m__law_alike
  simp (config := { implicitDefEqProofs := false }) only [got_o, got_e, bind_o, bind_e, opt_s, gotO_s, guard_t, outB_nx, outB_bk, outB_ct, outB_rt, outB_er, un2_t, un2_l, un3_t, un3_l, un4_t, un4_l, noer_o, stepB_nx, stepB_ct, stepB_bk, stepB_rt, stepB_er, t1, t2, Bool.not_true, Bool.false_eq_true, if_false, if_true, is2, is5, e_lenL, li, r1, lcR, e_l0, alike_ii, e_truB]
  by_cases c : i = j
  · simp only [c, decide_true, Bool.not_true, Bool.false_eq_true, if_false, got_o, got_e, bind_o, bind_e, opt_s, gotO_s, guard_t, outB_nx, outB_bk, outB_ct, outB_rt, outB_er, un2_t, un2_l, un3_t, un3_l, un4_t, un4_l, noer_o, stepB_nx, stepB_ct, stepB_bk, stepB_rt, stepB_er]; rfl
  · simp only [c, decide_false, Bool.not_false, if_true, got_o, got_e, bind_o, bind_e, opt_s, gotO_s, guard_t, outB_nx, outB_bk, outB_ct, outB_rt, outB_er, un2_t, un2_l, un3_t, un3_l, un4_t, un4_l, noer_o, stepB_nx, stepB_ct, stepB_bk, stepB_rt, stepB_er]; rfl
theorem ne_self {xs : List D} (h : plD 64 (.lst xs) = true) : neC (.lst xs) (.lst xs) = some false := by
  have e : eqC (.lst xs) (.lst xs) = some true := by
    cases xs with
    | nil => rfl
    | cons x l =>
      show (if plD 64 (.lst (x :: l)) = true ∧ plD 64 (.lst (x :: l)) = true then some (eqD (.lst (x :: l)) (.lst (x :: l))) else _) = _
      rw [if_pos ⟨h, h⟩, eqD_refl 64 _ h]
  unfold neC
  rw [e]; rfl
theorem pts_plain (l : List (GF × GF)) : plD 64 (.lst (l.map ptD)) = true := by
  show plDL 63 _ = true
  refine plDL_all fun x hx => ?_
  obtain ⟨q, _, rfl⟩ := List.mem_map.mp hx
  rfl
/-- distinct ones that all stand in a list are not more than it holds -/
theorem nodup_len {α : Type} [DecidableEq α] : ∀ {l m : List α}, l.Nodup → (∀ x ∈ l, x ∈ m) → l.length ≤ m.length
  | [], _, _, _ => by simp
  | x :: l, m, h, hs => by
    rw [List.nodup_cons] at h
    have hx := hs x (by simp)
    have := nodup_len (m := m.erase x) h.2 fun y hy => (List.mem_erase_of_ne (fun e => h.1 (by rw [← e]; exact hy))).mpr (hs y (by simp [hy]))
    rw [List.length_erase_of_mem hx] at this
    have := List.length_pos_of_mem hx
    rw [List.length_cons]; omega
instance : DecidableEq GF := fun a b => if e : a.v = b.v then isTrue (GF.ext e) else isFalse fun h => e (by rw [h])
theorem inF_gd {x : GF} {L : List GF} : inF (gd x) (L.map gd) = decide (x ∈ L) := by
  unfold inF
  rw [List.any_map]
  by_cases c : x ∈ L
  · rw [decide_eq_true c, List.any_eq_true]
    exact ⟨x, c, by show ((x.v : Int) == (x.v : Int)) = true; simp⟩
  · rw [decide_eq_false c, List.any_eq_false]
    intro y hy e
    refine c ?_
    have e : ((y.v : Int) == (x.v : Int)) = true := e
    rw [beq_iff_eq] at e
    rw [show x = y from GF.ext (by omega)]
    exact hy
/-- one of thirteen stands not among fewer -/
theorem pick13 {L : List GF} (hl : L.length < 13) : ∃ (a : GF) (ys : List D), ((rangeD 0 13).filterMap fun x => if inF x (L.map gd) then none else some x) = gd a :: ys ∧ a ∉ L := by
  let f : Nat → GF := fun j => ⟨j % 256, Nat.mod_lt _ (by decide)⟩
  have ex : ∃ j, j < 13 ∧ f j ∉ L := Classical.byContradiction fun h => by
    have h1 : ∀ x ∈ (List.range 13).map f, x ∈ L := fun x hx => by
      obtain ⟨j, hj, rfl⟩ := List.mem_map.mp hx
      exact Classical.byContradiction fun c => h ⟨j, by simpa using hj, c⟩
    have h2 : ((List.range 13).map f).Nodup := by decide
    have := nodup_len h2 h1
    rw [List.length_map, List.length_range] at this
    omega
  obtain ⟨j, hj, hn⟩ := ex
  have gj : ∀ j, j < 13 → (D.int (0 + (j : Nat)) : D) = gd (f j) := fun j hj => by
    show D.int _ = D.int (((j % 256 : Nat) : Nat) : Int)
    congr 1; omega
  have mem : D.int (0 + (j : Nat)) ∈ (rangeD 0 13).filterMap fun x => if inF x (L.map gd) then none else some x := by
    rw [List.mem_filterMap]
    exact ⟨D.int (0 + (j : Nat)), List.mem_map.mpr ⟨j, by simpa using hj, rfl⟩, by rw [gj j hj, inF_gd, decide_eq_false hn]; rfl⟩
  cases hc : (rangeD 0 13).filterMap fun x => if inF x (L.map gd) then none else some x with
  | nil => rw [hc] at mem; cases mem
  | cons y ys =>
    have hy : y ∈ (rangeD 0 13).filterMap fun x => if inF x (L.map gd) then none else some x := by rw [hc]; simp
    obtain ⟨x, hx, e⟩ := List.mem_filterMap.mp hy
    obtain ⟨i, hi, rfl⟩ := mem_range hx
    rw [gj i hi, inF_gd] at e
    by_cases c : f i ∈ L
    · rw [decide_eq_true c] at e; cases e
    · rw [decide_eq_false c] at e
      cases e
      exact ⟨f i, ys, rfl, c⟩
theorem good_pts {l : List (GF × GF)} (h : (l.map (·.1)).Nodup) : firstBad (l.map ptD) = none := by
  unfold firstBad
  rw [List.find?_eq_none]
  intro k hk
  have hk : k < l.length := by simpa using hk
  unfold badP
  rw [getD_at (by simpa using hk), List.getElem_map]
  have h1 : ptB (ptD l[k]) = true := by
    show (octB (gd _) && octB (gd _)) = true
    rw [Bool.and_eq_true]; exact ⟨nat_oct (GF.h _), nat_oct (GF.h _)⟩
  have h2 : ((l.map ptD).take k).map headD = ((l.take k).map (·.1)).map gd := by
    rw [← List.map_take, List.map_map, List.map_map]; rfl
  rw [h1, h2]
  show ¬ (false || inF (gd l[k].1) (((l.take k).map (·.1)).map gd)) = true
  rw [Bool.false_or, inF_gd]
  simp only [decide_eq_true_eq]
  intro hm
  obtain ⟨q, hq, e⟩ := List.mem_map.mp hm
  obtain ⟨j, hj, rfl⟩ := List.mem_iff_getElem.mp hq
  have hj' : j < k := by rw [List.length_take] at hj; omega
  rw [List.getElem_take] at e
  have := List.pairwise_iff_getElem.mp h j k (by rw [List.length_map]; omega) (by rw [List.length_map]; omega) hj'
  rw [List.getElem_map, List.getElem_map] at this
  exact this e
theorem given_ok {l : List (GF × GF)} {p : D} (hp : p = .lst (l.map ptD) ∨ p = .tup (l.map ptD)) : (tyN p).isSome = true ∧ itemsD p = some (l.map ptD) ∧ iterD p = some (l.map ptD) ∧ ∀ xs, itemsD p = some xs → ∀ e ∈ xs, OkE e := by
  have key : ∀ e ∈ l.map ptD, OkE e := fun e he => by
    obtain ⟨q, _, rfl⟩ := List.mem_map.mp he
    refine ⟨rfl, fun xs hx x hxm => ?_⟩
    cases hx
    simp only [List.mem_cons, List.not_mem_nil, or_false] at hxm
    rcases hxm with h | h <;> subst h <;> rfl
  rcases hp with rfl | rfl
  · exact ⟨rfl, rfl, rfl, fun xs h => by cases h; exact key⟩
  · exact ⟨rfl, rfl, rfl, fun xs h => by cases h; exact key⟩
theorem told_good {l : List (GF × GF)} {p : D} (hp : p = .lst (l.map ptD) ∨ p = .tup (l.map ptD)) (hn : (l.map (·.1)).Nodup) (h1 : 1 ≤ l.length) (h2 : l.length ≤ 12) (t : GF) : m__law_told p (gd t) = .ok (.lst [gd (valP l t)]) () := by
  obtain ⟨a, b, c, d⟩ := given_ok hp
  have := check_points_ok a d
  rw [b] at this
  dsimp only at this
  rw [if_pos (by rw [List.length_map]; exact ⟨h1, h2⟩), good_pts hn] at this
  exact told_v (value_at_ok c this hn h2 t)
theorem val_curve {L cs : List GF} (hn : L.Nodup) (h0 : 1 ≤ L.length) (hl : cs.length ≤ L.length) (t : GF) : valP (L.map fun x => (x, gh x cs)) t = gh t cs := by
  unfold valP
  rw [gs_map, List.map_map]
  have e : ((fun p : GF × GF => p.1) ∘ fun x => (x, gh x cs)) = id := rfl
  rw [e, List.map_id]
  exact lagrange (by intro c; rw [c] at h0; simp at h0) hn cs hl t
/-- what is tried in the end -/
def GoodB (pts : List (GF × GF)) (kd : Int) (b : D) : Prop := (tyN b).isSome = true ∧ (∀ xs, itemsD b = some xs → ∀ e ∈ xs, OkE e) ∧ (2 < kd → b = .lst (pts.map ptD))
theorem okE_any {d : D} (h : AnyD d) : OkE d := any_cases (P := fun d => OkE d) h fun n x hx => by
  simp only [anyL, List.mem_cons, List.not_mem_nil, or_false] at hx
  rcases hx with h | h | h | h | h | h | h | h | h | h | h | h | h | h <;> subst h <;> refine ⟨rfl, fun xs e => ?_⟩ <;> cases e <;> simp [tyN]
theorem okE_pt (q : GF × GF) : OkE (ptD q) := (given_ok (l := [q]) (p := .lst [ptD q]) (.inl rfl)).2.2.2 _ rfl _ (by simp)
theorem due_plain {p place : D} (h : plain 4 place) : plain 12 (dueP p place) := by
  have h2 : ∀ i j : Int, plain 12 (.tup [.int i, .int j]) := fun i j => ⟨by simp, fun x hx => by
    simp only [List.mem_cons, List.not_mem_nil, or_false] at hx
    rcases hx with h | h <;> subst h <;> trivial⟩
  have h3 : plain 12 (.tup [.int 1, place]) := ⟨by simp, fun x hx => by
    simp only [List.mem_cons, List.not_mem_nil, or_false] at hx
    rcases hx with h' | h' <;> subst h'
    · trivial
    · exact plain_mono (by decide) h⟩
  unfold dueP
  repeat' split
  all_goals first | exact h2 _ _ | exact h3 | trivial
theorem isNon_no {d : D} (h : d ≠ .non) : KD.isNon d = false := by cases d <;> first | exact absurd rfl h | rfl
theorem ptD_inj : ∀ {l m : List (GF × GF)}, l.map ptD = m.map ptD → l = m
  | [], [], _ => rfl
  | [], _ :: _, h => by cases h
  | _ :: _, [], h => by cases h
  | (a, b) :: l, (c, d) :: m, h => by
    rw [List.map_cons, List.map_cons, List.cons.injEq] at h
    have h1 : [gd a, gd b] = [gd c, gd d] := D.tup.inj h.1
    rw [List.cons.injEq, List.cons.injEq] at h1
    rw [gd_inj h1.1, gd_inj h1.2.1, ptD_inj h.2]
abbrev RowT (t : List D × Unit) : Prop := RowL t.1
theorem gd_of {v : Int} (h0 : 0 ≤ v) (h1 : v < 256) : ∃ a : GF, (.int v : D) = gd a := ⟨⟨v.toNat, by omega⟩, by
  show D.int v = D.int ((v.toNat : Nat) : Int)
  congr 1; omega⟩
theorem mem_gd {L : List D} (h : ∀ y ∈ L, ∃ a : GF, y = gd a) : ∃ l : List GF, L = l.map gd := by
  induction L with
  | nil => exact ⟨[], rfl⟩
  | cons x L ih =>
    obtain ⟨a, rfl⟩ := h x (by simp)
    obtain ⟨l, rfl⟩ := ih fun y hy => h y (by simp [hy])
    exact ⟨a :: l, rfl⟩
theorem law_ok (ns : List Int) (hn : ns.length ≤ 63) : m_law (.scr ns) = .ok (.bl true) () := by
  unfold m_law
  rw [show rng1 (.int 4) = some (rangeD 0 4) by rw [e_rng1 (by decide) (by decide)]; rfl]
  simp (config := { implicitDefEqProofs := false }) only [got_o, got_e, bind_o, bind_e, opt_s, gotO_s, guard_t, outB_nx, outB_bk, outB_ct, outB_rt, outB_er, un2_t, un2_l, un3_t, un3_l, un4_t, un4_l, noer_o, stepB_nx, stepB_ct, stepB_bk, stepB_rt, stepB_er]
  refine nx_eq _ (loop_inv RowT (row_start (by decide) (by decide)) fun x hx t hr => ?_) (fun t h => rfl)
  obtain ⟨row, ⟨⟩⟩ := t
  have hr : RowL row := hr
  refine ok_go (fun d t => RowT t ∧ ∃ M : Nat, d = .int (M : Nat) ∧ 1 ≤ M ∧ M ≤ 12) ?_ fun d t ht => ?_
  · obtain ⟨v, r1, e1, _, _, hr1⟩ := taken_ok (m := 4) hr (by decide) (by decide)
    simp (config := { implicitDefEqProofs := false }) only [got_o, got_e, bind_o, bind_e, opt_s, gotO_s, guard_t, outB_nx, outB_bk, outB_ct, outB_rt, outB_er, un2_t, un2_l, un3_t, un3_l, un4_t, un4_l, noer_o, stepB_nx, stepB_ct, stepB_bk, stepB_rt, stepB_er, e1, e_gt]
    by_cases c : 0 < v
    · obtain ⟨v2, r2, e2, h3, h4, hr2⟩ := taken_ok (m := 5) hr1 (by decide) (by decide)
      simp (config := { implicitDefEqProofs := false }) only [got_o, got_e, bind_o, bind_e, opt_s, gotO_s, guard_t, outB_nx, outB_bk, outB_ct, outB_rt, outB_er, un2_t, un2_l, un3_t, un3_l, un4_t, un4_l, noer_o, stepB_nx, stepB_ct, stepB_bk, stepB_rt, stepB_er, c, decide_true, if_true, e2, e_add]
      exact ⟨hr2, (1 + v2).toNat, by congr 1; omega, by omega, by omega⟩
    · obtain ⟨v2, r2, e2, h3, h4, hr2⟩ := taken_ok (m := 12) hr1 (by decide) (by decide)
      simp (config := { implicitDefEqProofs := false }) only [got_o, got_e, bind_o, bind_e, opt_s, gotO_s, guard_t, outB_nx, outB_bk, outB_ct, outB_rt, outB_er, un2_t, un2_l, un3_t, un3_l, un4_t, un4_l, noer_o, stepB_nx, stepB_ct, stepB_bk, stepB_rt, stepB_er, c, decide_false, Bool.false_eq_true, if_false, e2, e_add]
      exact ⟨hr2, (1 + v2).toNat, by congr 1; omega, by omega, by omega⟩
  obtain ⟨hr1, M, rfl, hM1, hM2⟩ := ht
  obtain ⟨r1, ⟨⟩⟩ := t
  have hr1 : RowL r1 := hr1
  refine ok_go (fun d t => RowT t ∧ ∃ N : Nat, d = .int (N : Nat) ∧ 1 ≤ N ∧ N ≤ M) ?_ fun d t ht => ?_
  · obtain ⟨v, r2, e2, _, _, hr2⟩ := taken_ok (m := 3) hr1 (by decide) (by decide)
    simp (config := { implicitDefEqProofs := false }) only [got_o, got_e, bind_o, bind_e, opt_s, gotO_s, guard_t, outB_nx, outB_bk, outB_ct, outB_rt, outB_er, un2_t, un2_l, un3_t, un3_l, un4_t, un4_l, noer_o, stepB_nx, stepB_ct, stepB_bk, stepB_rt, stepB_er, e2, e_gt]
    by_cases c : 0 < v
    · simp only [c, decide_true, if_true]
      exact ⟨hr2, M, rfl, hM1, Nat.le_refl _⟩
    · obtain ⟨v2, r3, e3, h3, h4, hr3⟩ := taken_ok (m := ((M : Nat) : Int)) hr2 (by omega) (by omega)
      simp (config := { implicitDefEqProofs := false }) only [got_o, got_e, bind_o, bind_e, opt_s, gotO_s, guard_t, outB_nx, outB_bk, outB_ct, outB_rt, outB_er, un2_t, un2_l, un3_t, un3_l, un4_t, un4_l, noer_o, stepB_nx, stepB_ct, stepB_bk, stepB_rt, stepB_er, c, decide_false, Bool.false_eq_true, if_false, e3, e_add]
      exact ⟨hr3, (1 + v2).toNat, by congr 1; omega, by omega, by omega⟩
  obtain ⟨hr2, N, hd, hN1, hN2⟩ := ht
  subst hd
  obtain ⟨r2, ⟨⟩⟩ := t
  have hr2 : RowL r2 := hr2
  simp (config := { implicitDefEqProofs := false }) only [got_o, got_e, bind_o, bind_e, opt_s, gotO_s, guard_t, outB_nx, outB_bk, outB_ct, outB_rt, outB_er, un2_t, un2_l, un3_t, un3_l, un4_t, un4_l, noer_o, stepB_nx, stepB_ct, stepB_bk, stepB_rt, stepB_er, e_rng1N (show N < 4611686018427387904 by omega)]
  refine ok_go _ (lc_all RowT (fun d => ∃ a : GF, d = gd a) hr2 fun x hx t hr => ?_) fun ys s hys => ?_
  · obtain ⟨row, ⟨⟩⟩ := t
    obtain ⟨v, r1, e1, h1, h2, hr1⟩ := taken_ok (m := 256) hr (by decide) (by decide)
    simp (config := { implicitDefEqProofs := false }) only [got_o, got_e, bind_o, bind_e, opt_s, gotO_s, guard_t, outB_nx, outB_bk, outB_ct, outB_rt, outB_er, un2_t, un2_l, un3_t, un3_l, un4_t, un4_l, noer_o, stepB_nx, stepB_ct, stepB_bk, stepB_rt, stepB_er, if_true, e1]
    exact ⟨_, rfl, gd_of h1 h2, hr1⟩
  obtain ⟨hy, hq, hr3⟩ := hys
  obtain ⟨r3, ⟨⟩⟩ := s
  have hr3 : RowL r3 := hr3
  obtain ⟨c0, rfl⟩ := mem_gd hq
  rw [range_len, List.length_map] at hy
  simp (config := { implicitDefEqProofs := false }) only [got_o, got_e, bind_o, bind_e, opt_s, gotO_s, guard_t, outB_nx, outB_bk, outB_ct, outB_rt, outB_er, un2_t, un2_l, un3_t, un3_l, un4_t, un4_l, noer_o, stepB_nx, stepB_ct, stepB_bk, stepB_rt, stepB_er, e_size (show (c0.map gd).length ≤ 16777216 by rw [List.length_map]; omega)]
  refine nx_goE (fun (cs : List GF) (t : List D × D × Unit) => RowL t.1 ∧ t.2.1 = .lst (cs.map gd) ∧ cs.length = N) ?_ fun cs t ht => ?_
  · obtain ⟨v, r4, e4, _, _, hr4⟩ := taken_ok (m := 5) hr3 (by decide) (by decide)
    simp (config := { implicitDefEqProofs := false }) only [got_o, got_e, bind_o, bind_e, opt_s, gotO_s, guard_t, outB_nx, outB_bk, outB_ct, outB_rt, outB_er, un2_t, un2_l, un3_t, un3_l, un4_t, un4_l, noer_o, stepB_nx, stepB_ct, stepB_bk, stepB_rt, stepB_er, e4, e_eqI]
    by_cases c : v = 0
    · have en : ((N : Nat) : Int) - 1 = ((N - 1 : Nat) : Int) := by omega
      have em : ∀ l : List D, mapR (fun x577 => (.ok (D.int 0) () : P D)) l = .ok (l.map fun _ => D.int 0) () := fun l => mapR_ok fun x _ => rfl
      obtain ⟨v2, r5, e5, h3, h4, hr5⟩ := taken_ok (m := 2) hr4 (by decide) (by decide)
      obtain ⟨a, l, rfl⟩ : ∃ a l, c0 = a :: l := by
        cases c0 with
        | nil => rw [List.length_nil] at hy; omega
        | cons a l => exact ⟨a, l, rfl⟩
      have hv : ∃ b : GF, (.int (v2 * (a.v : Nat)) : D) = gd b := by
        have := a.h
        rcases (show v2 = 0 ∨ v2 = 1 by omega) with rfl | rfl
        · exact ⟨g0, by show D.int _ = D.int _; congr 1; simp [g0]⟩
        · exact ⟨a, by show D.int _ = D.int _; congr 1; simp⟩
      obtain ⟨b, hb⟩ := hv
      have ez : ∀ n : Nat, ((rangeD 0 n).map fun _ => D.int 0) = (List.replicate n g0).map gd := fun n => by
        apply List.ext_getElem
        · simp [rangeD]
        · intro i h1 h2
          simp [rangeD]; rfl
      simp (config := { implicitDefEqProofs := false }) only [got_o, got_e, bind_o, bind_e, opt_s, gotO_s, guard_t, outB_nx, outB_bk, outB_ct, outB_rt, outB_er, un2_t, un2_l, un3_t, un3_l, un4_t, un4_l, noer_o, stepB_nx, stepB_ct, stepB_bk, stepB_rt, stepB_er, c, decide_true, if_true, e_sub, en, e_rng1N (show N - 1 < 4611686018427387904 by omega), em, chkR_ok (show ((rangeD 0 (N - 1)).map fun _ => D.int 0).length ≤ 16777216 by rw [List.length_map, range_len]; omega), e5, List.map_cons, e_l0, gd, e_mulL (show (-18446744073709551616 : Int) < v2 by omega) (by omega)]
      rw [hb, e_addL (by rw [List.length_map, range_len]; simp; omega), ez]
      refine ⟨List.replicate (N - 1) g0 ++ [b], hr5, by rw [List.map_append]; rfl, by simp; omega⟩
    · simp only [c, decide_false, Bool.false_eq_true, if_false]
      exact ⟨c0, hr4, rfl, hy⟩
  have hr4 : RowL t.1 := ht.1
  have hlen : cs.length = N := ht.2.2
  rw [show t.2.1 = .lst (cs.map gd) from ht.2.1]
  simp (config := { implicitDefEqProofs := false }) only [got_o, got_e, bind_o, bind_e, opt_s, gotO_s, guard_t, outB_nx, outB_bk, outB_ct, outB_rt, outB_er, un2_t, un2_l, un3_t, un3_l, un4_t, un4_l, noer_o, stepB_nx, stepB_ct, stepB_bk, stepB_rt, stepB_er, e_rng1N (show M < 4611686018427387904 by omega)]
  refine nx_goE (fun (L : List GF) (t : List D × List D × Unit) => RowL t.1 ∧ t.2.1 = L.map gd ∧ L.Nodup ∧ L.length = M) (Nx.mono (loop_all (fun n (t : List D × List D × Unit) => ∃ L : List GF, RowL t.1 ∧ t.2.1 = L.map gd ∧ L.Nodup ∧ L.length = n) 0 ⟨[], hr4, rfl, by simp, rfl⟩ fun k hk t ht => ?_) fun t ht => by rw [range_len, Nat.zero_add] at ht; exact ht) fun L t ht => ?_
  · obtain ⟨r5, pl, ⟨⟩⟩ := t
    obtain ⟨L, hr5, hL, hLn, hLl⟩ := ht
    have hr5 : RowL r5 := hr5
    have hL : pl = L.map gd := hL
    subst hL
    have hk' : k < M := by simpa [rangeD] using hk
    rw [range_get]
    obtain ⟨v, r6, e6, h1, h2, hr6⟩ := taken_ok (m := 256) hr5 (by decide) (by decide)
    obtain ⟨z, r7, e7, hz, hr7⟩ := pick_ok (xs := [.int (0 + (k : Nat)), .int (255 - (0 + (k : Nat))), .int v]) hr6 (by simp) (by simp)
    obtain ⟨zg, rfl⟩ : ∃ zg : GF, z = gd zg := by
      simp only [List.mem_cons, List.not_mem_nil, or_false] at hz
      rcases hz with h | h | h <;> subst h
      · exact gd_of (by omega) (by omega)
      · exact gd_of (by omega) (by omega)
      · exact gd_of h1 h2
    have fl : (L.map gd).all flatD = true := by
      rw [List.all_eq_true]
      intro x hx
      obtain ⟨y, _, rfl⟩ := List.mem_map.mp hx
      rfl
    simp (config := { implicitDefEqProofs := false }) only [got_o, got_e, bind_o, bind_e, opt_s, gotO_s, guard_t, outB_nx, outB_bk, outB_ct, outB_rt, outB_er, un2_t, un2_l, un3_t, un3_l, un4_t, un4_l, noer_o, stepB_nx, stepB_ct, stepB_bk, stepB_rt, stepB_er, e_sub, e6, e7, in_flat (x := gd zg) rfl fl, inF_gd]
    refine nx_go (fun t : D × Unit => ∃ a : GF, t.1 = gd a ∧ a ∉ L) ?_ fun t ht => ?_
    · by_cases c : zg ∈ L
      · have nf : ∀ x : D, x ∈ rangeD 0 13 → (fun x602 => KM.bind (noer (opt (notInC x602 (D.lst (L.map gd))))) fun b => if b = true then (R.ok (some x602) () : P (Option D)) else R.ok none ()) x = .ok (if inF x (L.map gd) then none else some x) () := fun x hx => by
          obtain ⟨j, hj, rfl⟩ := mem_range hx
          have e : notInC (.int (0 + (j : Nat))) (.lst (L.map gd)) = some (!inF (.int (0 + (j : Nat))) (L.map gd)) := by
            unfold notInC
            rw [in_flat (x := .int (0 + (j : Nat))) rfl fl]
          simp (config := { implicitDefEqProofs := false }) only [got_o, got_e, bind_o, bind_e, opt_s, gotO_s, guard_t, outB_nx, outB_bk, outB_ct, outB_rt, outB_er, un2_t, un2_l, un3_t, un3_l, un4_t, un4_l, noer_o, stepB_nx, stepB_ct, stepB_bk, stepB_rt, stepB_er, e]
          cases inF (.int (0 + (j : Nat))) (L.map gd) <;> rfl
        have r13 : rng1 (.int 13) = some (rangeD 0 13) := by rw [e_rng1 (by decide) (by decide)]; rfl
        obtain ⟨a, ys, ef, ha⟩ := pick13 (L := L) (by omega)
        have el : chkR (.ok (gd a :: ys) ()) = .ok (gd a :: ys) () := chkR_ok (by
          have := List.length_filterMap_le (fun x => if inF x (L.map gd) then none else some x) (rangeD 0 13)
          rw [ef, range_len] at this
          omega)
        simp (config := { implicitDefEqProofs := false }) only [got_o, got_e, bind_o, bind_e, opt_s, gotO_s, guard_t, outB_nx, outB_bk, outB_ct, outB_rt, outB_er, un2_t, un2_l, un3_t, un3_l, un4_t, un4_l, noer_o, stepB_nx, stepB_ct, stepB_bk, stepB_rt, stepB_er, c, decide_true, if_true, r13, lcR_ok nf, ef, el, e_l0]
        exact ⟨a, rfl, ha⟩
      · simp only [c, decide_false, Bool.false_eq_true, if_false]
        exact ⟨zg, rfl, c⟩
    · obtain ⟨d, ⟨⟩⟩ := t
      obtain ⟨a, hd, ha⟩ := ht
      have hd : d = gd a := hd
      subst hd
      simp (config := { implicitDefEqProofs := false }) only [got_o, got_e, bind_o, bind_e, opt_s, gotO_s, guard_t, outB_nx, outB_bk, outB_ct, outB_rt, outB_er, un2_t, un2_l, un3_t, un3_l, un4_t, un4_l, noer_o, stepB_nx, stepB_ct, stepB_bk, stepB_rt, stepB_er, e_size (show (L.map gd).length + 1 ≤ 16777216 by rw [List.length_map]; omega)]
      refine ⟨L ++ [a], hr7, by rw [List.map_append]; rfl, ?_, by rw [List.length_append, List.length_singleton]; omega⟩
      rw [List.nodup_append]
      exact ⟨hLn, by simp, fun x hx y hy => by rw [List.mem_singleton] at hy; subst hy; intro e; subst e; exact ha hx⟩
  have hr5 : RowL t.1 := ht.1
  obtain ⟨hLn, hLl⟩ : L.Nodup ∧ L.length = M := ht.2.2
  have hpts : mapR (fun x619 => noer (KM.bind (m__law_value (D.lst (cs.map gd)) x619) fun t620 => (R.ok (D.tup [x619, t620]) () : P D))) (L.map gd) = .ok ((L.map fun x => (x, gh x cs.reverse)).map ptD) () := by
    rw [mapR_ok (g := fun d => match d with | .int i => .tup [d, gd (gh ⟨i.toNat % 256, Nat.mod_lt _ (by decide)⟩ cs.reverse)] | _ => .non) fun x hx => by
      obtain ⟨a, _, rfl⟩ := List.mem_map.mp hx
      simp (config := { implicitDefEqProofs := false }) only [got_o, got_e, bind_o, bind_e, opt_s, gotO_s, guard_t, outB_nx, outB_bk, outB_ct, outB_rt, outB_er, un2_t, un2_l, un3_t, un3_l, un4_t, un4_l, noer_o, stepB_nx, stepB_ct, stepB_bk, stepB_rt, stepB_er, law_value_ok cs a]
      have : (⟨((a.v : Nat) : Int).toNat % 256, Nat.mod_lt _ (by decide)⟩ : GF) = a := GF.ext (by have := a.h; show ((a.v : Nat) : Int).toNat % 256 = a.v; omega)
      show R.ok (D.tup [gd a, gd (gh a cs.reverse)]) () = R.ok (D.tup [gd a, gd (gh ⟨((a.v : Nat) : Int).toNat % 256, _⟩ cs.reverse)]) ()
      rw [this]]
    rw [List.map_map, List.map_map]
    congr 1
    refine List.map_congr_left fun a _ => ?_
    have : (⟨((a.v : Nat) : Int).toNat % 256, Nat.mod_lt _ (by decide)⟩ : GF) = a := GF.ext (by have := a.h; show ((a.v : Nat) : Int).toNat % 256 = a.v; omega)
    show D.tup [gd a, gd (gh ⟨((a.v : Nat) : Int).toNat % 256, _⟩ cs.reverse)] = D.tup [gd a, gd (gh a cs.reverse)]
    rw [this]
  have hnd : ((L.map fun x => (x, gh x cs.reverse)).map (·.1)).Nodup := by
    rw [List.map_map]
    have e : ((fun p : GF × GF => p.1) ∘ fun x => (x, gh x cs.reverse)) = id := rfl
    rw [e, List.map_id]; exact hLn
  have hval : ∀ t, valP (L.map fun x => (x, gh x cs.reverse)) t = gh t cs.reverse := val_curve hLn (by omega) (by rw [List.length_reverse]; omega)
  have hlen2 : (L.map fun x => (x, gh x cs.reverse)).length = M := by rw [List.length_map]; exact hLl
  rw [show t.2.1 = L.map gd from ht.2.1]
  simp (config := { implicitDefEqProofs := false }) only [got_o, got_e, bind_o, bind_e, opt_s, gotO_s, guard_t, outB_nx, outB_bk, outB_ct, outB_rt, outB_er, un2_t, un2_l, un3_t, un3_l, un4_t, un4_l, noer_o, stepB_nx, stepB_ct, stepB_bk, stepB_rt, stepB_er, e_iterL, hpts]
  generalize (L.map fun x => (x, gh x cs.reverse)) = pts at hnd hval hlen2 ⊢
  simp (config := { implicitDefEqProofs := false }) only [got_o, got_e, bind_o, bind_e, opt_s, gotO_s, guard_t, outB_nx, outB_bk, outB_ct, outB_rt, outB_er, un2_t, un2_l, un3_t, un3_l, un4_t, un4_l, noer_o, stepB_nx, stepB_ct, stepB_bk, stepB_rt, stepB_er, chkR_ok (show (pts.map ptD).length ≤ 16777216 by rw [List.length_map]; omega)]
  refine ok_go (fun d s => RowT s ∧ (d = .lst (pts.map ptD) ∨ d = .tup (pts.map ptD))) ?_ fun given s hs => ?_
  · obtain ⟨v, r6, e6, _, _, hr6⟩ := taken_ok (m := 2) hr5 (by decide) (by decide)
    simp (config := { implicitDefEqProofs := false }) only [got_o, got_e, bind_o, bind_e, opt_s, gotO_s, guard_t, outB_nx, outB_bk, outB_ct, outB_rt, outB_er, un2_t, un2_l, un3_t, un3_l, un4_t, un4_l, noer_o, stepB_nx, stepB_ct, stepB_bk, stepB_rt, stepB_er, e6, e_eqI]
    by_cases c : v = 0
    · simp (config := { implicitDefEqProofs := false }) only [got_o, got_e, bind_o, bind_e, opt_s, gotO_s, guard_t, outB_nx, outB_bk, outB_ct, outB_rt, outB_er, un2_t, un2_l, un3_t, un3_l, un4_t, un4_l, noer_o, stepB_nx, stepB_ct, stepB_bk, stepB_rt, stepB_er, c, decide_true, if_true, e_tupL]
      exact ⟨hr6, .inr rfl⟩
    · simp (config := { implicitDefEqProofs := false }) only [got_o, got_e, bind_o, bind_e, opt_s, gotO_s, guard_t, outB_nx, outB_bk, outB_ct, outB_rt, outB_er, un2_t, un2_l, un3_t, un3_l, un4_t, un4_l, noer_o, stepB_nx, stepB_ct, stepB_bk, stepB_rt, stepB_er, c, decide_false, Bool.false_eq_true, if_false, e_lstL]
      exact ⟨hr6, .inl rfl⟩
  have hr6 : RowL s.1 := hs.1
  have hgiv := hs.2
  have hL0 : ∃ a : GF, ixD (.lst (L.map gd)) (.int 0) = some (gd a) := by
    cases L with
    | nil => rw [List.length_nil] at hLl; omega
    | cons a l => exact ⟨a, e_l0⟩
  refine Exists.elim hL0 fun a0 e0 => ?_
  refine Exists.elim (taken_ok (m := 256) hr6 (by decide) (by decide)) fun v hv => Exists.elim hv fun r7 hv => ?_
  refine Exists.elim (gd_of hv.2.1 hv.2.2.1) fun av eav => ?_
  refine Exists.elim (pick_ok (xs := [.int 0, .int 1, .int 255, .int v]) hv.2.2.2 (by simp) (by simp)) fun z hz => Exists.elim hz fun r8 hz => ?_
  have hzg : ∃ zg : GF, z = gd zg := by
    have hz := hz.2.1
    simp only [List.mem_cons, List.not_mem_nil, or_false] at hz
    rcases hz with h | h | h | h <;> subst h
    · exact ⟨g0, rfl⟩
    · exact ⟨g1, rfl⟩
    · exact gd_of (by decide) (by decide)
    · exact ⟨av, eav⟩
  refine Exists.elim hzg fun zg ezg => ?_
  have e1 := hv.1
  have e2 := hz.1
  rw [ezg] at e2
  have hr8 : RowL r8 := hz.2.2
  simp (config := { implicitDefEqProofs := false }) only [got_o, got_e, bind_o, bind_e, opt_s, gotO_s, guard_t, outB_nx, outB_bk, outB_ct, outB_rt, outB_er, un2_t, un2_l, un3_t, un3_l, un4_t, un4_l, noer_o, stepB_nx, stepB_ct, stepB_bk, stepB_rt, stepB_er, e0, e1, e2, e_iterL]
  refine nx_go RowT (loop_inv RowT hr8 fun x hx s hs => ?_) fun s hs => ?_
  · have hx : ∃ g : GF, x = gd g := by
      simp only [List.mem_cons, List.not_mem_nil, or_false] at hx
      rcases hx with h | h <;> subst h
      · exact ⟨a0, rfl⟩
      · exact ⟨zg, rfl⟩
    obtain ⟨g, rfl⟩ := hx
    have hl : listD given = some (.lst (pts.map ptD)) := by rcases hgiv with h | h <;> rw [h] <;> rfl
    have al := alike_l1 10 ((gh g cs.reverse).v : Nat) ((gh g cs.reverse).v : Nat)
    rw [decide_eq_true rfl] at al
    have al : m__law_alike 12 (.lst [gd (gh g cs.reverse)]) (.lst [gd (gh g cs.reverse)]) = .ok (.bl true) () := al
    simp (config := { implicitDefEqProofs := false }) only [got_o, got_e, bind_o, bind_e, opt_s, gotO_s, guard_t, outB_nx, outB_bk, outB_ct, outB_rt, outB_er, un2_t, un2_l, un3_t, un3_l, un4_t, un4_l, noer_o, stepB_nx, stepB_ct, stepB_bk, stepB_rt, stepB_er, told_good hgiv hnd (by omega) (by omega) g, hval, law_value_ok, al, e_truB, Bool.not_true, Bool.false_eq_true, if_false, hl, ne_self (pts_plain pts)]
    exact hs
  have hr9 : RowL s.1 := hs
  refine Exists.elim (taken_ok (m := 7) hr9 (by decide) (by decide)) fun kd hv => Exists.elim hv fun r9 hv => ?_
  refine Exists.elim (taken_ok (m := ((M : Nat) : Int)) hv.2.2.2 (by omega) (by omega)) fun at_ ha => Exists.elim ha fun r10 ha => ?_
  have e3 := hv.1
  have e4 := ha.1
  have hr10 : RowL r10 := ha.2.2.2
  have ha0 := ha.2.1
  have ha1 := ha.2.2.1
  have hxa : ∀ i : Int, 0 ≤ i → i < (M : Nat) → ∃ q : GF × GF, ixD (.lst (pts.map ptD)) (.int i) = some (ptD q) := fun i h0 h1 => by
    rw [e_lI h0 (by rw [List.length_map, hlen2]; exact h1), List.getElem_map]
    exact ⟨_, rfl⟩
  have okp : ∀ e ∈ pts.map ptD, OkE e := (given_ok (l := pts) (p := .lst (pts.map ptD)) (.inl rfl)).2.2.2 _ rfl
  simp (config := { implicitDefEqProofs := false }) only [got_o, got_e, bind_o, bind_e, opt_s, gotO_s, guard_t, outB_nx, outB_bk, outB_ct, outB_rt, outB_er, un2_t, un2_l, un3_t, un3_l, un4_t, un4_l, noer_o, stepB_nx, stepB_ct, stepB_bk, stepB_rt, stepB_er, e3, e4, e_seqL, e_eqI, e_neg]
  refine nx_go (fun t : List D × D × Unit => RowL t.1 ∧ GoodB pts kd t.2.1) ?_ fun t ht => ?_
  · have okt : ∀ xs : List D, (∀ x ∈ xs, (tyN x).isSome = true) → OkE (.tup xs) := fun xs h => ⟨rfl, fun ys e => by cases e; exact h⟩
    by_cases k0 : kd = 0
    · have d0 : decide (kd = 0) = true := decide_eq_true k0
      obtain ⟨w, r11, e5, hw, hr11⟩ := any_ok hr10
      obtain ⟨q, hq⟩ := hxa at_ ha0 ha1
      have eq0 : ixD (ptD q) (.int 0) = some (gd q.1) := e_t0
      have eqa : addD (ptD q) (.tup [.int 0]) = some (.tup [gd q.1, gd q.2, .int 0]) := e_addT (xs := [gd q.1, gd q.2]) (ys := [.int 0]) (by simp)
      obtain ⟨z, r12, e6, hz, hr12⟩ := pick_ok (xs := [w, .tup [.int 256, .int 0], .tup [.int 0, .int (-1)], .tup [.bl true, .int 0], .lst [gd q.1, .int 1], .tup [gd q.1, gd q.2, .int 0]]) hr11 (by simp) (by simp)
      simp (config := { implicitDefEqProofs := false }) only [got_o, got_e, bind_o, bind_e, opt_s, gotO_s, guard_t, outB_nx, outB_bk, outB_ct, outB_rt, outB_er, un2_t, un2_l, un3_t, un3_l, un4_t, un4_l, noer_o, stepB_nx, stepB_ct, stepB_bk, stepB_rt, stepB_er, d0, if_true, e5, hq, eq0, eqa, e6, e_ixW ha0 (show at_ < (pts.map ptD).length by rw [List.length_map, hlen2]; exact ha1)]
      refine ⟨hr12, rfl, fun xs hx e he => ?_, fun h => by omega⟩
      cases hx
      rcases List.mem_or_eq_of_mem_set he with h | h
      · exact okp e h
      · subst h
        simp only [List.mem_cons, List.not_mem_nil, or_false] at hz
        rcases hz with h | h | h | h | h | h
        · rw [h]; exact okE_any hw
        · rw [h]; exact okt _ (by simp [tyN])
        · rw [h]; exact okt _ (by simp [tyN])
        · rw [h]; exact okt _ (by simp [tyN])
        · rw [h]; exact ⟨rfl, fun xs e => by cases e⟩
        · rw [h]; exact okt _ (by simp [tyN, gd])
    · have d0 : decide (kd = 0) = false := decide_eq_false k0
      by_cases k1 : kd = 1
      · have d1 : decide (kd = 1) = true := decide_eq_true k1
        obtain ⟨v, r11, e5, v0, v1, hr11⟩ := taken_ok (m := ((M : Nat) : Int)) hr10 (by omega) (by omega)
        obtain ⟨q, hq⟩ := hxa v v0 v1
        have ei : insG (pts.map ptD) [.int at_, ptD q] = some (.non, (pts.map ptD).take at_.toNat ++ [ptD q] ++ (pts.map ptD).drop at_.toNat) := if_pos ⟨by rw [List.length_map]; omega, ha0, by omega⟩
        simp (config := { implicitDefEqProofs := false }) only [got_o, got_e, bind_o, bind_e, opt_s, gotO_s, guard_t, outB_nx, outB_bk, outB_ct, outB_rt, outB_er, un2_t, un2_l, un3_t, un3_l, un4_t, un4_l, noer_o, stepB_nx, stepB_ct, stepB_bk, stepB_rt, stepB_er, d0, d1, Bool.false_eq_true, if_false, if_true, e5, hq, ei]
        refine ⟨hr11, rfl, fun xs hx e he => ?_, fun h => by omega⟩
        cases hx
        rcases List.mem_append.mp he with h | h
        · rcases List.mem_append.mp h with h | h
          · exact okp e (List.mem_of_mem_take h)
          · rw [List.mem_singleton.mp h]; exact okE_pt q
        · exact okp e (List.mem_of_mem_drop h)
      · have d1 : decide (kd = 1) = false := decide_eq_false k1
        by_cases k2 : kd = 2
        · have d2 : decide (kd = 2) = true := decide_eq_true k2
          have em : mulD (.lst [.tup [.int 13, .int 1]]) (.int 12) = some (.lst (List.replicate 12 (.tup [.int 13, .int 1]))) := rfl
          have ea : addD (.lst (pts.map ptD)) (.lst (List.replicate 12 (.tup [.int 13, .int 1]))) = some (.lst (pts.map ptD ++ List.replicate 12 (.tup [.int 13, .int 1]))) := e_addL (by rw [List.length_map, List.length_replicate]; omega)
          obtain ⟨z, r12, e6, hz, hr12⟩ := pick_ok (xs := [.non, .dic [], .str "", .int 3, .lst (pts.map ptD ++ List.replicate 12 (.tup [.int 13, .int 1])), .lst []]) hr10 (by simp) (by simp)
          simp (config := { implicitDefEqProofs := false }) only [got_o, got_e, bind_o, bind_e, opt_s, gotO_s, guard_t, outB_nx, outB_bk, outB_ct, outB_rt, outB_er, un2_t, un2_l, un3_t, un3_l, un4_t, un4_l, noer_o, stepB_nx, stepB_ct, stepB_bk, stepB_rt, stepB_er, d0, d1, d2, Bool.false_eq_true, if_false, if_true, em, ea, e6]
          simp only [List.mem_cons, List.not_mem_nil, or_false] at hz
          refine ⟨hr12, ?_⟩
          rcases hz with h | h | h | h | h | h <;> subst h
          · exact ⟨rfl, (fun xs h => by cases h), fun h => by omega⟩
          · exact ⟨rfl, (fun xs h => by cases h), fun h => by omega⟩
          · exact ⟨rfl, (fun xs h => by cases h), fun h => by omega⟩
          · exact ⟨rfl, (fun xs h => by cases h), fun h => by omega⟩
          · refine ⟨rfl, fun xs hx e he => ?_, fun h => by omega⟩
            cases hx
            rcases List.mem_append.mp he with h | h
            · exact okp e h
            · rw [(List.mem_replicate.mp h).2]; exact okt _ (by simp [tyN])
          · exact ⟨rfl, (fun xs hx e he => by cases hx; cases he), fun h => by omega⟩
        · have d2 : decide (kd = 2) = false := decide_eq_false k2
          simp (config := { implicitDefEqProofs := false }) only [got_o, got_e, bind_o, bind_e, opt_s, gotO_s, guard_t, outB_nx, outB_bk, outB_ct, outB_rt, outB_er, un2_t, un2_l, un3_t, un3_l, un4_t, un4_l, noer_o, stepB_nx, stepB_ct, stepB_bk, stepB_rt, stepB_er, d0, d1, d2, Bool.false_eq_true, if_false]
          exact ⟨hr10, rfl, (fun xs hx e he => by cases hx; exact okp e he), fun _ => rfl⟩
  have hr11 : RowL t.1 := ht.1
  refine ok_go (fun d s => RowT s ∧ (tyN d).isSome = true ∧ plain 4 d) ?_ fun place s hs2 => ?_
  · obtain ⟨v, r12, e12, v0, v1, hr12⟩ := taken_ok (m := 2) hr11 (by decide) (by decide)
    simp (config := { implicitDefEqProofs := false }) only [got_o, got_e, bind_o, bind_e, opt_s, gotO_s, guard_t, outB_nx, outB_bk, outB_ct, outB_rt, outB_er, un2_t, un2_l, un3_t, un3_l, un4_t, un4_l, noer_o, stepB_nx, stepB_ct, stepB_bk, stepB_rt, stepB_er, e12, e_eqI]
    by_cases c : v = 0
    · obtain ⟨w, r13, e13, hw, hr13⟩ := any_ok hr12
      simp (config := { implicitDefEqProofs := false }) only [got_o, got_e, bind_o, bind_e, opt_s, gotO_s, guard_t, outB_nx, outB_bk, outB_ct, outB_rt, outB_er, un2_t, un2_l, un3_t, un3_l, un4_t, un4_l, noer_o, stepB_nx, stepB_ct, stepB_bk, stepB_rt, stepB_er, c, decide_true, if_true, e13]
      exact ⟨hr13, any_ty hw, any_plain hw⟩
    · obtain ⟨w, r13, e13, _, _, hr13⟩ := taken_ok (m := 256) hr12 (by decide) (by decide)
      simp (config := { implicitDefEqProofs := false }) only [got_o, got_e, bind_o, bind_e, opt_s, gotO_s, guard_t, outB_nx, outB_bk, outB_ct, outB_rt, outB_er, un2_t, un2_l, un3_t, un3_l, un4_t, un4_l, noer_o, stepB_nx, stepB_ct, stepB_bk, stepB_rt, stepB_er, c, decide_false, Bool.false_eq_true, if_false, e13]
      exact ⟨hr13, rfl, trivial⟩
  have hd := law_due_ok ht.2.1 ht.2.2.1 hs2.2.1
  have hp := due_plain (p := t.2.1) hs2.2.2
  refine Or.elim (told_ok ht.2.1 ht.2.2.1 hs2.2.1) (fun h => ?_) (fun h => ?_)
  · have h2 := h.2
    have h3 : KD.isNon (dueP t.2.1 place) = false := isNon_no h.1
    simp (config := { implicitDefEqProofs := false }) only [got_o, got_e, bind_o, bind_e, opt_s, gotO_s, guard_t, outB_nx, outB_bk, outB_ct, outB_rt, outB_er, un2_t, un2_l, un3_t, un3_l, un4_t, un4_l, noer_o, stepB_nx, stepB_ct, stepB_bk, stepB_rt, stepB_er, hd, h2, h3, Bool.not_false, if_true, alike_self 12 _ hp, e_truB, Bool.not_true, Bool.false_eq_true, if_false]
    exact hs2.1
  · have h1 := h.1
    refine Exists.elim h.2 fun l h => Exists.elim h fun g h => ?_
    have h4 := h.2.1
    have h6 := h.2.2.2
    have hin : KD.isNon .non = true := rfl
    rw [h1] at hd
    rw [h4] at hd h6
    have al := alike_l1 10 ((valP l g).v : Nat) ((gh g cs.reverse).v : Nat)
    have al : m__law_alike 12 (.lst [gd (valP l g)]) (.lst [gd (gh g cs.reverse)]) = .ok (.bl (decide ((((valP l g).v : Nat) : Int) = (((gh g cs.reverse).v : Nat) : Int)))) () := al
    rw [h4]
    simp (config := { implicitDefEqProofs := false }) only [got_o, got_e, bind_o, bind_e, opt_s, gotO_s, guard_t, outB_nx, outB_bk, outB_ct, outB_rt, outB_er, un2_t, un2_l, un3_t, un3_l, un4_t, un4_l, noer_o, stepB_nx, stepB_ct, stepB_bk, stepB_rt, stepB_er, hd, h6, hin, Bool.not_true, Bool.false_eq_true, if_false, if_true, law_value_ok, al, e_truB, e_gt]
    by_cases c : (((valP l g).v : Nat) : Int) = (((gh g cs.reverse).v : Nat) : Int)
    · simp (config := { implicitDefEqProofs := false }) only [got_o, got_e, bind_o, bind_e, opt_s, gotO_s, guard_t, outB_nx, outB_bk, outB_ct, outB_rt, outB_er, un2_t, un2_l, un3_t, un3_l, un4_t, un4_l, noer_o, stepB_nx, stepB_ct, stepB_bk, stepB_rt, stepB_er, c, decide_true, Bool.not_true, Bool.false_eq_true, if_false]
      exact hs2.1
    · have hk : ¬ 2 < kd := fun hk => c (by
        have e := ht.2.2.2 hk
        have h3 := h.1
        rw [e] at h3
        have h3 : pts.map ptD = l.map ptD := Option.some.inj h3
        rw [← ptD_inj h3, hval])
      simp (config := { implicitDefEqProofs := false }) only [got_o, got_e, bind_o, bind_e, opt_s, gotO_s, guard_t, outB_nx, outB_bk, outB_ct, outB_rt, outB_er, un2_t, un2_l, un3_t, un3_l, un4_t, un4_l, noer_o, stepB_nx, stepB_ct, stepB_bk, stepB_rt, stepB_er, c, hk, decide_false, Bool.not_false, if_true, Bool.false_eq_true, if_false]
      exact hs2.1

/-! is_integer -/
abbrev s_is_integer : Stmt := topS 5
abbrev N_is_integer : List Str := ["thing"]
theorem sc_is_integer : FnScope N_is_integer ["thing"] (defScope s_is_integer) := ⟨rfl, rfl, rfl, by decide +kernel, rfl, by decide +kernel, by decide +kernel⟩
theorem has_is_integer {P : Program} {w : World} {K : PySem.W.Frag} {mg : Str → Option Value} {base : Heap} {C : Str → Addr} (A : At K mg "is_integer" s_is_integer ["thing"]) (z_bool : mg "bool" = none) (z_int : mg "int" = none) (z_isinstance : mg "isinstance" = none) : Has P w K mg base 1 "is_integer" ["thing"] (spP C 1 (ap1 (m_is_integer))) := by
  refine okP (k := 0) (C := C) A sc_is_integer (by decide) ?hm (fun f cdv A outer s H E hr => (xss_one (xs_ret (xc_p (xe_b (xb_and (xb_callB dc_isi ok_isi (by rfl) z_isinstance (by decide +kernel) (xva_cons (xv_e (xe_var (de_var 0))) (xva_cons (xv_e (xe_c (de_ty (by rfl) z_int boot_int))) xva_nil))) (xb_one (xb_not (xb_callB dc_isi ok_isi (by rfl) z_isinstance (by decide +kernel) (xva_cons (xv_e (xe_var (de_var 0))) (xva_cons (xv_e (xe_c (de_ty (by rfl) z_bool boot_bool))) xva_nil)))))))))))
  case hm => exact fun ds hl => match ds, hl with | [_], _ => by kernel_rfl
/-! is_octet -/
abbrev s_is_octet : Stmt := topS 6
abbrev N_is_octet : List Str := ["thing"]
theorem sc_is_octet : FnScope N_is_octet ["thing"] (defScope s_is_octet) := ⟨rfl, rfl, rfl, by decide +kernel, rfl, by decide +kernel, by decide +kernel⟩
theorem has_is_octet {P : Program} {w : World} {K : PySem.W.Frag} {mg : Str → Option Value} {base : Heap} {C : Str → Addr} (A : At K mg "is_octet" s_is_octet ["thing"]) (D_is_integer : Has P w K mg base 1 "is_integer" ["thing"] (spP C 1 (ap1 (m_is_integer)))) : Has P w K mg base 2 "is_octet" ["thing"] (spP C 1 (ap1 (m_is_octet))) := by
  refine okP (k := 1) (C := C) A sc_is_octet (by decide) ?hm (fun f cdv A outer s H E hr => (xss_one (xs_ret (xc_p (xe_b (xb_and (xb_e (xe_has (lenCons lenNil) (takes_of rfl rfl rfl rfl) D_is_integer (hr.mono (by decide)) (by rfl) (xa_cons (xe_var (de_var 0)) xa_nil))) (xb_one (xb_chain dop_le ok_le dop_le ok_le (xv_e (xe_c de_int)) (xv_e (xe_var (de_var 0))) (xv_e (xe_c de_int))))))))))
  case hm => exact fun ds hl => match ds, hl with | [_], _ => by kernel_rfl
/-! is_row -/
abbrev s_is_row : Stmt := topS 7
abbrev N_is_row : List Str := ["thing"]
theorem sc_is_row : FnScope N_is_row ["thing"] (defScope s_is_row) := ⟨rfl, rfl, rfl, by decide +kernel, rfl, by decide +kernel, by decide +kernel⟩
theorem has_is_row {P : Program} {w : World} {K : PySem.W.Frag} {mg : Str → Option Value} {base : Heap} {C : Str → Addr} (A : At K mg "is_row" s_is_row ["thing"]) (z_isinstance : mg "isinstance" = none) (z_list : mg "list" = none) (z_tuple : mg "tuple" = none) : Has P w K mg base 1 "is_row" ["thing"] (spP C 1 (ap1 (m_is_row))) := by
  refine okP (k := 0) (C := C) A sc_is_row (by decide) ?hm (fun f cdv A outer s H E hr => (xss_one (xs_ret (xc_p (xe_b (xb_callB dc_isi ok_isi (by rfl) z_isinstance (by decide +kernel) (xva_cons (xv_e (xe_var (de_var 0))) (xva_cons (xv_e (xe_tup (lenCons (lenCons lenNil)) (xa_cons (xe_c (de_ty (by rfl) z_list boot_list)) (xa_cons (xe_c (de_ty (by rfl) z_tuple boot_tuple)) xa_nil)))) xva_nil))))))))
  case hm => exact fun ds hl => match ds, hl with | [_], _ => by kernel_rfl
/-! check_octet -/
abbrev s_check_octet : Stmt := topS 12
abbrev N_check_octet : List Str := ["value"]
theorem sc_check_octet : FnScope N_check_octet ["value"] (defScope s_check_octet) := ⟨rfl, rfl, rfl, by decide +kernel, rfl, by decide +kernel, by decide +kernel⟩
theorem has_check_octet {P : Program} {w : World} {K : PySem.W.Frag} {mg : Str → Option Value} {base : Heap} {C : Str → Addr} (A : At K mg "check_octet" s_check_octet ["value"]) (D_is_octet : Has P w K mg base 2 "is_octet" ["thing"] (spP C 1 (ap1 (m_is_octet)))) (X_BadOctet : ErrC K mg P w base "BadOctet" (C "BadOctet") "value" [] []) : Has P w K mg base 3 "check_octet" ["value"] (spP C 1 (ap1 (m_check_octet))) := by
  refine okP (k := 2) (C := C) A sc_check_octet (by decide) ?hm (fun f cdv A outer s H E hr => (xss_one (xs_if (xct_p (xt_not (xt_tru ok_tru (xv_e (xe_has (lenCons lenNil) (takes_of rfl rfl rfl rfl) D_is_octet (hr.mono (by decide)) (by rfl) (xa_cons (xe_var (de_var 0)) xa_nil))))))
 (xss_one (xs_raise1 rfl (takes_of rfl rfl rfl rfl) X_BadOctet (hr.mono (by decide)) (by rfl) (xc_p (xe_var (de_var 0)))))
 xss_nil)))
  case hm => exact fun ds hl => match ds, hl with | [_], _ => by kernel_rfl
/-! product -/
abbrev s_product : Stmt := topS 13
abbrev N_product : List Str := ["one", "other"]
theorem sc_product : FnScope N_product ["one", "other"] (defScope s_product) := ⟨rfl, rfl, rfl, by decide +kernel, rfl, by decide +kernel, by decide +kernel⟩
theorem has_product {P : Program} {w : World} {K : PySem.W.Frag} {mg : Str → Option Value} {base : Heap} {C : Str → Addr} (A : At K mg "product" s_product ["one", "other"]) (c_POWERS : TupC K mg "POWERS" k_POWERS) (c_EXPONENTS : TupC K mg "EXPONENTS" k_EXPONENTS) (c_MANY_POWERS : ∃ t, mg "MANY_POWERS" = some (.int 255 t)) : Has P w K mg base 1 "product" ["one", "other"] (spP C 2 (ap2 (m_product))) := by
  obtain ⟨t_MANY_POWERS, c_MANY_POWERS⟩ := c_MANY_POWERS
  refine okP (k := 0) (C := C) A sc_product (by decide) ?hm (fun f cdv A outer s H E hr => (xss_cons (xs_if (xct_p (xw_t (xw_or (xt_cmp (dop_eqG hr.units) ok_eq (xv_e (xe_var (de_var 0))) (xv_e (xe_c de_int))) (xw_or1 (xt_cmp (dop_eqG hr.units) ok_eq (xv_e (xe_var (de_var 1))) (xv_e (xe_c de_int)))))))
 (xss_one (xs_ret (xc_p (xe_c de_int))))
 xss_nil)
 (xss_one (xs_ret (xc_p (xe_ix (dix_G hr.units) ok_ix (xv_e (xe_c (de_globC (by rfl) c_POWERS))) (xv_e (xe_op dop_mod ok_mod (xv_e (xe_op dop_add ok_add (xv_e (xe_ix (dix_G hr.units) ok_ix (xv_e (xe_c (de_globC (by rfl) c_EXPONENTS))) (xv_e (xe_var (de_var 0))))) (xv_e (xe_ix (dix_G hr.units) ok_ix (xv_e (xe_c (de_globC (by rfl) c_EXPONENTS))) (xv_e (xe_var (de_var 1))))))) (xv_e (xe_c (de_globI (by rfl) c_MANY_POWERS)))))))))))
  case hm => exact fun ds hl => match ds, hl with | [_, _], _ => by kernel_rfl
/-! quotient -/
abbrev s_quotient : Stmt := topS 14
abbrev N_quotient : List Str := ["one", "other"]
theorem sc_quotient : FnScope N_quotient ["one", "other"] (defScope s_quotient) := ⟨rfl, rfl, rfl, by decide +kernel, rfl, by decide +kernel, by decide +kernel⟩
theorem has_quotient {P : Program} {w : World} {K : PySem.W.Frag} {mg : Str → Option Value} {base : Heap} {C : Str → Addr} (A : At K mg "quotient" s_quotient ["one", "other"]) (c_POWERS : TupC K mg "POWERS" k_POWERS) (c_EXPONENTS : TupC K mg "EXPONENTS" k_EXPONENTS) (c_MANY_POWERS : ∃ t, mg "MANY_POWERS" = some (.int 255 t)) : Has P w K mg base 1 "quotient" ["one", "other"] (spP C 2 (ap2 (m_quotient))) := by
  obtain ⟨t_MANY_POWERS, c_MANY_POWERS⟩ := c_MANY_POWERS
  refine okP (k := 0) (C := C) A sc_quotient (by decide) ?hm (fun f cdv A outer s H E hr => (xss_cons (xs_if (xct_p (xt_cmp (dop_eqG hr.units) ok_eq (xv_e (xe_var (de_var 0))) (xv_e (xe_c de_int))))
 (xss_one (xs_ret (xc_p (xe_c de_int))))
 xss_nil)
 (xss_one (xs_ret (xc_p (xe_ix (dix_G hr.units) ok_ix (xv_e (xe_c (de_globC (by rfl) c_POWERS))) (xv_e (xe_op dop_mod ok_mod (xv_e (xe_op dop_sub ok_sub (xv_e (xe_ix (dix_G hr.units) ok_ix (xv_e (xe_c (de_globC (by rfl) c_EXPONENTS))) (xv_e (xe_var (de_var 0))))) (xv_e (xe_ix (dix_G hr.units) ok_ix (xv_e (xe_c (de_globC (by rfl) c_EXPONENTS))) (xv_e (xe_var (de_var 1))))))) (xv_e (xe_c (de_globI (by rfl) c_MANY_POWERS)))))))))))
  case hm => exact fun ds hl => match ds, hl with | [_, _], _ => by kernel_rfl
/-! weights -/
abbrev s_weights : Stmt := topS 17
abbrev N_weights : List Str := ["places", "place", "found", "one", "above", "below", "other"]
theorem sc_weights : FnScope N_weights ["places", "place"] (defScope s_weights) := ⟨rfl, rfl, rfl, by decide +kernel, rfl, by decide +kernel, by decide +kernel⟩
theorem has_weights {P : Program} {w : World} {K : PySem.W.Frag} {mg : Str → Option Value} {base : Heap} {C : Str → Addr} (A : At K mg "weights" s_weights ["places", "place"]) (D_product : Has P w K mg base 1 "product" ["one", "other"] (spP C 2 (ap2 (m_product)))) (D_quotient : Has P w K mg base 1 "quotient" ["one", "other"] (spP C 2 (ap2 (m_quotient)))) : Has P w K mg base 2 "weights" ["places", "place"] (spP C 2 (ap2 (m_weights))) := by
  refine okP (k := 1) (C := C) A sc_weights (by decide) ?hm (fun f cdv A outer s H E hr => (xss_cons (xs_setL (ds_set (i := 2) sc_weights.nd rfl (Or.inl rfl) (xf_lst lenNil xa_nil)))
 (xss_cons (xs_for (I := []) (J := [(2, (.l false))]) (K := [3, 4, 5, 6]) (passes_of rfl) rfl (xi_any (xe_var (de_var 0))) (dg_name (i := 3) sc_weights.nd rfl (Or.inl rfl)) (gok_name 3)
 (xss_cons (xs_set (ds_set (i := 4) sc_weights.nd rfl (Or.inl rfl) (xc_p (xe_c de_int))))
 (xss_cons (xs_set (ds_set (i := 5) sc_weights.nd rfl (Or.inl rfl) (xc_p (xe_c de_int))))
 (xss_cons (xs_for (I := []) (J := [(4, .d), (5, .d)]) (K := [6]) (passes_of rfl) rfl (xi_any (xe_var (de_var 0))) (dg_name (i := 6) sc_weights.nd rfl (Or.inl rfl)) (gok_name 6)
 (xss_one (xs_join (I := []) (J := [(4, .d), (5, .d)]) (K := []) (xs_if (xct_p (xt_cmp (dop_neG hr.units) ok_ne (xv_e (xe_var (de_var 6))) (xv_e (xe_var (de_var 3)))))
 (xss_cons (xs_set (ds_set (i := 4) sc_weights.nd rfl (Or.inl rfl) (xc_p (xe_has (lenCons (lenCons lenNil)) (takes_of rfl rfl rfl rfl) D_product (hr.mono (by decide)) (by rfl) (xa_cons (xe_var (de_var 4)) (xa_cons (xe_op dop_xor ok_xor (xv_e (xe_var (de_var 1))) (xv_e (xe_var (de_var 6)))) xa_nil))))))
 (xss_one (xs_set (ds_set (i := 5) sc_weights.nd rfl (Or.inl rfl) (xc_p (xe_has (lenCons (lenCons lenNil)) (takes_of rfl rfl rfl rfl) D_product (hr.mono (by decide)) (by rfl) (xa_cons (xe_var (de_var 5)) (xa_cons (xe_op dop_xor ok_xor (xv_e (xe_var (de_var 3))) (xv_e (xe_var (de_var 6)))) xa_nil))))))))
 xss_nil))))
 (xss_one (xs_app (i := 2) (de_var 2) (xc_p (xe_has (lenCons (lenCons lenNil)) (takes_of rfl rfl rfl rfl) D_quotient (hr.mono (by decide)) (by rfl) (xa_cons (xe_var (de_var 4)) (xa_cons (xe_var (de_var 5)) xa_nil))))))))))
 (xss_frz 2 (xss_one (xs_ret (xc_p (xe_var (de_var 2)))))))))
  case hm => exact fun ds hl => match ds, hl with | [_, _], _ => by kernel_rfl
/-! weighed -/
abbrev s_weighed : Stmt := topS 18
abbrev N_weighed : List Str := ["factors", "values", "found", "factor", "value"]
theorem sc_weighed : FnScope N_weighed ["factors", "values"] (defScope s_weighed) := ⟨rfl, rfl, rfl, by decide +kernel, rfl, by decide +kernel, by decide +kernel⟩
theorem has_weighed {P : Program} {w : World} {K : PySem.W.Frag} {mg : Str → Option Value} {base : Heap} {C : Str → Addr} (A : At K mg "weighed" s_weighed ["factors", "values"]) (D_product : Has P w K mg base 1 "product" ["one", "other"] (spP C 2 (ap2 (m_product)))) (z_zip : mg "zip" = none) : Has P w K mg base 2 "weighed" ["factors", "values"] (spP C 2 (ap2 (m_weighed))) := by
  refine okP (k := 1) (C := C) A sc_weighed (by decide) ?hm (fun f cdv A outer s H E hr => (xss_cons (xs_set (ds_set (i := 2) sc_weighed.nd rfl (Or.inl rfl) (xc_p (xe_c de_int))))
 (xss_cons (xs_for (I := []) (J := [(2, .d)]) (K := [3, 4]) (passes_of rfl) rfl (xi_zip (by rfl) z_zip (xe_var (de_var 0)) (xe_var (de_var 1))) (dg_tupG rfl (dgs_cons (dg_name (i := 3) sc_weighed.nd rfl (Or.inl rfl)) (dgs_cons (dg_name (i := 4) sc_weighed.nd rfl (Or.inl rfl)) dgs_nil))) (gok2 (gok_name 3) (gok_name 4))
 (xss_one (xs_set (ds_set (i := 2) sc_weighed.nd rfl (Or.inl rfl) (xc_p (xe_op dop_xor ok_xor (xv_e (xe_var (de_var 2))) (xv_e (xe_has (lenCons (lenCons lenNil)) (takes_of rfl rfl rfl rfl) D_product (hr.mono (by decide)) (by rfl) (xa_cons (xe_var (de_var 3)) (xa_cons (xe_var (de_var 4)) xa_nil))))))))))
 (xss_one (xs_ret (xc_p (xe_var (de_var 2))))))))
  case hm => exact fun ds hl => match ds, hl with | [_, _], _ => by kernel_rfl
/-! is_point -/
abbrev s_is_point : Stmt := topS 19
abbrev N_is_point : List Str := ["thing"]
theorem sc_is_point : FnScope N_is_point ["thing"] (defScope s_is_point) := ⟨rfl, rfl, rfl, by decide +kernel, rfl, by decide +kernel, by decide +kernel⟩
theorem has_is_point {P : Program} {w : World} {K : PySem.W.Frag} {mg : Str → Option Value} {base : Heap} {C : Str → Addr} (A : At K mg "is_point" s_is_point ["thing"]) (D_is_octet : Has P w K mg base 2 "is_octet" ["thing"] (spP C 1 (ap1 (m_is_octet)))) (z_isinstance : mg "isinstance" = none) (z_len : mg "len" = none) (z_tuple : mg "tuple" = none) : Has P w K mg base 3 "is_point" ["thing"] (spP C 1 (ap1 (m_is_point))) := by
  refine okP (k := 2) (C := C) A sc_is_point (by decide) ?hm (fun f cdv A outer s H E hr => (xss_one (xs_ret (xc_p (xe_b (xb_and (xb_callB dc_isi ok_isi (by rfl) z_isinstance (by decide +kernel) (xva_cons (xv_e (xe_var (de_var 0))) (xva_cons (xv_e (xe_c (de_ty (by rfl) z_tuple boot_tuple))) xva_nil))) (xb_and (xb_cmp (dop_eqG hr.units) ok_eq (xv_e (xe_callB dc_lenG ok_len (by rfl) z_len (by decide +kernel) (xva_cons (xv_e (xe_var (de_var 0))) xva_nil))) (xv_e (xe_c de_int))) (xb_and (xb_e (xe_has (lenCons lenNil) (takes_of rfl rfl rfl rfl) D_is_octet (hr.mono (by decide)) (by rfl) (xa_cons (xe_ix (dix_G hr.units) ok_ix (xv_e (xe_var (de_var 0))) (xv_e (xe_c de_int))) xa_nil))) (xb_one (xb_e (xe_has (lenCons lenNil) (takes_of rfl rfl rfl rfl) D_is_octet (hr.mono (by decide)) (by rfl) (xa_cons (xe_ix (dix_G hr.units) ok_ix (xv_e (xe_var (de_var 0))) (xv_e (xe_c de_int))) xa_nil))))))))))))
  case hm => exact fun ds hl => match ds, hl with | [_], _ => by kernel_rfl
/-! check_points -/
abbrev s_check_points : Stmt := topS 20
abbrev N_check_points : List Str := ["points", "places", "index", "point"]
theorem sc_check_points : FnScope N_check_points ["points"] (defScope s_check_points) := ⟨rfl, rfl, rfl, by decide +kernel, rfl, by decide +kernel, by decide +kernel⟩
theorem has_check_points {P : Program} {w : World} {K : PySem.W.Frag} {mg : Str → Option Value} {base : Heap} {C : Str → Addr} (A : At K mg "check_points" s_check_points ["points"]) (D_is_row : Has P w K mg base 1 "is_row" ["thing"] (spP C 1 (ap1 (m_is_row)))) (D_is_point : Has P w K mg base 3 "is_point" ["thing"] (spP C 1 (ap1 (m_is_point)))) (z_enumerate : mg "enumerate" = none) (z_len : mg "len" = none) (c_MOST_POINTS : ∃ t, mg "MOST_POINTS" = some (.int 12 t)) (X_BadPoints : ErrC K mg P w base "BadPoints" (C "BadPoints") "value" [] []) : Has P w K mg base 4 "check_points" ["points"] (spP C 1 (ap1 (m_check_points))) := by
  obtain ⟨t_MOST_POINTS, c_MOST_POINTS⟩ := c_MOST_POINTS
  refine okP (k := 3) (C := C) A sc_check_points (by decide) ?hm (fun f cdv A outer s H E hr => (xss_cons (xs_if (xct_p (xw_t (xw_or (xt_not (xt_tru ok_tru (xv_e (xe_has (lenCons lenNil) (takes_of rfl rfl rfl rfl) D_is_row (hr.mono (by decide)) (by rfl) (xa_cons (xe_var (de_var 0)) xa_nil))))) (xw_or1 (xt_not (xt_chain dop_le ok_le dop_le ok_le (xv_e (xe_c de_int)) (xv_e (xe_callB dc_lenG ok_len (by rfl) z_len (by decide +kernel) (xva_cons (xv_e (xe_var (de_var 0))) xva_nil))) (xv_e (xe_c (de_globI (by rfl) c_MOST_POINTS)))))))))
 (xss_one (xs_raise1 rfl (takes_of rfl rfl rfl rfl) X_BadPoints (hr.mono (by decide)) (by rfl) (xc_p (xe_neg ok_neg (xe_c de_int)))))
 xss_nil)
 (xss_cons (xs_setL (ds_set (i := 1) sc_check_points.nd rfl (Or.inl rfl) (xf_lst lenNil xa_nil)))
 (xss_one (xs_for (I := []) (J := [(1, (.l false))]) (K := [2, 3]) (passes_of rfl) rfl (xi_enum (by rfl) z_enumerate (xe_var (de_var 0))) (dg_tupG rfl (dgs_cons (dg_name (i := 2) sc_check_points.nd rfl (Or.inl rfl)) (dgs_cons (dg_name (i := 3) sc_check_points.nd rfl (Or.inl rfl)) dgs_nil))) (gok2 (gok_name 2) (gok_name 3))
 (xss_cons (xs_if (xct_p (xw_t (xw_or (xt_not (xt_tru ok_tru (xv_e (xe_has (lenCons lenNil) (takes_of rfl rfl rfl rfl) D_is_point (hr.mono (by decide)) (by rfl) (xa_cons (xe_var (de_var 3)) xa_nil))))) (xw_or1 (xt_cmp (dop_inG hr.units) ok_in (xv_e (xe_ix (dix_G hr.units) ok_ix (xv_e (xe_var (de_var 3))) (xv_e (xe_c de_int)))) (xv_var (de_var 1)))))))
 (xss_one (xs_raise1 rfl (takes_of rfl rfl rfl rfl) X_BadPoints (hr.mono (by decide)) (by rfl) (xc_p (xe_var (de_var 2)))))
 xss_nil)
 (xss_one (xs_app (i := 1) (de_var 1) (xc_p (xe_ix (dix_G hr.units) ok_ix (xv_e (xe_var (de_var 3))) (xv_e (xe_c de_int))))))))))))
  case hm => exact fun ds hl => match ds, hl with | [_], _ => by kernel_rfl
/-! value_at -/
abbrev s_value_at : Stmt := topS 21
abbrev N_value_at : List Str := ["points", "place", "x", "y"]
theorem sc_value_at : FnScope N_value_at ["points", "place"] (defScope s_value_at) := ⟨rfl, rfl, rfl, by decide +kernel, rfl, by decide +kernel, by decide +kernel⟩
theorem has_value_at {P : Program} {w : World} {K : PySem.W.Frag} {mg : Str → Option Value} {base : Heap} {C : Str → Addr} (A : At K mg "value_at" s_value_at ["points", "place"]) (D_check_points : Has P w K mg base 4 "check_points" ["points"] (spP C 1 (ap1 (m_check_points)))) (D_check_octet : Has P w K mg base 3 "check_octet" ["value"] (spP C 1 (ap1 (m_check_octet)))) (D_weighed : Has P w K mg base 2 "weighed" ["factors", "values"] (spP C 2 (ap2 (m_weighed)))) (D_weights : Has P w K mg base 2 "weights" ["places", "place"] (spP C 2 (ap2 (m_weights)))) : Has P w K mg base 5 "value_at" ["points", "place"] (spP C 2 (ap2 (m_value_at))) := by
  refine okP (k := 4) (C := C) A sc_value_at (by decide) ?hm (fun f cdv A outer s H E hr => (xss_cons (xs_expr (xc_p (xe_has (lenCons lenNil) (takes_of rfl rfl rfl rfl) D_check_points (hr.mono (by decide)) (by rfl) (xa_cons (xe_var (de_var 0)) xa_nil))))
 (xss_cons (xs_expr (xc_p (xe_has (lenCons lenNil) (takes_of rfl rfl rfl rfl) D_check_octet (hr.mono (by decide)) (by rfl) (xa_cons (xe_var (de_var 1)) xa_nil))))
 (xss_one (xs_ret (xc_p (xe_has (lenCons (lenCons lenNil)) (takes_of rfl rfl rfl rfl) D_weighed (hr.mono (by decide)) (by rfl) (xa_cons (xe_has (lenCons (lenCons lenNil)) (takes_of rfl rfl rfl rfl) D_weights (hr.mono (by decide)) (by rfl) (xa_cons (xe_lcM (gok2 (gok_name 2) (gok_name 3)) (de_lc rfl sc_value_at.nd (xi_any (xe_var (de_var 0))) (blkOk_by (own := [("x", 2), ("y", 3)]) (N := N_value_at) (sc := defScope s_value_at) (by decide +kernel)) (fun _ _ _ _ _ => (dg_tupG rfl (dgs_cons (dg_name (i := 2) sc_value_at.nd rfl (Or.inl rfl)) (dgs_cons (dg_name (i := 3) sc_value_at.nd rfl (Or.inl rfl)) dgs_nil)))) (fun _ _ _ _ _ => dts_nil) (fun _ _ _ _ _ => (xe_var (de_var 2))) rfl (by decide))) (xa_cons (xe_var (de_var 1)) xa_nil))) (xa_cons (xe_lcM (gok2 (gok_name 2) (gok_name 3)) (de_lc rfl sc_value_at.nd (xi_any (xe_var (de_var 0))) (blkOk_by (own := [("x", 2), ("y", 3)]) (N := N_value_at) (sc := defScope s_value_at) (by decide +kernel)) (fun _ _ _ _ _ => (dg_tupG rfl (dgs_cons (dg_name (i := 2) sc_value_at.nd rfl (Or.inl rfl)) (dgs_cons (dg_name (i := 3) sc_value_at.nd rfl (Or.inl rfl)) dgs_nil)))) (fun _ _ _ _ _ => dts_nil) (fun _ _ _ _ _ => (xe_var (de_var 3))) rfl (by decide))) xa_nil)))))))))
  case hm => exact fun ds hl => match ds, hl with | [_, _], _ => by kernel_rfl
/-! _law_taken -/
abbrev s__law_taken : Stmt := topS 23
abbrev N__law_taken : List Str := ["row", "many", "found", "cell"]
theorem sc__law_taken : FnScope N__law_taken ["row", "many"] (defScope s__law_taken) := ⟨rfl, rfl, rfl, by decide +kernel, rfl, by decide +kernel, by decide +kernel⟩
theorem has__law_taken {P : Program} {w : World} {K : PySem.W.Frag} {mg : Str → Option Value} {base : Heap} {C : Str → Addr} (A : At K mg "_law_taken" s__law_taken ["row", "many"]) (z_int : mg "int" = none) (z_len : mg "len" = none) : Has P w K mg base 1 "_law_taken" ["row", "many"] (spI C pk__law_taken i__law_taken) := by
  refine okI (k := 0) (C := C) A sc__law_taken rfl (by decide) ?hm (fun f cdv A outer s H E hr => (xss_cons (xs_if (xct_p (xt_cmp dop_gt ok_gt (xv_e (xe_ix (dix_G hr.units) ok_ix (xv_var (de_var 0)) (xv_e (xe_c de_int)))) (xv_e (xe_c de_int))))
 (xss_cons (xs_set (ds_set (i := 2) sc__law_taken.nd rfl (Or.inl rfl) (xc_p (xe_op dop_mod ok_mod (xv_e (xe_callTy dc_int ok_int (by rfl) z_int (by decide +kernel) (xva_cons (xv_e (xe_ix (dix_G hr.units) ok_ix (xv_var (de_var 0)) (xv_e (xe_c de_int)))) xva_nil))) (xv_e (xe_var (de_var 1)))))))
 (xss_cons (xs_setIx (i := 0) (de_var 0) (xc_p (xe_c de_int)) (xc_p (xe_op dop_fdiv ok_fdiv (xv_e (xe_ix (dix_G hr.units) ok_ix (xv_var (de_var 0)) (xv_e (xe_c de_int)))) (xv_e (xe_var (de_var 1))))))
 (xss_one (xs_ret (xc_p (xe_var (de_var 2)))))))
 xss_nil)
 (xss_cons (xs_setIx (i := 0) (de_var 0) (xc_p (xe_c de_int)) (xc_p (xe_op dop_add ok_add (xv_e (xe_ix (dix_G hr.units) ok_ix (xv_var (de_var 0)) (xv_e (xe_c de_int)))) (xv_e (xe_c de_int)))))
 (xss_cons (xs_if (xct_p (xt_cmp dop_gt ok_gt (xv_e (xe_ix (dix_G hr.units) ok_ix (xv_var (de_var 0)) (xv_e (xe_c de_int)))) (xv_e (xe_callB dc_lenG ok_len (by rfl) z_len (by decide +kernel) (xva_cons (xv_e (xe_ix (dix_G hr.units) ok_ix (xv_var (de_var 0)) (xv_e (xe_c de_int)))) xva_nil)))))
 (xss_cons (xs_setIx (i := 0) (de_var 0) (xc_p (xe_c de_int)) (xc_p (xe_op dop_mod ok_mod (xv_e (xe_callTy dc_int ok_int (by rfl) z_int (by decide +kernel) (xva_cons (xv_e (xe_op dop_add ok_add (xv_e (xe_op dop_mulG ok_mul (xv_e (xe_ix (dix_G hr.units) ok_ix (xv_var (de_var 0)) (xv_e (xe_c de_int)))) (xv_e (xe_c de_int)))) (xv_e (xe_c de_int)))) xva_nil))) (xv_e (xe_c de_int)))))
 (xss_one (xs_ret (xc_p (xe_op dop_mod ok_mod (xv_e (xe_callTy dc_int ok_int (by rfl) z_int (by decide +kernel) (xva_cons (xv_e (xe_op dop_fdiv ok_fdiv (xv_e (xe_ix (dix_G hr.units) ok_ix (xv_var (de_var 0)) (xv_e (xe_c de_int)))) (xv_e (xe_c de_int)))) xva_nil))) (xv_e (xe_var (de_var 1))))))))
 xss_nil)
 (xss_cons (xs_set (ds_set (i := 3) sc__law_taken.nd rfl (Or.inl rfl) (xc_p (xe_ix (dix_G hr.units) ok_ix (xv_e (xe_ix (dix_G hr.units) ok_ix (xv_var (de_var 0)) (xv_e (xe_c de_int)))) (xv_e (xe_op dop_sub ok_sub (xv_e (xe_ix (dix_G hr.units) ok_ix (xv_var (de_var 0)) (xv_e (xe_c de_int)))) (xv_e (xe_c de_int))))))))
 (xss_cons (xs_setIx (i := 0) (de_var 0) (xc_p (xe_c de_int)) (xc_p (xe_op dop_mod ok_mod (xv_e (xe_callTy dc_int ok_int (by rfl) z_int (by decide +kernel) (xva_cons (xv_e (xe_op dop_add ok_add (xv_e (xe_op dop_add ok_add (xv_e (xe_op dop_mulG ok_mul (xv_e (xe_ix (dix_G hr.units) ok_ix (xv_var (de_var 0)) (xv_e (xe_c de_int)))) (xv_e (xe_c de_int)))) (xv_e (xe_var (de_var 3))))) (xv_e (xe_c de_int)))) xva_nil))) (xv_e (xe_c de_int)))))
 (xss_cons (xs_join (I := [(0, (.l true))]) (J := [(0, (.l true))]) (K := []) (xs_if (xct_p (xt_cmp dop_ge ok_ge (xv_e (xe_var (de_var 3))) (xv_e (xe_op dop_pow ok_pow (xv_e (xe_c de_int)) (xv_e (xe_c de_int))))))
 (xss_one (xs_setIx (i := 0) (de_var 0) (xc_p (xe_c de_int)) (xc_p (xe_op dop_fdiv ok_fdiv (xv_e (xe_var (de_var 3))) (xv_e (xe_var (de_var 1)))))))
 xss_nil))
 (xss_one (xs_ret (xc_p (xe_op dop_mod ok_mod (xv_e (xe_callTy dc_int ok_int (by rfl) z_int (by decide +kernel) (xva_cons (xv_e (xe_var (de_var 3))) xva_nil))) (xv_e (xe_var (de_var 1))))))))))))))
  case hm => exact fun vs c => match vs with | [_] => .inr (by kernel_rfl) | [] => .inl rfl | _ :: _ :: _ => .inl rfl
/-! _law_pick -/
abbrev s__law_pick : Stmt := topS 24
abbrev N__law_pick : List Str := ["row", "some"]
theorem sc__law_pick : FnScope N__law_pick ["row", "some"] (defScope s__law_pick) := ⟨rfl, rfl, rfl, by decide +kernel, rfl, by decide +kernel, by decide +kernel⟩
theorem has__law_pick {P : Program} {w : World} {K : PySem.W.Frag} {mg : Str → Option Value} {base : Heap} {C : Str → Addr} (A : At K mg "_law_pick" s__law_pick ["row", "some"]) (D__law_taken : Has P w K mg base 1 "_law_taken" ["row", "many"] (spI C pk__law_taken i__law_taken)) (z_len : mg "len" = none) : Has P w K mg base 2 "_law_pick" ["row", "some"] (spI C pk__law_pick i__law_pick) := by
  refine okI (k := 1) (C := C) A sc__law_pick rfl (by decide) ?hm (fun f cdv A outer s H E hr => (xss_one (xs_ret (xc_ix (dix_G hr.units) ok_ix (xc_p (xe_var (de_var 1))) (xc_hasI (takes_of rfl rfl rfl rfl) D__law_taken (hr.mono (by decide)) (by rfl) (xac_ref (i := 0) (de_var 0) (xac_val (xc_p (xe_callB dc_lenG ok_len (by rfl) z_len (by decide +kernel) (xva_cons (xv_e (xe_var (de_var 1))) xva_nil))) xac_nil)))))))
  case hm => exact fun vs c => match vs with | [_] => .inr (by kernel_rfl) | [] => .inl rfl | _ :: _ :: _ => .inl rfl
/-! _law_alike -/
abbrev s__law_alike : Stmt := topS 25
abbrev N__law_alike : List Str := ["found", "due", "k", "key"]
theorem sc__law_alike : FnScope N__law_alike ["found", "due"] (defScope s__law_alike) := ⟨rfl, rfl, rfl, by decide +kernel, rfl, by decide +kernel, by decide +kernel⟩
theorem has__law_alike {P : Program} {w : World} {K : PySem.W.Frag} {mg : Str → Option Value} {base : Heap} {C : Str → Addr} (A : At K mg "_law_alike" s__law_alike ["found", "due"]) (z_bool : mg "bool" = none) (z_dict : mg "dict" = none) (z_int : mg "int" = none) (z_isinstance : mg "isinstance" = none) (z_len : mg "len" = none) (z_list : mg "list" = none) (z_range : mg "range" = none) (z_str : mg "str" = none) (z_tuple : mg "tuple" = none) : Has P w K mg base 13 "_law_alike" ["found", "due"] (spP C 2 (ap2 (m__law_alike 12))) := by
  have key : ∀ n, Has P w K mg base (1 + n) "_law_alike" ["found", "due"] (spP C 2 (ap2 (m__law_alike n))) := by
    intro n
    induction n with
    | zero => exact okH (k := 0) A sc__law_alike (fun ds S Q E h => h.1) fun f cdv A outer s H E hr => ⟨dNever, dss_never, fun ds S Q E ⟨hl, hp⟩ => by
        match ds, hl with
        | [_, _], _ => exact hp.elim⟩
    | succ n D__law_alike =>
      refine okP (k := 1 + n) (C := C) A sc__law_alike (by decide) ?hm (fun f cdv A outer s H E hr => (xss_cons (xs_if (xct_p (xt_b (xb_callB dc_isi ok_isi (by rfl) z_isinstance (by decide +kernel) (xva_cons (xv_e (xe_var (de_var 1))) (xva_cons (xv_e (xe_tup (lenCons (lenCons lenNil)) (xa_cons (xe_c (de_ty (by rfl) z_tuple boot_tuple)) (xa_cons (xe_c (de_ty (by rfl) z_list boot_list)) xa_nil)))) xva_nil)))))
 (xss_cons (xs_if (xct_p (xw_t (xw_or (xt_not (xt_b (xb_callB dc_isi ok_isi (by rfl) z_isinstance (by decide +kernel) (xva_cons (xv_e (xe_var (de_var 0))) (xva_cons (xv_e (xe_tup (lenCons (lenCons lenNil)) (xa_cons (xe_c (de_ty (by rfl) z_tuple boot_tuple)) (xa_cons (xe_c (de_ty (by rfl) z_list boot_list)) xa_nil)))) xva_nil))))) (xw_or1 (xt_cmp (dop_neG hr.units) ok_ne (xv_e (xe_b (xb_callB dc_isi ok_isi (by rfl) z_isinstance (by decide +kernel) (xva_cons (xv_e (xe_var (de_var 0))) (xva_cons (xv_e (xe_c (de_ty (by rfl) z_list boot_list))) xva_nil))))) (xv_e (xe_b (xb_callB dc_isi ok_isi (by rfl) z_isinstance (by decide +kernel) (xva_cons (xv_e (xe_var (de_var 1))) (xva_cons (xv_e (xe_c (de_ty (by rfl) z_list boot_list))) xva_nil))))))))))
 (xss_one (xs_ret (xc_p (xe_c de_bl))))
 xss_nil)
 (xss_cons (xs_if (xct_p (xt_cmp (dop_neG hr.units) ok_ne (xv_e (xe_callB dc_lenG ok_len (by rfl) z_len (by decide +kernel) (xva_cons (xv_e (xe_var (de_var 0))) xva_nil))) (xv_e (xe_callB dc_lenG ok_len (by rfl) z_len (by decide +kernel) (xva_cons (xv_e (xe_var (de_var 1))) xva_nil)))))
 (xss_one (xs_ret (xc_p (xe_c de_bl))))
 xss_nil)
 (xss_one (xs_ret (xc_p (xe_b (xb_cmp (dop_eqG hr.units) ok_eq (xv_e (xe_lc (gok_name 2) (de_lc rfl sc__law_alike.nd (xi_range1 (by rfl) z_range (xe_callB dc_lenG ok_len (by rfl) z_len (by decide +kernel) (xva_cons (xv_e (xe_var (de_var 1))) xva_nil))) (blkOk_by (own := [("k", 2)]) (N := N__law_alike) (sc := defScope s__law_alike) (by decide +kernel)) (fun _ _ _ _ _ => (dg_name (i := 2) sc__law_alike.nd rfl (Or.inl rfl))) (fun _ _ _ _ _ => (dts_one (xt_not (xt_tru ok_tru (xv_e (xe_has (lenCons (lenCons lenNil)) takes0 D__law_alike hr (by rfl) (xa_cons (xe_ix (dix_G hr.units) ok_ix (xv_e (xe_var (de_var 0))) (xv_e (xe_var (de_var 2)))) (xa_cons (xe_ix (dix_G hr.units) ok_ix (xv_e (xe_var (de_var 1))) (xv_e (xe_var (de_var 2)))) xa_nil)))))))) (fun _ _ _ _ _ => (xe_var (de_var 2))) rfl (by decide)))) (xv_e (xe_lst lenNil xa_nil)))))))))
 xss_nil)
 (xss_cons (xs_if (xct_p (xt_b (xb_callB dc_isi ok_isi (by rfl) z_isinstance (by decide +kernel) (xva_cons (xv_e (xe_var (de_var 1))) (xva_cons (xv_e (xe_c (de_ty (by rfl) z_dict boot_dict))) xva_nil)))))
 (xss_cons (xs_if (xct_p (xw_t (xw_or (xt_not (xt_b (xb_callB dc_isi ok_isi (by rfl) z_isinstance (by decide +kernel) (xva_cons (xv_e (xe_var (de_var 0))) (xva_cons (xv_e (xe_c (de_ty (by rfl) z_dict boot_dict))) xva_nil))))) (xw_or1 (xt_cmp (dop_neG hr.units) ok_ne (xv_e (xe_callTy (dc_listG rfl) ok_list (by rfl) z_list (by decide +kernel) (xva_cons (xv_e (xe_var (de_var 0))) xva_nil))) (xv_e (xe_callTy (dc_listG rfl) ok_list (by rfl) z_list (by decide +kernel) (xva_cons (xv_e (xe_var (de_var 1))) xva_nil))))))))
 (xss_one (xs_ret (xc_p (xe_c de_bl))))
 xss_nil)
 (xss_one (xs_ret (xc_p (xe_b (xb_cmp (dop_eqG hr.units) ok_eq (xv_e (xe_lc (gok_name 3) (de_lc rfl sc__law_alike.nd (xi_any (xe_var (de_var 1))) (blkOk_by (own := [("key", 3)]) (N := N__law_alike) (sc := defScope s__law_alike) (by decide +kernel)) (fun _ _ _ _ _ => (dg_name (i := 3) sc__law_alike.nd rfl (Or.inl rfl))) (fun _ _ _ _ _ => (dts_one (xt_not (xt_tru ok_tru (xv_e (xe_has (lenCons (lenCons lenNil)) takes0 D__law_alike hr (by rfl) (xa_cons (xe_ix (dix_G hr.units) ok_ix (xv_e (xe_var (de_var 0))) (xv_e (xe_var (de_var 3)))) (xa_cons (xe_ix (dix_G hr.units) ok_ix (xv_e (xe_var (de_var 1))) (xv_e (xe_var (de_var 3)))) xa_nil)))))))) (fun _ _ _ _ _ => (xe_var (de_var 3))) rfl (by decide)))) (xv_e (xe_lst lenNil xa_nil))))))))
 xss_nil)
 (xss_cons (xs_if (xct_p (xw_t (xw_or (xt_isN (xv_e (xe_var (de_var 1)))) (xw_or1 (xt_b (xb_callB dc_isi ok_isi (by rfl) z_isinstance (by decide +kernel) (xva_cons (xv_e (xe_var (de_var 1))) (xva_cons (xv_e (xe_c (de_ty (by rfl) z_str boot_str))) xva_nil))))))))
 (xss_one (xs_ret (xc_p (xe_b (xb_and (xb_cmp (dop_eqG hr.units) ok_eq (xv_e (xe_var (de_var 0))) (xv_e (xe_var (de_var 1)))) (xb_one (xb_cmp (dop_eqG hr.units) ok_eq (xv_e (xe_b (xb_callB dc_isi ok_isi (by rfl) z_isinstance (by decide +kernel) (xva_cons (xv_e (xe_var (de_var 0))) (xva_cons (xv_e (xe_c (de_ty (by rfl) z_str boot_str))) xva_nil))))) (xv_e (xe_b (xb_callB dc_isi ok_isi (by rfl) z_isinstance (by decide +kernel) (xva_cons (xv_e (xe_var (de_var 1))) (xva_cons (xv_e (xe_c (de_ty (by rfl) z_str boot_str))) xva_nil))))))))))))
 xss_nil)
 (xss_one (xs_ret (xc_p (xe_b (xb_and (xb_callB dc_isi ok_isi (by rfl) z_isinstance (by decide +kernel) (xva_cons (xv_e (xe_var (de_var 0))) (xva_cons (xv_e (xe_c (de_ty (by rfl) z_int boot_int))) xva_nil))) (xb_and (xb_cmp (dop_eqG hr.units) ok_eq (xv_e (xe_b (xb_callB dc_isi ok_isi (by rfl) z_isinstance (by decide +kernel) (xva_cons (xv_e (xe_var (de_var 0))) (xva_cons (xv_e (xe_c (de_ty (by rfl) z_bool boot_bool))) xva_nil))))) (xv_e (xe_b (xb_callB dc_isi ok_isi (by rfl) z_isinstance (by decide +kernel) (xva_cons (xv_e (xe_var (de_var 1))) (xva_cons (xv_e (xe_c (de_ty (by rfl) z_bool boot_bool))) xva_nil)))))) (xb_one (xb_cmp (dop_eqG hr.units) ok_eq (xv_e (xe_var (de_var 0))) (xv_e (xe_var (de_var 1)))))))))))))))
      case hm => exact fun ds hl => match ds, hl with | [_, _], _ => by kernel_rfl
  exact key 12
/-! _law_any -/
abbrev s__law_any : Stmt := topS 26
abbrev N__law_any : List Str := ["row", "number", "some"]
theorem sc__law_any : FnScope N__law_any ["row"] (defScope s__law_any) := ⟨rfl, rfl, rfl, by decide +kernel, rfl, by decide +kernel, by decide +kernel⟩
theorem has__law_any {P : Program} {w : World} {K : PySem.W.Frag} {mg : Str → Option Value} {base : Heap} {C : Str → Addr} (A : At K mg "_law_any" s__law_any ["row"]) (D__law_pick : Has P w K mg base 2 "_law_pick" ["row", "some"] (spI C pk__law_pick i__law_pick)) : Has P w K mg base 3 "_law_any" ["row"] (spI C pk__law_any i__law_any) := by
  refine okI (k := 2) (C := C) A sc__law_any rfl (by decide) ?hm (fun f cdv A outer s H E hr => (xss_cons (xs_set (ds_set (i := 1) sc__law_any.nd rfl (Or.inl rfl) (xc_hasI (takes_of rfl rfl rfl rfl) D__law_pick (hr.mono (by decide)) (by rfl) (xac_ref (i := 0) (de_var 0) (xac_val (xc_p (xe_lst (lenCons (lenCons (lenCons (lenCons (lenCons (lenCons (lenCons (lenCons (lenCons (lenCons (lenCons (lenCons lenNil)))))))))))) (xa_cons (xe_neg ok_neg (xe_c de_int)) (xa_cons (xe_c de_int) (xa_cons (xe_c de_int) (xa_cons (xe_c de_int) (xa_cons (xe_c de_int) (xa_cons (xe_c de_int) (xa_cons (xe_c de_int) (xa_cons (xe_c de_int) (xa_cons (xe_c de_int) (xa_cons (xe_op dop_pow ok_pow (xv_e (xe_c de_int)) (xv_e (xe_c de_int))) (xa_cons (xe_op dop_add ok_add (xv_e (xe_op dop_pow ok_pow (xv_e (xe_c de_int)) (xv_e (xe_c de_int)))) (xv_e (xe_c de_int))) (xa_cons (xe_op dop_pow ok_pow (xv_e (xe_c de_int)) (xv_e (xe_c de_int))) xa_nil)))))))))))))) xac_nil)))))
 (xss_cons (xs_set (ds_set (i := 2) sc__law_any.nd rfl (Or.inl rfl) (xc_p (xe_lst (lenCons (lenCons (lenCons (lenCons (lenCons (lenCons (lenCons (lenCons (lenCons (lenCons (lenCons (lenCons (lenCons (lenCons lenNil)))))))))))))) (xa_cons (xe_c de_non) (xa_cons (xe_c de_bl) (xa_cons (xe_c de_bl) (xa_cons (xe_var (de_var 1)) (xa_cons (xe_c de_str) (xa_cons (xe_c de_str) (xa_cons (xe_c de_str) (xa_cons (xe_tup lenNil xa_nil) (xa_cons (xe_lst lenNil xa_nil) (xa_cons (xe_c de_dict0) (xa_cons (xe_tup (lenCons lenNil) (xa_cons (xe_var (de_var 1)) xa_nil)) (xa_cons (xe_lst (lenCons (lenCons lenNil)) (xa_cons (xe_var (de_var 1)) (xa_cons (xe_c de_non) xa_nil))) (xa_cons (xe_disp (.cons (xe_c de_str) (xe_var (de_var 1)) .nil) rfl rfl (by simp) (by decide)) (xa_cons (xe_tup (lenCons (lenCons lenNil)) (xa_cons (xe_c de_int) (xa_cons (xe_tup (lenCons lenNil) (xa_cons (xe_c de_int) xa_nil)) xa_nil))) xa_nil))))))))))))))))))
 (xss_one (xs_ret (xc_hasI (takes_of rfl rfl rfl rfl) D__law_pick (hr.mono (by decide)) (by rfl) (xac_ref (i := 0) (de_var 0) (xac_val (xc_p (xe_var (de_var 2))) xac_nil))))))))
  case hm => exact fun vs c => match vs with | [] => .inr (by kernel_rfl) | _ :: _ => .inl rfl
/-! _law_slow -/
abbrev s__law_slow : Stmt := topS 27
abbrev N__law_slow : List Str := ["one", "other", "found", "left", "more", "k"]
theorem sc__law_slow : FnScope N__law_slow ["one", "other"] (defScope s__law_slow) := ⟨rfl, rfl, rfl, by decide +kernel, rfl, by decide +kernel, by decide +kernel⟩
theorem has__law_slow {P : Program} {w : World} {K : PySem.W.Frag} {mg : Str → Option Value} {base : Heap} {C : Str → Addr} (A : At K mg "_law_slow" s__law_slow ["one", "other"]) (z_int : mg "int" = none) (z_range : mg "range" = none) : Has P w K mg base 1 "_law_slow" ["one", "other"] (spP C 2 (ap2 (m__law_slow))) := by
  refine okP (k := 0) (C := C) A sc__law_slow (by decide) ?hm (fun f cdv A outer s H E hr => (xss_cons (xs_par3 (ds_par3 (i := 2) (j := 3) (l := 4) rfl sc__law_slow.nd rfl rfl rfl (by decide) (by decide) (by decide) rfl rfl rfl (da_cons (xc_p (xe_c de_int)) (da_cons (xc_p (xe_var (de_var 0))) (da_cons (xc_p (xe_var (de_var 1))) da_nil)))))
 (xss_cons (xs_for (I := []) (J := [(2, .d), (3, .d), (4, .d)]) (K := [5]) (passes_of rfl) rfl (xi_range1 (by rfl) z_range (xe_c de_int)) (dg_name (i := 5) sc__law_slow.nd rfl (Or.inl rfl)) (gok_name 5)
 (xss_cons (xs_join (I := []) (J := [(2, .d)]) (K := []) (xs_if (xct_p (xt_cmp (dop_eqG hr.units) ok_eq (xv_e (xe_op dop_mod ok_mod (xv_e (xe_callTy dc_int ok_int (by rfl) z_int (by decide +kernel) (xva_cons (xv_e (xe_var (de_var 4))) xva_nil))) (xv_e (xe_c de_int)))) (xv_e (xe_c de_int))))
 (xss_one (xs_set (ds_set (i := 2) sc__law_slow.nd rfl (Or.inl rfl) (xc_p (xe_op dop_xor ok_xor (xv_e (xe_var (de_var 2))) (xv_e (xe_var (de_var 3))))))))
 xss_nil))
 (xss_cons (xs_set (ds_set (i := 4) sc__law_slow.nd rfl (Or.inl rfl) (xc_p (xe_op dop_fdiv ok_fdiv (xv_e (xe_var (de_var 4))) (xv_e (xe_c de_int))))))
 (xss_cons (xs_set (ds_set (i := 3) sc__law_slow.nd rfl (Or.inl rfl) (xc_p (xe_op dop_mulG ok_mul (xv_e (xe_var (de_var 3))) (xv_e (xe_c de_int))))))
 (xss_one (xs_join (I := []) (J := [(3, .d)]) (K := []) (xs_if (xct_p (xt_cmp dop_gt ok_gt (xv_e (xe_var (de_var 3))) (xv_e (xe_c de_int))))
 (xss_one (xs_set (ds_set (i := 3) sc__law_slow.nd rfl (Or.inl rfl) (xc_p (xe_op dop_xor ok_xor (xv_e (xe_op dop_sub ok_sub (xv_e (xe_var (de_var 3))) (xv_e (xe_c de_int)))) (xv_e (xe_c de_int)))))))
 xss_nil)))))))
 (xss_one (xs_ret (xc_p (xe_var (de_var 2))))))))
  case hm => exact fun ds hl => match ds, hl with | [_, _], _ => by kernel_rfl
/-! _law_value -/
abbrev s__law_value : Stmt := topS 28
abbrev N__law_value : List Str := ["coefficients", "place", "found", "one"]
theorem sc__law_value : FnScope N__law_value ["coefficients", "place"] (defScope s__law_value) := ⟨rfl, rfl, rfl, by decide +kernel, rfl, by decide +kernel, by decide +kernel⟩
theorem has__law_value {P : Program} {w : World} {K : PySem.W.Frag} {mg : Str → Option Value} {base : Heap} {C : Str → Addr} (A : At K mg "_law_value" s__law_value ["coefficients", "place"]) (D__law_slow : Has P w K mg base 1 "_law_slow" ["one", "other"] (spP C 2 (ap2 (m__law_slow)))) : Has P w K mg base 2 "_law_value" ["coefficients", "place"] (spP C 2 (ap2 (m__law_value))) := by
  refine okP (k := 1) (C := C) A sc__law_value (by decide) ?hm (fun f cdv A outer s H E hr => (xss_cons (xs_set (ds_set (i := 2) sc__law_value.nd rfl (Or.inl rfl) (xc_p (xe_c de_int))))
 (xss_cons (xs_for (I := []) (J := [(2, .d)]) (K := [3]) (passes_of rfl) rfl (xi_any (xe_var (de_var 0))) (dg_name (i := 3) sc__law_value.nd rfl (Or.inl rfl)) (gok_name 3)
 (xss_one (xs_set (ds_set (i := 2) sc__law_value.nd rfl (Or.inl rfl) (xc_p (xe_op dop_xor ok_xor (xv_e (xe_has (lenCons (lenCons lenNil)) (takes_of rfl rfl rfl rfl) D__law_slow (hr.mono (by decide)) (by rfl) (xa_cons (xe_var (de_var 2)) (xa_cons (xe_var (de_var 1)) xa_nil)))) (xv_e (xe_var (de_var 3)))))))))
 (xss_one (xs_ret (xc_p (xe_var (de_var 2))))))))
  case hm => exact fun ds hl => match ds, hl with | [_, _], _ => by kernel_rfl
/-! _law_told -/
abbrev s__law_told : Stmt := topS 29
abbrev N__law_told : List Str := ["points", "place", "e", "kinds"]
theorem sc__law_told : FnScope N__law_told ["points", "place"] (defScope s__law_told) := ⟨rfl, rfl, rfl, by decide +kernel, rfl, by decide +kernel, by decide +kernel⟩
theorem has__law_told {P : Program} {w : World} {K : PySem.W.Frag} {mg : Str → Option Value} {base : Heap} {C : Str → Addr} (A : At K mg "_law_told" s__law_told ["points", "place"]) (D_value_at : Has P w K mg base 5 "value_at" ["points", "place"] (spP C 2 (ap2 (m_value_at)))) (z_isinstance : mg "isinstance" = none) (ET : ErrT K mg C T_errs U_errs) : Has P w K mg base 6 "_law_told" ["points", "place"] (spP C 2 (ap2 (m__law_told))) := by
  refine okP (k := 5) (C := C) A sc__law_told (by decide) ?hm (fun f cdv A outer s H E hr => (xss_one (xs_tryAs (i := 2) rfl rfl sc__law_told.nd rfl rfl (takes_of rfl rfl rfl rfl) ET (by simp) (by rfl) (by decide) (fun W pn xe tk ps =>
 (xss_one (xs_ret (xc_p (xe_lst (lenCons lenNil) (xa_cons (xe_has (lenCons (lenCons lenNil)) tk D_value_at (hr.mono (by decide)) (by rfl) (xa_cons (xe_var (de_var 0)) (xa_cons (xe_var (de_var 1)) xa_nil))) xa_nil))))))
 (fun a oe x d pn hx hz hf =>
 (xss_cons (xs_set (ds_set (i := 3) sc__law_told.nd rfl (Or.inl rfl) (xc_p (xe_lst (lenCons (lenCons lenNil)) (xa_cons (xe_b (xb_isX (de_isX (i := 2) (y := "BadPoints") ET hx hz hf (by simp) (by rfl) z_isinstance rfl (Or.inl rfl) (by rfl)))) (xa_cons (xe_b (xb_isX (de_isX (i := 2) (y := "BadOctet") ET hx hz hf (by simp) (by rfl) z_isinstance rfl (Or.inl rfl) (by rfl)))) xa_nil))))))
 (xss_one (xs_ret (xc_p (xe_tup (lenCons (lenCons lenNil)) (xa_cons (xe_ifE (xt_cmp (dop_eqG hr.units) ok_eq (xv_e (xe_m1 PySem.F.plainAttrs_list PySem.F.slot_list_count PySem.F.type_list_count (dm_count hr.units65) ok_count (xv_e (xe_var (de_var 3))) (xv_e (xe_c de_bl)))) (xv_e (xe_c de_int))) (xe_m1 PySem.F.plainAttrs_list PySem.F.slot_list_index PySem.F.type_list_index (dm_index hr.units65) ok_index (xv_e (xe_var (de_var 3))) (xv_e (xe_c de_bl))) (xe_c de_int)) (xa_cons (xe_xf (de_xf (i := 2) ET hx (ET.fld _ hx) hz hf rfl (Or.inl rfl))) xa_nil)))))))))))
  case hm => exact fun ds hl => match ds, hl with | [_, _], _ => by kernel_rfl
/-! _law_is_octet -/
abbrev s__law_is_octet : Stmt := topS 31
abbrev N__law_is_octet : List Str := ["thing"]
theorem sc__law_is_octet : FnScope N__law_is_octet ["thing"] (defScope s__law_is_octet) := ⟨rfl, rfl, rfl, by decide +kernel, rfl, by decide +kernel, by decide +kernel⟩
theorem has__law_is_octet {P : Program} {w : World} {K : PySem.W.Frag} {mg : Str → Option Value} {base : Heap} {C : Str → Addr} (A : At K mg "_law_is_octet" s__law_is_octet ["thing"]) (z_bool : mg "bool" = none) (z_int : mg "int" = none) (z_isinstance : mg "isinstance" = none) : Has P w K mg base 1 "_law_is_octet" ["thing"] (spP C 1 (ap1 (m__law_is_octet))) := by
  refine okP (k := 0) (C := C) A sc__law_is_octet (by decide) ?hm (fun f cdv A outer s H E hr => (xss_one (xs_ret (xc_p (xe_b (xb_and (xb_callB dc_isi ok_isi (by rfl) z_isinstance (by decide +kernel) (xva_cons (xv_e (xe_var (de_var 0))) (xva_cons (xv_e (xe_c (de_ty (by rfl) z_int boot_int))) xva_nil))) (xb_and (xb_not (xb_callB dc_isi ok_isi (by rfl) z_isinstance (by decide +kernel) (xva_cons (xv_e (xe_var (de_var 0))) (xva_cons (xv_e (xe_c (de_ty (by rfl) z_bool boot_bool))) xva_nil)))) (xb_one (xb_chain dop_le ok_le dop_le ok_le (xv_e (xe_c de_int)) (xv_e (xe_var (de_var 0))) (xv_e (xe_c de_int)))))))))))
  case hm => exact fun ds hl => match ds, hl with | [_], _ => by kernel_rfl
/-! _law_due -/
abbrev s__law_due : Stmt := topS 30
abbrev N__law_due : List Str := ["points", "place", "k", "one"]
theorem sc__law_due : FnScope N__law_due ["points", "place"] (defScope s__law_due) := ⟨rfl, rfl, rfl, by decide +kernel, rfl, by decide +kernel, by decide +kernel⟩
theorem has__law_due {P : Program} {w : World} {K : PySem.W.Frag} {mg : Str → Option Value} {base : Heap} {C : Str → Addr} (A : At K mg "_law_due" s__law_due ["points", "place"]) (D__law_is_octet : Has P w K mg base 1 "_law_is_octet" ["thing"] (spP C 1 (ap1 (m__law_is_octet)))) (z_isinstance : mg "isinstance" = none) (z_len : mg "len" = none) (z_list : mg "list" = none) (z_range : mg "range" = none) (z_tuple : mg "tuple" = none) : Has P w K mg base 2 "_law_due" ["points", "place"] (spP C 2 (ap2 (m__law_due))) := by
  refine okP (k := 1) (C := C) A sc__law_due (by decide) ?hm (fun f cdv A outer s H E hr => (xss_cons (xs_if (xct_p (xw_t (xw_or (xt_not (xt_b (xb_callB dc_isi ok_isi (by rfl) z_isinstance (by decide +kernel) (xva_cons (xv_e (xe_var (de_var 0))) (xva_cons (xv_e (xe_tup (lenCons (lenCons lenNil)) (xa_cons (xe_c (de_ty (by rfl) z_list boot_list)) (xa_cons (xe_c (de_ty (by rfl) z_tuple boot_tuple)) xa_nil)))) xva_nil))))) (xw_or1 (xt_not (xt_chain dop_le ok_le dop_le ok_le (xv_e (xe_c de_int)) (xv_e (xe_callB dc_lenG ok_len (by rfl) z_len (by decide +kernel) (xva_cons (xv_e (xe_var (de_var 0))) xva_nil))) (xv_e (xe_c de_int))))))))
 (xss_one (xs_ret (xc_p (xe_tup (lenCons (lenCons lenNil)) (xa_cons (xe_c de_int) (xa_cons (xe_neg ok_neg (xe_c de_int)) xa_nil))))))
 xss_nil)
 (xss_cons (xs_for (I := []) (J := []) (K := [2, 3]) (passes_of rfl) rfl (xi_range1 (by rfl) z_range (xe_callB dc_lenG ok_len (by rfl) z_len (by decide +kernel) (xva_cons (xv_e (xe_var (de_var 0))) xva_nil))) (dg_name (i := 2) sc__law_due.nd rfl (Or.inl rfl)) (gok_name 2)
 (xss_cons (xs_if (xct_p (xw_t (xw_or (xt_not (xt_b (xb_callB dc_isi ok_isi (by rfl) z_isinstance (by decide +kernel) (xva_cons (xv_e (xe_ix (dix_G hr.units) ok_ix (xv_e (xe_var (de_var 0))) (xv_e (xe_var (de_var 2))))) (xva_cons (xv_e (xe_c (de_ty (by rfl) z_tuple boot_tuple))) xva_nil))))) (xw_or1 (xt_cmp (dop_neG hr.units) ok_ne (xv_e (xe_callB dc_lenG ok_len (by rfl) z_len (by decide +kernel) (xva_cons (xv_e (xe_ix (dix_G hr.units) ok_ix (xv_e (xe_var (de_var 0))) (xv_e (xe_var (de_var 2))))) xva_nil))) (xv_e (xe_c de_int)))))))
 (xss_one (xs_ret (xc_p (xe_tup (lenCons (lenCons lenNil)) (xa_cons (xe_c de_int) (xa_cons (xe_var (de_var 2)) xa_nil))))))
 xss_nil)
 (xss_cons (xs_if (xct_p (xw_t (xw_or (xt_not (xt_tru ok_tru (xv_e (xe_has (lenCons lenNil) (takes_of rfl rfl rfl rfl) D__law_is_octet (hr.mono (by decide)) (by rfl) (xa_cons (xe_ix (dix_G hr.units) ok_ix (xv_e (xe_ix (dix_G hr.units) ok_ix (xv_e (xe_var (de_var 0))) (xv_e (xe_var (de_var 2))))) (xv_e (xe_c de_int))) xa_nil))))) (xw_or1 (xt_not (xt_tru ok_tru (xv_e (xe_has (lenCons lenNil) (takes_of rfl rfl rfl rfl) D__law_is_octet (hr.mono (by decide)) (by rfl) (xa_cons (xe_ix (dix_G hr.units) ok_ix (xv_e (xe_ix (dix_G hr.units) ok_ix (xv_e (xe_var (de_var 0))) (xv_e (xe_var (de_var 2))))) (xv_e (xe_c de_int))) xa_nil)))))))))
 (xss_one (xs_ret (xc_p (xe_tup (lenCons (lenCons lenNil)) (xa_cons (xe_c de_int) (xa_cons (xe_var (de_var 2)) xa_nil))))))
 xss_nil)
 (xss_one (xs_if (xct_p (xt_cmp (dop_inG hr.units) ok_in (xv_e (xe_ix (dix_G hr.units) ok_ix (xv_e (xe_ix (dix_G hr.units) ok_ix (xv_e (xe_var (de_var 0))) (xv_e (xe_var (de_var 2))))) (xv_e (xe_c de_int)))) (xv_e (xe_lcM (gok_name 3) (de_lc rfl sc__law_due.nd (xi_any (xe_slice ok_sl (xv_e (xe_var (de_var 0))) xo_none (xo_some (xe_var (de_var 2))))) (blkOk_by (own := [("one", 3)]) (N := N__law_due) (sc := defScope s__law_due) (by decide +kernel)) (fun _ _ _ _ _ => (dg_name (i := 3) sc__law_due.nd rfl (Or.inl rfl))) (fun _ _ _ _ _ => dts_nil) (fun _ _ _ _ _ => (xe_ix (dix_G hr.units) ok_ix (xv_e (xe_var (de_var 3))) (xv_e (xe_c de_int)))) rfl (by decide))))))
 (xss_one (xs_ret (xc_p (xe_tup (lenCons (lenCons lenNil)) (xa_cons (xe_c de_int) (xa_cons (xe_var (de_var 2)) xa_nil))))))
 xss_nil)))))
 (xss_one (xs_ret (xc_p (xe_ifE (xt_tru ok_tru (xv_e (xe_has (lenCons lenNil) (takes_of rfl rfl rfl rfl) D__law_is_octet (hr.mono (by decide)) (by rfl) (xa_cons (xe_var (de_var 1)) xa_nil)))) (xe_c de_non) (xe_tup (lenCons (lenCons lenNil)) (xa_cons (xe_c de_int) (xa_cons (xe_var (de_var 1)) xa_nil))))))))))
  case hm => exact fun ds hl => match ds, hl with | [_, _], _ => by kernel_rfl
/-! law -/
abbrev s_law : Stmt := topS 32
abbrev N_law : List Str := ["script", "row", "turn", "many", "degree", "coefficients", "places", "k", "place", "points", "given", "kind", "at", "bad", "due", "told", "one"]
theorem sc_law : FnScope N_law ["script"] (defScope s_law) := ⟨rfl, rfl, rfl, by decide +kernel, rfl, by decide +kernel, by decide +kernel⟩
theorem fn_law {P : Program} {w : World} {K : PySem.W.Frag} {mg : Str → Option Value} {base : Heap} {C : Str → Addr} (law_ok : ∀ ns : List Int, ns.length ≤ 63 → m_law (.scr ns) = .ok (.bl true) ()) {f : Addr} {fd : FuncData} (F : Fun K "law" "law" s_law f fd) (D__law_taken : Has P w K mg base 1 "_law_taken" ["row", "many"] (spI C pk__law_taken i__law_taken)) (D__law_pick : Has P w K mg base 2 "_law_pick" ["row", "some"] (spI C pk__law_pick i__law_pick)) (D__law_value : Has P w K mg base 2 "_law_value" ["coefficients", "place"] (spP C 2 (ap2 (m__law_value)))) (D__law_alike : Has P w K mg base 13 "_law_alike" ["found", "due"] (spP C 2 (ap2 (m__law_alike 12)))) (D__law_told : Has P w K mg base 6 "_law_told" ["points", "place"] (spP C 2 (ap2 (m__law_told)))) (D__law_any : Has P w K mg base 3 "_law_any" ["row"] (spI C pk__law_any i__law_any)) (D__law_due : Has P w K mg base 2 "_law_due" ["points", "place"] (spP C 2 (ap2 (m__law_due)))) (z_list : mg "list" = none) (z_range : mg "range" = none) (z_tuple : mg "tuple" = none) : FnOk P w K mg base (L2.CX P w) 14 f fd ["script"] (lift K spLaw) := by
  refine okLaw (k := 13) (C := C) (m := m_law) F sc_law (by decide) ?hm law_ok (fun f cdv A outer s H E hr => (xss_cons (xs_setL (ds_set (i := 1) sc_law.nd rfl (Or.inr rfl) (xf_lst (lenCons (lenCons (lenCons (lenCons lenNil)))) (xa_cons (xe_var (de_var 0)) (xa_cons (xe_c de_int) (xa_cons (xe_c de_int) (xa_cons (xe_c de_int) xa_nil)))))))
 (xss_cons (xs_for (I := []) (J := [(1, (.l false))]) (K := [2, 3, 4, 5, 6, 7, 8, 9, 10, 11, 12, 13, 14, 15, 16]) (passes_of rfl) rfl (xi_range1 (by rfl) z_range (xe_c de_int)) (dg_name (i := 2) sc_law.nd rfl (Or.inl rfl)) (gok_name 2)
 (xss_cons (xs_set (ds_set (i := 3) sc_law.nd rfl (Or.inl rfl) (xc_join (I := [(1, (.l false))]) (xc_ifE (xct_cmp dop_gt ok_gt (xc_hasI (takes_of rfl rfl rfl rfl) D__law_taken (hr.mono (by decide)) (by rfl) (xac_ref (i := 1) (de_var 1) (xac_val (xc_p (xe_c de_int)) xac_nil))) (xc_p (xe_c de_int))) (xc_op dop_add ok_add (xc_p (xe_c de_int)) (xc_hasI (takes_of rfl rfl rfl rfl) D__law_taken (hr.mono (by decide)) (by rfl) (xac_ref (i := 1) (de_var 1) (xac_val (xc_p (xe_c de_int)) xac_nil)))) (xc_op dop_add ok_add (xc_p (xe_c de_int)) (xc_hasI (takes_of rfl rfl rfl rfl) D__law_taken (hr.mono (by decide)) (by rfl) (xac_ref (i := 1) (de_var 1) (xac_val (xc_p (xe_c de_int)) xac_nil))))))))
 (xss_cons (xs_set (ds_set (i := 4) sc_law.nd rfl (Or.inl rfl) (xc_join (I := [(1, (.l false))]) (xc_ifE (xct_cmp dop_gt ok_gt (xc_hasI (takes_of rfl rfl rfl rfl) D__law_taken (hr.mono (by decide)) (by rfl) (xac_ref (i := 1) (de_var 1) (xac_val (xc_p (xe_c de_int)) xac_nil))) (xc_p (xe_c de_int))) (xc_p (xe_var (de_var 3))) (xc_op dop_add ok_add (xc_p (xe_c de_int)) (xc_hasI (takes_of rfl rfl rfl rfl) D__law_taken (hr.mono (by decide)) (by rfl) (xac_ref (i := 1) (de_var 1) (xac_val (xc_p (xe_var (de_var 3))) xac_nil))))))))
 (xss_cons (xs_set (ds_set (i := 5) sc_law.nd rfl (Or.inr rfl) (xc_lcC (I := [(1, (.l false))]) (gok_name 7) (by decide) (by decide) (de_lc rfl sc_law.nd (xi_range1 (by rfl) z_range (xe_var (de_var 4))) (blkOk_by (own := [("k", 7)]) (N := N_law) (sc := defScope s_law) (by decide +kernel)) (fun _ _ _ _ _ => (dg_name (i := 7) sc_law.nd rfl (Or.inl rfl))) (fun _ _ _ _ _ => (dtsI dts_nil fun _ _ _ _ h => dyes_ok h)) (fun _ _ _ _ _ => (xc_hasI takes0 D__law_taken (hr.mono (by decide)) (by rfl) (xac_ref (i := 1) (de_var 1) (xac_val (xc_p (xe_c de_int)) xac_nil)))) rfl (by decide)))))
 (xss_cons (xs_join (I := []) (J := [(1, (.l false)), (5, .d)]) (K := [7]) (xs_if (xct_cmp (dop_eqG hr.units) ok_eq (xc_hasI (takes_of rfl rfl rfl rfl) D__law_taken (hr.mono (by decide)) (by rfl) (xac_ref (i := 1) (de_var 1) (xac_val (xc_p (xe_c de_int)) xac_nil))) (xc_p (xe_c de_int)))
 (xss_one (xs_set (ds_set (i := 5) sc_law.nd rfl (Or.inr rfl) (xc_op dop_add ok_add (xc_p (xe_lcM (gok_name 7) (de_lc rfl sc_law.nd (xi_range1 (by rfl) z_range (xe_op dop_sub ok_sub (xv_e (xe_var (de_var 4))) (xv_e (xe_c de_int)))) (blkOk_by (own := [("k", 7)]) (N := N_law) (sc := defScope s_law) (by decide +kernel)) (fun _ _ _ _ _ => (dg_name (i := 7) sc_law.nd rfl (Or.inl rfl))) (fun _ _ _ _ _ => dts_nil) (fun _ _ _ _ _ => (xe_c de_int)) rfl (by decide)))) (xc_lst (xac_val (xc_op dop_mulG ok_mul (xc_hasI (takes_of rfl rfl rfl rfl) D__law_taken (hr.mono (by decide)) (by rfl) (xac_ref (i := 1) (de_var 1) (xac_val (xc_p (xe_c de_int)) xac_nil))) (xc_p (xe_ix (dix_G hr.units) ok_ix (xv_e (xe_var (de_var 5))) (xv_e (xe_c de_int))))) xac_nil))))))
 xss_nil))
 (xss_cons (xs_setL (ds_set (i := 6) sc_law.nd rfl (Or.inr rfl) (xf_lst lenNil xa_nil)))
 (xss_cons (xs_for (I := []) (J := [(1, (.l false)), (6, (.l false))]) (K := [7, 8, 16]) (passes_of rfl) rfl (xi_range1 (by rfl) z_range (xe_var (de_var 3))) (dg_name (i := 7) sc_law.nd rfl (Or.inl rfl)) (gok_name 7)
 (xss_cons (xs_set (ds_set (i := 8) sc_law.nd rfl (Or.inl rfl) (xc_hasI (takes_of rfl rfl rfl rfl) D__law_pick (hr.mono (by decide)) (by rfl) (xac_ref (i := 1) (de_var 1) (xac_val (xc_lst (xac_val (xc_p (xe_var (de_var 7))) (xac_val (xc_p (xe_op dop_sub ok_sub (xv_e (xe_c de_int)) (xv_e (xe_var (de_var 7))))) (xac_val (xc_hasI (takes_of rfl rfl rfl rfl) D__law_taken (hr.mono (by decide)) (by rfl) (xac_ref (i := 1) (de_var 1) (xac_val (xc_p (xe_c de_int)) xac_nil))) xac_nil)))) xac_nil)))))
 (xss_cons (xs_join (I := []) (J := [(8, .d)]) (K := [16]) (xs_if (xct_p (xt_cmp (dop_inG hr.units) ok_in (xv_e (xe_var (de_var 8))) (xv_var (de_var 6))))
 (xss_one (xs_set (ds_set (i := 8) sc_law.nd rfl (Or.inl rfl) (xc_p (xe_ix (dix_G hr.units) ok_ix (xv_e (xe_lc (gok_name 16) (de_lc rfl sc_law.nd (xi_range1 (by rfl) z_range (xe_c de_int)) (blkOk_by (own := [("one", 16)]) (N := N_law) (sc := defScope s_law) (by decide +kernel)) (fun _ _ _ _ _ => (dg_name (i := 16) sc_law.nd rfl (Or.inl rfl))) (fun _ _ _ _ _ => (dts_one (xt_cmp (dop_notInG hr.units) ok_notIn (xv_e (xe_var (de_var 16))) (xv_var (de_var 6))))) (fun _ _ _ _ _ => (xe_var (de_var 16))) rfl (by decide)))) (xv_e (xe_c de_int)))))))
 xss_nil))
 (xss_one (xs_app (i := 6) (de_var 6) (xc_p (xe_var (de_var 8))))))))
 (xss_frz 6 (xss_cons (xs_setLcM (gok_name 8) (ds_setLc (i := 9) rfl sc_law.nd rfl rfl (sw_true rfl rfl rfl (by decide +kernel)) (xi_any (xe_var (de_var 6))) (blkOk_by (own := [("place", 8)]) (N := N_law) (sc := defScope s_law) (by decide +kernel)) (fun _ _ _ _ _ => (dg_name (i := 8) sc_law.nd rfl (Or.inl rfl))) (fun _ _ _ _ _ => dts_nil) (fun _ _ _ _ _ => (xe_tup (lenCons (lenCons lenNil)) (xa_cons (xe_var (de_var 8)) (xa_cons (xe_has (lenCons (lenCons lenNil)) takes0 D__law_value (hr.mono (by decide)) (by rfl) (xa_cons (xe_var (de_var 5)) (xa_cons (xe_var (de_var 8)) xa_nil))) xa_nil)))) rfl (by decide)))
 (xss_cons (xs_set (ds_set (i := 10) sc_law.nd rfl (Or.inl rfl) (xc_join (I := [(1, (.l false))]) (xc_ifE (xct_cmp (dop_eqG hr.units) ok_eq (xc_hasI (takes_of rfl rfl rfl rfl) D__law_taken (hr.mono (by decide)) (by rfl) (xac_ref (i := 1) (de_var 1) (xac_val (xc_p (xe_c de_int)) xac_nil))) (xc_p (xe_c de_int))) (xc_p (xe_callTy dc_tuple ok_tuple (by rfl) z_tuple (by decide +kernel) (xva_cons (xv_e (xe_var (de_var 9))) xva_nil))) (xc_p (xe_callTy (dc_listG rfl) ok_list (by rfl) z_list (by decide +kernel) (xva_cons (xv_e (xe_var (de_var 9))) xva_nil)))))))
 (xss_cons (xs_forC (I := []) (J := [(1, (.l false))]) (K := [8]) (passes_of rfl) rfl (xic_any (xc_lst (xac_val (xc_p (xe_ix (dix_G hr.units) ok_ix (xv_e (xe_var (de_var 6))) (xv_e (xe_c de_int)))) (xac_val (xc_hasI (takes_of rfl rfl rfl rfl) D__law_pick (hr.mono (by decide)) (by rfl) (xac_ref (i := 1) (de_var 1) (xac_val (xc_lst (xac_val (xc_p (xe_c de_int)) (xac_val (xc_p (xe_c de_int)) (xac_val (xc_p (xe_c de_int)) (xac_val (xc_hasI (takes_of rfl rfl rfl rfl) D__law_taken (hr.mono (by decide)) (by rfl) (xac_ref (i := 1) (de_var 1) (xac_val (xc_p (xe_c de_int)) xac_nil))) xac_nil))))) xac_nil))) xac_nil)))) (dg_name (i := 8) sc_law.nd rfl (Or.inl rfl)) (gok_name 8)
 (xss_one (xs_if (xct_p (xw_t (xw_or (xt_not (xt_tru ok_tru (xv_e (xe_has (lenCons (lenCons lenNil)) (takes_of rfl rfl rfl rfl) D__law_alike (hr.mono (by decide)) (by rfl) (xa_cons (xe_has (lenCons (lenCons lenNil)) (takes_of rfl rfl rfl rfl) D__law_told (hr.mono (by decide)) (by rfl) (xa_cons (xe_var (de_var 10)) (xa_cons (xe_var (de_var 8)) xa_nil))) (xa_cons (xe_lst (lenCons lenNil) (xa_cons (xe_has (lenCons (lenCons lenNil)) (takes_of rfl rfl rfl rfl) D__law_value (hr.mono (by decide)) (by rfl) (xa_cons (xe_var (de_var 5)) (xa_cons (xe_var (de_var 8)) xa_nil))) xa_nil)) xa_nil)))))) (xw_or1 (xt_cmp (dop_neG hr.units) ok_ne (xv_e (xe_callTy (dc_listG rfl) ok_list (by rfl) z_list (by decide +kernel) (xva_cons (xv_e (xe_var (de_var 10))) xva_nil))) (xv_e (xe_var (de_var 9))))))))
 (xss_one (xs_ret (xc_p (xe_c de_bl))))
 xss_nil)))
 (xss_cons (xs_par3L (ds_par3 (i := 11) (j := 12) (l := 13) rfl sc_law.nd rfl rfl rfl (by decide) (by decide) (by decide) rfl rfl rfl (da_cons (xc_hasI (takes_of rfl rfl rfl rfl) D__law_taken (hr.mono (by decide)) (by rfl) (xac_ref (i := 1) (de_var 1) (xac_val (xc_p (xe_c de_int)) xac_nil))) (da_cons (xc_hasI (takes_of rfl rfl rfl rfl) D__law_taken (hr.mono (by decide)) (by rfl) (xac_ref (i := 1) (de_var 1) (xac_val (xc_p (xe_var (de_var 3))) xac_nil))) (da_cons (xf_list (by rfl) (by rfl) z_list (by decide +kernel) (xv_e (xe_var (de_var 9)))) da_nil)))))
 (xss_cons (xs_join (I := []) (J := [(1, (.l false)), (13, .d)]) (K := []) (xs_if (xct_p (xt_cmp (dop_eqG hr.units) ok_eq (xv_e (xe_var (de_var 11))) (xv_e (xe_c de_int))))
 (xss_cons (xs_setIx (i := 13) (de_var 13) (xc_p (xe_var (de_var 12))) (xc_hasI (takes_of rfl rfl rfl rfl) D__law_pick (hr.mono (by decide)) (by rfl) (xac_ref (i := 1) (de_var 1) (xac_val (xc_lst (xac_val (xc_hasI (takes_of rfl rfl rfl rfl) D__law_any (hr.mono (by decide)) (by rfl) (xac_ref (i := 1) (de_var 1) xac_nil)) (xac_val (xc_p (xe_tup (lenCons (lenCons lenNil)) (xa_cons (xe_c de_int) (xa_cons (xe_c de_int) xa_nil)))) (xac_val (xc_p (xe_tup (lenCons (lenCons lenNil)) (xa_cons (xe_c de_int) (xa_cons (xe_neg ok_neg (xe_c de_int)) xa_nil)))) (xac_val (xc_p (xe_tup (lenCons (lenCons lenNil)) (xa_cons (xe_c de_bl) (xa_cons (xe_c de_int) xa_nil)))) (xac_val (xc_p (xe_lst (lenCons (lenCons lenNil)) (xa_cons (xe_ix (dix_G hr.units) ok_ix (xv_e (xe_ix (dix_G hr.units) ok_ix (xv_e (xe_var (de_var 9))) (xv_e (xe_var (de_var 12))))) (xv_e (xe_c de_int))) (xa_cons (xe_c de_int) xa_nil)))) (xac_val (xc_p (xe_op dop_add ok_add (xv_e (xe_ix (dix_G hr.units) ok_ix (xv_e (xe_var (de_var 9))) (xv_e (xe_var (de_var 12))))) (xv_e (xe_tup (lenCons lenNil) (xa_cons (xe_c de_int) xa_nil))))) xac_nil))))))) xac_nil))))
 (xss_frz 13 xss_nil))
 (xss_one (xs_join (I := []) (J := [(1, (.l false)), (13, .d)]) (K := []) (xs_if (xct_p (xt_cmp (dop_eqG hr.units) ok_eq (xv_e (xe_var (de_var 11))) (xv_e (xe_c de_int))))
 (xss_cons (xs_expr (xc_mutV PySem.F.slot_list_insert PySem.F.type_list_insert dm_insert mu_insert (i := 13) (de_var 13) (xac_val (xc_p (xe_var (de_var 12))) (xac_val (xc_ix (dix_G hr.units) ok_ix (xc_p (xe_var (de_var 9))) (xc_hasI (takes_of rfl rfl rfl rfl) D__law_taken (hr.mono (by decide)) (by rfl) (xac_ref (i := 1) (de_var 1) (xac_val (xc_p (xe_var (de_var 3))) xac_nil)))) xac_nil))))
 (xss_frz 13 xss_nil))
 (xss_frz 13 (xss_one (xs_join (I := []) (J := [(1, (.l false)), (13, .d)]) (K := []) (xs_if (xct_p (xt_cmp (dop_eqG hr.units) ok_eq (xv_e (xe_var (de_var 11))) (xv_e (xe_c de_int))))
 (xss_one (xs_set (ds_set (i := 13) sc_law.nd rfl (Or.inl rfl) (xc_hasI (takes_of rfl rfl rfl rfl) D__law_pick (hr.mono (by decide)) (by rfl) (xac_ref (i := 1) (de_var 1) (xac_val (xc_p (xe_lst (lenCons (lenCons (lenCons (lenCons (lenCons (lenCons lenNil)))))) (xa_cons (xe_c de_non) (xa_cons (xe_c de_dict0) (xa_cons (xe_c de_str) (xa_cons (xe_c de_int) (xa_cons (xe_op dop_add ok_add (xv_e (xe_var (de_var 13))) (xv_e (xe_op dop_mulG ok_mul (xv_e (xe_lst (lenCons lenNil) (xa_cons (xe_tup (lenCons (lenCons lenNil)) (xa_cons (xe_c de_int) (xa_cons (xe_c de_int) xa_nil))) xa_nil))) (xv_e (xe_c de_int))))) (xa_cons (xe_lst lenNil xa_nil) xa_nil)))))))) xac_nil))))))
 xss_nil)))))))))
 (xss_cons (xs_set (ds_set (i := 8) sc_law.nd rfl (Or.inl rfl) (xc_join (I := [(1, (.l false))]) (xc_ifE (xct_cmp (dop_eqG hr.units) ok_eq (xc_hasI (takes_of rfl rfl rfl rfl) D__law_taken (hr.mono (by decide)) (by rfl) (xac_ref (i := 1) (de_var 1) (xac_val (xc_p (xe_c de_int)) xac_nil))) (xc_p (xe_c de_int))) (xc_hasI (takes_of rfl rfl rfl rfl) D__law_any (hr.mono (by decide)) (by rfl) (xac_ref (i := 1) (de_var 1) xac_nil)) (xc_hasI (takes_of rfl rfl rfl rfl) D__law_taken (hr.mono (by decide)) (by rfl) (xac_ref (i := 1) (de_var 1) (xac_val (xc_p (xe_c de_int)) xac_nil)))))))
 (xss_cons (xs_par (ds_par (i := 14) (j := 15) rfl sc_law.nd rfl rfl (by decide) rfl rfl (da_cons (xc_p (xe_has (lenCons (lenCons lenNil)) (takes_of rfl rfl rfl rfl) D__law_due (hr.mono (by decide)) (by rfl) (xa_cons (xe_var (de_var 13)) (xa_cons (xe_var (de_var 8)) xa_nil)))) (da_cons (xc_p (xe_has (lenCons (lenCons lenNil)) (takes_of rfl rfl rfl rfl) D__law_told (hr.mono (by decide)) (by rfl) (xa_cons (xe_var (de_var 13)) (xa_cons (xe_var (de_var 8)) xa_nil)))) da_nil))))
 (xss_cons (xs_if (xct_p (xw_t (xw_and (xt_notN (xv_e (xe_var (de_var 14)))) (xw_and1 (xt_not (xt_tru ok_tru (xv_e (xe_has (lenCons (lenCons lenNil)) (takes_of rfl rfl rfl rfl) D__law_alike (hr.mono (by decide)) (by rfl) (xa_cons (xe_var (de_var 15)) (xa_cons (xe_var (de_var 14)) xa_nil))))))))))
 (xss_one (xs_ret (xc_p (xe_c de_bl))))
 xss_nil)
 (xss_one (xs_if (xct_p (xw_t (xw_and (xt_isN (xv_e (xe_var (de_var 14)))) (xw_and (xt_not (xt_tru ok_tru (xv_e (xe_has (lenCons (lenCons lenNil)) (takes_of rfl rfl rfl rfl) D__law_alike (hr.mono (by decide)) (by rfl) (xa_cons (xe_var (de_var 15)) (xa_cons (xe_lst (lenCons lenNil) (xa_cons (xe_has (lenCons (lenCons lenNil)) (takes_of rfl rfl rfl rfl) D__law_value (hr.mono (by decide)) (by rfl) (xa_cons (xe_var (de_var 5)) (xa_cons (xe_var (de_var 8)) xa_nil))) xa_nil)) xa_nil)))))) (xw_and1 (xt_cmp dop_gt ok_gt (xv_e (xe_var (de_var 11))) (xv_e (xe_c de_int))))))))
 (xss_one (xs_ret (xc_p (xe_c de_bl))))
 xss_nil))))))))))))))))))
 (xss_one (xs_ret (xc_p (xe_c de_bl)))))))
  case hm => exact fun d => by kernel_rfl
abbrev s_init : Stmt := inClass (topS 1) 0
theorem scI : FnScope ["self", "value"] ["self", "value"] (defScope s_init) := ⟨rfl, rfl, rfl, by decide +kernel, rfl, by decide +kernel, by decide +kernel⟩
theorem all_mk {P : Program} {w : World} {K : PySem.W.Frag} {h : Heap} {mg : Str → Option Value} (X : K.In h) (G : h.Ns mainGlobals mg) {f_is_integer : Addr} {od_is_integer an_is_integer : Option Addr} {sl_is_integer : Array (Option Value)} {oc_is_integer kV_is_integer dc_is_integer pm_is_integer cd_is_integer ct_is_integer : Value} {f_is_octet : Addr} {od_is_octet an_is_octet : Option Addr} {sl_is_octet : Array (Option Value)} {oc_is_octet kV_is_octet dc_is_octet pm_is_octet cd_is_octet ct_is_octet : Value} {f_is_row : Addr} {od_is_row an_is_row : Option Addr} {sl_is_row : Array (Option Value)} {oc_is_row kV_is_row dc_is_row pm_is_row cd_is_row ct_is_row : Value} {f_check_octet : Addr} {od_check_octet an_check_octet : Option Addr} {sl_check_octet : Array (Option Value)} {oc_check_octet kV_check_octet dc_check_octet pm_check_octet cd_check_octet ct_check_octet : Value} {f_product : Addr} {od_product an_product : Option Addr} {sl_product : Array (Option Value)} {oc_product kV_product dc_product pm_product cd_product ct_product : Value} {f_quotient : Addr} {od_quotient an_quotient : Option Addr} {sl_quotient : Array (Option Value)} {oc_quotient kV_quotient dc_quotient pm_quotient cd_quotient ct_quotient : Value} {f_weights : Addr} {od_weights an_weights : Option Addr} {sl_weights : Array (Option Value)} {oc_weights kV_weights dc_weights pm_weights cd_weights ct_weights : Value} {f_weighed : Addr} {od_weighed an_weighed : Option Addr} {sl_weighed : Array (Option Value)} {oc_weighed kV_weighed dc_weighed pm_weighed cd_weighed ct_weighed : Value} {f_is_point : Addr} {od_is_point an_is_point : Option Addr} {sl_is_point : Array (Option Value)} {oc_is_point kV_is_point dc_is_point pm_is_point cd_is_point ct_is_point : Value} {f_check_points : Addr} {od_check_points an_check_points : Option Addr} {sl_check_points : Array (Option Value)} {oc_check_points kV_check_points dc_check_points pm_check_points cd_check_points ct_check_points : Value} {f_value_at : Addr} {od_value_at an_value_at : Option Addr} {sl_value_at : Array (Option Value)} {oc_value_at kV_value_at dc_value_at pm_value_at cd_value_at ct_value_at : Value} {f__law_taken : Addr} {od__law_taken an__law_taken : Option Addr} {sl__law_taken : Array (Option Value)} {oc__law_taken kV__law_taken dc__law_taken pm__law_taken cd__law_taken ct__law_taken : Value} {f__law_pick : Addr} {od__law_pick an__law_pick : Option Addr} {sl__law_pick : Array (Option Value)} {oc__law_pick kV__law_pick dc__law_pick pm__law_pick cd__law_pick ct__law_pick : Value} {f__law_alike : Addr} {od__law_alike an__law_alike : Option Addr} {sl__law_alike : Array (Option Value)} {oc__law_alike kV__law_alike dc__law_alike pm__law_alike cd__law_alike ct__law_alike : Value} {f__law_any : Addr} {od__law_any an__law_any : Option Addr} {sl__law_any : Array (Option Value)} {oc__law_any kV__law_any dc__law_any pm__law_any cd__law_any ct__law_any : Value} {f__law_slow : Addr} {od__law_slow an__law_slow : Option Addr} {sl__law_slow : Array (Option Value)} {oc__law_slow kV__law_slow dc__law_slow pm__law_slow cd__law_slow ct__law_slow : Value} {f__law_value : Addr} {od__law_value an__law_value : Option Addr} {sl__law_value : Array (Option Value)} {oc__law_value kV__law_value dc__law_value pm__law_value cd__law_value ct__law_value : Value} {f__law_told : Addr} {od__law_told an__law_told : Option Addr} {sl__law_told : Array (Option Value)} {oc__law_told kV__law_told dc__law_told pm__law_told cd__law_told ct__law_told : Value} {f__law_is_octet : Addr} {od__law_is_octet an__law_is_octet : Option Addr} {sl__law_is_octet : Array (Option Value)} {oc__law_is_octet kV__law_is_octet dc__law_is_octet pm__law_is_octet cd__law_is_octet ct__law_is_octet : Value} {f__law_due : Addr} {od__law_due an__law_due : Option Addr} {sl__law_due : Array (Option Value)} {oc__law_due kV__law_due dc__law_due pm__law_due cd__law_due ct__law_due : Value} {f_law : Addr} {od_law an_law : Option Addr} {sl_law : Array (Option Value)} {oc_law kV_law dc_law pm_law cd_law ct_law : Value} {p_POWERS : Addr} {o_POWERS : Obj} {p_EXPONENTS : Addr} {o_EXPONENTS : Obj} {t_MANY_POWERS : Tok} {t_MOST_POINTS : Tok} {C_HouseError : Addr} {fI TI : Addr} {odI anI odT : Option Addr} {slI slT : Array (Option Value)} {ocI kVI dcI pmI cdI ctI ocT : Value} {nT : Nat} {C_BadOctet : Addr} {nm_BadOctet q_BadOctet : _} {N_BadOctet : _} {bs_BadOctet bm_BadOctet : _} {sn_BadOctet sub_BadOctet ab_BadOctet col_BadOctet dd_BadOctet k0_BadOctet k1_BadOctet k2_BadOctet k3_BadOctet k5_BadOctet : _} {C_BadPoints : Addr} {nm_BadPoints q_BadPoints : _} {N_BadPoints : _} {bs_BadPoints bm_BadPoints : _} {sn_BadPoints sub_BadPoints ab_BadPoints col_BadPoints dd_BadPoints k0_BadPoints k1_BadPoints k2_BadPoints k3_BadPoints k5_BadPoints : _}
    (a_is_integer : PySem.W.nsIn K mainGlobals "is_integer" = some (some (.ref f_is_integer)))
    (l_is_integer : K.lookup f_is_integer = some ⟨oc_is_integer, od_is_integer, .func (PySem.W.fnOf "is_integer" "is_integer" (defArgs s_is_integer) (defBody s_is_integer) (defScope s_is_integer) .none kV_is_integer dc_is_integer pm_is_integer an_is_integer cd_is_integer ct_is_integer), sl_is_integer⟩)
    (b_is_integer : PySem.W.codeIn K cd_is_integer "is_integer" = true)
    (k_is_integer : PySem.W.keepIn K (.ref f_is_integer) = true)
    (a_is_octet : PySem.W.nsIn K mainGlobals "is_octet" = some (some (.ref f_is_octet)))
    (l_is_octet : K.lookup f_is_octet = some ⟨oc_is_octet, od_is_octet, .func (PySem.W.fnOf "is_octet" "is_octet" (defArgs s_is_octet) (defBody s_is_octet) (defScope s_is_octet) .none kV_is_octet dc_is_octet pm_is_octet an_is_octet cd_is_octet ct_is_octet), sl_is_octet⟩)
    (b_is_octet : PySem.W.codeIn K cd_is_octet "is_octet" = true)
    (k_is_octet : PySem.W.keepIn K (.ref f_is_octet) = true)
    (a_is_row : PySem.W.nsIn K mainGlobals "is_row" = some (some (.ref f_is_row)))
    (l_is_row : K.lookup f_is_row = some ⟨oc_is_row, od_is_row, .func (PySem.W.fnOf "is_row" "is_row" (defArgs s_is_row) (defBody s_is_row) (defScope s_is_row) .none kV_is_row dc_is_row pm_is_row an_is_row cd_is_row ct_is_row), sl_is_row⟩)
    (b_is_row : PySem.W.codeIn K cd_is_row "is_row" = true)
    (k_is_row : PySem.W.keepIn K (.ref f_is_row) = true)
    (a_check_octet : PySem.W.nsIn K mainGlobals "check_octet" = some (some (.ref f_check_octet)))
    (l_check_octet : K.lookup f_check_octet = some ⟨oc_check_octet, od_check_octet, .func (PySem.W.fnOf "check_octet" "check_octet" (defArgs s_check_octet) (defBody s_check_octet) (defScope s_check_octet) .none kV_check_octet dc_check_octet pm_check_octet an_check_octet cd_check_octet ct_check_octet), sl_check_octet⟩)
    (b_check_octet : PySem.W.codeIn K cd_check_octet "check_octet" = true)
    (k_check_octet : PySem.W.keepIn K (.ref f_check_octet) = true)
    (a_product : PySem.W.nsIn K mainGlobals "product" = some (some (.ref f_product)))
    (l_product : K.lookup f_product = some ⟨oc_product, od_product, .func (PySem.W.fnOf "product" "product" (defArgs s_product) (defBody s_product) (defScope s_product) .none kV_product dc_product pm_product an_product cd_product ct_product), sl_product⟩)
    (b_product : PySem.W.codeIn K cd_product "product" = true)
    (k_product : PySem.W.keepIn K (.ref f_product) = true)
    (a_quotient : PySem.W.nsIn K mainGlobals "quotient" = some (some (.ref f_quotient)))
    (l_quotient : K.lookup f_quotient = some ⟨oc_quotient, od_quotient, .func (PySem.W.fnOf "quotient" "quotient" (defArgs s_quotient) (defBody s_quotient) (defScope s_quotient) .none kV_quotient dc_quotient pm_quotient an_quotient cd_quotient ct_quotient), sl_quotient⟩)
    (b_quotient : PySem.W.codeIn K cd_quotient "quotient" = true)
    (k_quotient : PySem.W.keepIn K (.ref f_quotient) = true)
    (a_weights : PySem.W.nsIn K mainGlobals "weights" = some (some (.ref f_weights)))
    (l_weights : K.lookup f_weights = some ⟨oc_weights, od_weights, .func (PySem.W.fnOf "weights" "weights" (defArgs s_weights) (defBody s_weights) (defScope s_weights) .none kV_weights dc_weights pm_weights an_weights cd_weights ct_weights), sl_weights⟩)
    (b_weights : PySem.W.codeIn K cd_weights "weights" = true)
    (k_weights : PySem.W.keepIn K (.ref f_weights) = true)
    (a_weighed : PySem.W.nsIn K mainGlobals "weighed" = some (some (.ref f_weighed)))
    (l_weighed : K.lookup f_weighed = some ⟨oc_weighed, od_weighed, .func (PySem.W.fnOf "weighed" "weighed" (defArgs s_weighed) (defBody s_weighed) (defScope s_weighed) .none kV_weighed dc_weighed pm_weighed an_weighed cd_weighed ct_weighed), sl_weighed⟩)
    (b_weighed : PySem.W.codeIn K cd_weighed "weighed" = true)
    (k_weighed : PySem.W.keepIn K (.ref f_weighed) = true)
    (a_is_point : PySem.W.nsIn K mainGlobals "is_point" = some (some (.ref f_is_point)))
    (l_is_point : K.lookup f_is_point = some ⟨oc_is_point, od_is_point, .func (PySem.W.fnOf "is_point" "is_point" (defArgs s_is_point) (defBody s_is_point) (defScope s_is_point) .none kV_is_point dc_is_point pm_is_point an_is_point cd_is_point ct_is_point), sl_is_point⟩)
    (b_is_point : PySem.W.codeIn K cd_is_point "is_point" = true)
    (k_is_point : PySem.W.keepIn K (.ref f_is_point) = true)
    (a_check_points : PySem.W.nsIn K mainGlobals "check_points" = some (some (.ref f_check_points)))
    (l_check_points : K.lookup f_check_points = some ⟨oc_check_points, od_check_points, .func (PySem.W.fnOf "check_points" "check_points" (defArgs s_check_points) (defBody s_check_points) (defScope s_check_points) .none kV_check_points dc_check_points pm_check_points an_check_points cd_check_points ct_check_points), sl_check_points⟩)
    (b_check_points : PySem.W.codeIn K cd_check_points "check_points" = true)
    (k_check_points : PySem.W.keepIn K (.ref f_check_points) = true)
    (a_value_at : PySem.W.nsIn K mainGlobals "value_at" = some (some (.ref f_value_at)))
    (l_value_at : K.lookup f_value_at = some ⟨oc_value_at, od_value_at, .func (PySem.W.fnOf "value_at" "value_at" (defArgs s_value_at) (defBody s_value_at) (defScope s_value_at) .none kV_value_at dc_value_at pm_value_at an_value_at cd_value_at ct_value_at), sl_value_at⟩)
    (b_value_at : PySem.W.codeIn K cd_value_at "value_at" = true)
    (k_value_at : PySem.W.keepIn K (.ref f_value_at) = true)
    (a__law_taken : PySem.W.nsIn K mainGlobals "_law_taken" = some (some (.ref f__law_taken)))
    (l__law_taken : K.lookup f__law_taken = some ⟨oc__law_taken, od__law_taken, .func (PySem.W.fnOf "_law_taken" "_law_taken" (defArgs s__law_taken) (defBody s__law_taken) (defScope s__law_taken) .none kV__law_taken dc__law_taken pm__law_taken an__law_taken cd__law_taken ct__law_taken), sl__law_taken⟩)
    (b__law_taken : PySem.W.codeIn K cd__law_taken "_law_taken" = true)
    (k__law_taken : PySem.W.keepIn K (.ref f__law_taken) = true)
    (a__law_pick : PySem.W.nsIn K mainGlobals "_law_pick" = some (some (.ref f__law_pick)))
    (l__law_pick : K.lookup f__law_pick = some ⟨oc__law_pick, od__law_pick, .func (PySem.W.fnOf "_law_pick" "_law_pick" (defArgs s__law_pick) (defBody s__law_pick) (defScope s__law_pick) .none kV__law_pick dc__law_pick pm__law_pick an__law_pick cd__law_pick ct__law_pick), sl__law_pick⟩)
    (b__law_pick : PySem.W.codeIn K cd__law_pick "_law_pick" = true)
    (k__law_pick : PySem.W.keepIn K (.ref f__law_pick) = true)
    (a__law_alike : PySem.W.nsIn K mainGlobals "_law_alike" = some (some (.ref f__law_alike)))
    (l__law_alike : K.lookup f__law_alike = some ⟨oc__law_alike, od__law_alike, .func (PySem.W.fnOf "_law_alike" "_law_alike" (defArgs s__law_alike) (defBody s__law_alike) (defScope s__law_alike) .none kV__law_alike dc__law_alike pm__law_alike an__law_alike cd__law_alike ct__law_alike), sl__law_alike⟩)
    (b__law_alike : PySem.W.codeIn K cd__law_alike "_law_alike" = true)
    (k__law_alike : PySem.W.keepIn K (.ref f__law_alike) = true)
    (a__law_any : PySem.W.nsIn K mainGlobals "_law_any" = some (some (.ref f__law_any)))
    (l__law_any : K.lookup f__law_any = some ⟨oc__law_any, od__law_any, .func (PySem.W.fnOf "_law_any" "_law_any" (defArgs s__law_any) (defBody s__law_any) (defScope s__law_any) .none kV__law_any dc__law_any pm__law_any an__law_any cd__law_any ct__law_any), sl__law_any⟩)
    (b__law_any : PySem.W.codeIn K cd__law_any "_law_any" = true)
    (k__law_any : PySem.W.keepIn K (.ref f__law_any) = true)
    (a__law_slow : PySem.W.nsIn K mainGlobals "_law_slow" = some (some (.ref f__law_slow)))
    (l__law_slow : K.lookup f__law_slow = some ⟨oc__law_slow, od__law_slow, .func (PySem.W.fnOf "_law_slow" "_law_slow" (defArgs s__law_slow) (defBody s__law_slow) (defScope s__law_slow) .none kV__law_slow dc__law_slow pm__law_slow an__law_slow cd__law_slow ct__law_slow), sl__law_slow⟩)
    (b__law_slow : PySem.W.codeIn K cd__law_slow "_law_slow" = true)
    (k__law_slow : PySem.W.keepIn K (.ref f__law_slow) = true)
    (a__law_value : PySem.W.nsIn K mainGlobals "_law_value" = some (some (.ref f__law_value)))
    (l__law_value : K.lookup f__law_value = some ⟨oc__law_value, od__law_value, .func (PySem.W.fnOf "_law_value" "_law_value" (defArgs s__law_value) (defBody s__law_value) (defScope s__law_value) .none kV__law_value dc__law_value pm__law_value an__law_value cd__law_value ct__law_value), sl__law_value⟩)
    (b__law_value : PySem.W.codeIn K cd__law_value "_law_value" = true)
    (k__law_value : PySem.W.keepIn K (.ref f__law_value) = true)
    (a__law_told : PySem.W.nsIn K mainGlobals "_law_told" = some (some (.ref f__law_told)))
    (l__law_told : K.lookup f__law_told = some ⟨oc__law_told, od__law_told, .func (PySem.W.fnOf "_law_told" "_law_told" (defArgs s__law_told) (defBody s__law_told) (defScope s__law_told) .none kV__law_told dc__law_told pm__law_told an__law_told cd__law_told ct__law_told), sl__law_told⟩)
    (b__law_told : PySem.W.codeIn K cd__law_told "_law_told" = true)
    (k__law_told : PySem.W.keepIn K (.ref f__law_told) = true)
    (a__law_is_octet : PySem.W.nsIn K mainGlobals "_law_is_octet" = some (some (.ref f__law_is_octet)))
    (l__law_is_octet : K.lookup f__law_is_octet = some ⟨oc__law_is_octet, od__law_is_octet, .func (PySem.W.fnOf "_law_is_octet" "_law_is_octet" (defArgs s__law_is_octet) (defBody s__law_is_octet) (defScope s__law_is_octet) .none kV__law_is_octet dc__law_is_octet pm__law_is_octet an__law_is_octet cd__law_is_octet ct__law_is_octet), sl__law_is_octet⟩)
    (b__law_is_octet : PySem.W.codeIn K cd__law_is_octet "_law_is_octet" = true)
    (k__law_is_octet : PySem.W.keepIn K (.ref f__law_is_octet) = true)
    (a__law_due : PySem.W.nsIn K mainGlobals "_law_due" = some (some (.ref f__law_due)))
    (l__law_due : K.lookup f__law_due = some ⟨oc__law_due, od__law_due, .func (PySem.W.fnOf "_law_due" "_law_due" (defArgs s__law_due) (defBody s__law_due) (defScope s__law_due) .none kV__law_due dc__law_due pm__law_due an__law_due cd__law_due ct__law_due), sl__law_due⟩)
    (b__law_due : PySem.W.codeIn K cd__law_due "_law_due" = true)
    (k__law_due : PySem.W.keepIn K (.ref f__law_due) = true)
    (a_law : PySem.W.nsIn K mainGlobals "law" = some (some (.ref f_law)))
    (l_law : K.lookup f_law = some ⟨oc_law, od_law, .func (PySem.W.fnOf "law" "law" (defArgs s_law) (defBody s_law) (defScope s_law) .none kV_law dc_law pm_law an_law cd_law ct_law), sl_law⟩)
    (b_law : PySem.W.codeIn K cd_law "law" = true)
    (k_law : PySem.W.keepIn K (.ref f_law) = true)
    (z_isinstance : PySem.W.nsIn K mainGlobals "isinstance" = some none)
    (z_int : PySem.W.nsIn K mainGlobals "int" = some none)
    (z_bool : PySem.W.nsIn K mainGlobals "bool" = some none)
    (z_list : PySem.W.nsIn K mainGlobals "list" = some none)
    (z_tuple : PySem.W.nsIn K mainGlobals "tuple" = some none)
    (z_zip : PySem.W.nsIn K mainGlobals "zip" = some none)
    (z_len : PySem.W.nsIn K mainGlobals "len" = some none)
    (z_enumerate : PySem.W.nsIn K mainGlobals "enumerate" = some none)
    (z_range : PySem.W.nsIn K mainGlobals "range" = some none)
    (z_dict : PySem.W.nsIn K mainGlobals "dict" = some none)
    (z_str : PySem.W.nsIn K mainGlobals "str" = some none)
    (c_POWERS : PySem.W.nsIn K mainGlobals "POWERS" = some (some (.ref p_POWERS)))
    (co_POWERS : K.lookup p_POWERS = some o_POWERS)
    (cc_POWERS : tupOk o_POWERS k_POWERS = true)
    (c_EXPONENTS : PySem.W.nsIn K mainGlobals "EXPONENTS" = some (some (.ref p_EXPONENTS)))
    (co_EXPONENTS : K.lookup p_EXPONENTS = some o_EXPONENTS)
    (cc_EXPONENTS : tupOk o_EXPONENTS k_EXPONENTS = true)
    (c_MANY_POWERS : PySem.W.nsIn K mainGlobals "MANY_POWERS" = some (some (.int 255 t_MANY_POWERS)))
    (c_MOST_POINTS : PySem.W.nsIn K mainGlobals "MOST_POINTS" = some (some (.int 12 t_MOST_POINTS)))
    (ea_BadOctet : PySem.W.nsIn K mainGlobals "BadOctet" = some (some (.ref C_BadOctet)))
    (ei_BadOctet : PySem.W.findIn K (.ref C_BadOctet) "__init__" = some (some (.ref fI)))
    (ea_BadPoints : PySem.W.nsIn K mainGlobals "BadPoints" = some (some (.ref C_BadPoints)))
    (ei_BadPoints : PySem.W.findIn K (.ref C_BadPoints) "__init__" = some (some (.ref fI)))
    (ea_HouseError : PySem.W.nsIn K mainGlobals "HouseError" = some (some (.ref C_HouseError)))
    (lI : K.lookup fI = some ⟨ocI, odI, .func (PySem.W.fnOf "__init__" "HouseError.__init__" (defArgs s_init) (defBody s_init) (defScope s_init) (.ref TI) kVI dcI pmI anI cdI ctI), slI⟩)
    (bI : PySem.W.codeIn K cdI "HouseError.__init__" = true)
    (kI : PySem.W.keepIn K (.ref fI) = true)
    (tI : PySem.W.typeIn K (.ref fI) = some (.type "function"))
    (lT : K.lookup TI = some ⟨ocT, odT, .seq #[.none] nT, slT⟩)
    (ec_BadOctet : K.lookup C_BadOctet = some (PySem.excClassObj nm_BadOctet q_BadOctet C_BadOctet N_BadOctet bs_BadOctet bm_BadOctet true sn_BadOctet sub_BadOctet ab_BadOctet col_BadOctet dd_BadOctet k0_BadOctet k1_BadOctet k2_BadOctet k3_BadOctet k5_BadOctet "ValueError.__new__"))
    (er_BadOctet : PySem.HandSPX.refsVE bm_BadOctet = true)
    (es_BadOctet : PySem.W.findIn K (.ref C_BadOctet) "__setattr__" = some (some (.builtin "object.__setattr__")))
    (ex_BadOctet : PySem.W.subIn K (.ref C_BadOctet) (.type "BaseException") = some true)
    (ey_BadOctet : PySem.W.typeIn K (.ref C_BadOctet) = some (.type "type"))
    (ek_BadOctet : PySem.W.keepIn K (.ref C_BadOctet) = true)
    (en_BadOctet : PySem.W.findIn K (.ref C_BadOctet) "value" = some none)
    (ec_BadPoints : K.lookup C_BadPoints = some (PySem.excClassObj nm_BadPoints q_BadPoints C_BadPoints N_BadPoints bs_BadPoints bm_BadPoints true sn_BadPoints sub_BadPoints ab_BadPoints col_BadPoints dd_BadPoints k0_BadPoints k1_BadPoints k2_BadPoints k3_BadPoints k5_BadPoints "ValueError.__new__"))
    (er_BadPoints : PySem.HandSPX.refsVE bm_BadPoints = true)
    (es_BadPoints : PySem.W.findIn K (.ref C_BadPoints) "__setattr__" = some (some (.builtin "object.__setattr__")))
    (ex_BadPoints : PySem.W.subIn K (.ref C_BadPoints) (.type "BaseException") = some true)
    (ey_BadPoints : PySem.W.typeIn K (.ref C_BadPoints) = some (.type "type"))
    (ek_BadPoints : PySem.W.keepIn K (.ref C_BadPoints) = true)
    (en_BadPoints : PySem.W.findIn K (.ref C_BadPoints) "value" = some none)
    (ek_HouseError : PySem.W.keepIn K (.ref C_HouseError) = true)
    (hn0 : PySem.W.specialIn K (.builtin "object.__class__") "__get__" = some (some (.builtin "getset_descriptor.__get__")))
    (ht0 : PySem.W.takesIn K (.builtin "object.__class__") = some true)
    (ga_BadOctet : PySem.W.findIn K (.ref C_BadOctet) "__getattribute__" = some (some (.builtin "BaseException.__getattribute__")))
    (gg_BadOctet : PySem.W.findIn K (.ref C_BadOctet) "__getattr__" = some none)
    (hd_BadOctet : PySem.W.hasDictIn K C_BadOctet = true)
    (ha_BadOctet : PySem.W.findIn K (.ref C_BadOctet) "__class__" = some (some (.builtin "object.__class__")))
    (hm_BadOctet : PySem.W.mroIn K C_BadOctet (.type "object") = some true)
    (vv_BadOctet : PySem.W.kitOne K (.ref C_BadOctet) (.type "ValueError") = some true)
    (em_BadOctet_HouseError : PySem.W.exmOne K (.ref C_BadOctet) (.ref C_HouseError) = some true)
    (kt_BadOctet_HouseError : PySem.W.kitOne K (.ref C_BadOctet) (.ref C_HouseError) = some true)
    (em_BadOctet_BadPoints : PySem.W.exmOne K (.ref C_BadOctet) (.ref C_BadPoints) = some false)
    (kt_BadOctet_BadPoints : PySem.W.kitOne K (.ref C_BadOctet) (.ref C_BadPoints) = some false)
    (em_BadOctet_BadOctet : PySem.W.exmOne K (.ref C_BadOctet) (.ref C_BadOctet) = some true)
    (kt_BadOctet_BadOctet : PySem.W.kitOne K (.ref C_BadOctet) (.ref C_BadOctet) = some true)
    (ga_BadPoints : PySem.W.findIn K (.ref C_BadPoints) "__getattribute__" = some (some (.builtin "BaseException.__getattribute__")))
    (gg_BadPoints : PySem.W.findIn K (.ref C_BadPoints) "__getattr__" = some none)
    (hd_BadPoints : PySem.W.hasDictIn K C_BadPoints = true)
    (ha_BadPoints : PySem.W.findIn K (.ref C_BadPoints) "__class__" = some (some (.builtin "object.__class__")))
    (hm_BadPoints : PySem.W.mroIn K C_BadPoints (.type "object") = some true)
    (vv_BadPoints : PySem.W.kitOne K (.ref C_BadPoints) (.type "ValueError") = some true)
    (em_BadPoints_HouseError : PySem.W.exmOne K (.ref C_BadPoints) (.ref C_HouseError) = some true)
    (kt_BadPoints_HouseError : PySem.W.kitOne K (.ref C_BadPoints) (.ref C_HouseError) = some true)
    (em_BadPoints_BadPoints : PySem.W.exmOne K (.ref C_BadPoints) (.ref C_BadPoints) = some true)
    (kt_BadPoints_BadPoints : PySem.W.kitOne K (.ref C_BadPoints) (.ref C_BadPoints) = some true)
    (em_BadPoints_BadOctet : PySem.W.exmOne K (.ref C_BadPoints) (.ref C_BadOctet) = some false)
    (kt_BadPoints_BadOctet : PySem.W.kitOne K (.ref C_BadPoints) (.ref C_BadOctet) = some false) :
    ∃ (f : Addr) (fd : FuncData), mg "law" = some (.ref f) ∧ (∀ (s : Shared) (u : Value), BindsTo s fd ⟨[u], []⟩ [("script", u)]) ∧ ∀ base : Heap, K.In base → base.Ns mainGlobals mg → FnOk P w K mg base (L2.CX P w) 14 f fd ["script"] (lift K spLaw) := by
  have A_is_integer : At K mg "is_integer" s_is_integer ["thing"] := at_mk X G a_is_integer l_is_integer b_is_integer k_is_integer (fun _ _ _ _ _ _ us hl => match us, hl with | [_], _ => rfl)
  have A_is_octet : At K mg "is_octet" s_is_octet ["thing"] := at_mk X G a_is_octet l_is_octet b_is_octet k_is_octet (fun _ _ _ _ _ _ us hl => match us, hl with | [_], _ => rfl)
  have A_is_row : At K mg "is_row" s_is_row ["thing"] := at_mk X G a_is_row l_is_row b_is_row k_is_row (fun _ _ _ _ _ _ us hl => match us, hl with | [_], _ => rfl)
  have A_check_octet : At K mg "check_octet" s_check_octet ["value"] := at_mk X G a_check_octet l_check_octet b_check_octet k_check_octet (fun _ _ _ _ _ _ us hl => match us, hl with | [_], _ => rfl)
  have A_product : At K mg "product" s_product ["one", "other"] := at_mk X G a_product l_product b_product k_product (fun _ _ _ _ _ _ us hl => match us, hl with | [_, _], _ => rfl)
  have A_quotient : At K mg "quotient" s_quotient ["one", "other"] := at_mk X G a_quotient l_quotient b_quotient k_quotient (fun _ _ _ _ _ _ us hl => match us, hl with | [_, _], _ => rfl)
  have A_weights : At K mg "weights" s_weights ["places", "place"] := at_mk X G a_weights l_weights b_weights k_weights (fun _ _ _ _ _ _ us hl => match us, hl with | [_, _], _ => rfl)
  have A_weighed : At K mg "weighed" s_weighed ["factors", "values"] := at_mk X G a_weighed l_weighed b_weighed k_weighed (fun _ _ _ _ _ _ us hl => match us, hl with | [_, _], _ => rfl)
  have A_is_point : At K mg "is_point" s_is_point ["thing"] := at_mk X G a_is_point l_is_point b_is_point k_is_point (fun _ _ _ _ _ _ us hl => match us, hl with | [_], _ => rfl)
  have A_check_points : At K mg "check_points" s_check_points ["points"] := at_mk X G a_check_points l_check_points b_check_points k_check_points (fun _ _ _ _ _ _ us hl => match us, hl with | [_], _ => rfl)
  have A_value_at : At K mg "value_at" s_value_at ["points", "place"] := at_mk X G a_value_at l_value_at b_value_at k_value_at (fun _ _ _ _ _ _ us hl => match us, hl with | [_, _], _ => rfl)
  have A__law_taken : At K mg "_law_taken" s__law_taken ["row", "many"] := at_mk X G a__law_taken l__law_taken b__law_taken k__law_taken (fun _ _ _ _ _ _ us hl => match us, hl with | [_, _], _ => rfl)
  have A__law_pick : At K mg "_law_pick" s__law_pick ["row", "some"] := at_mk X G a__law_pick l__law_pick b__law_pick k__law_pick (fun _ _ _ _ _ _ us hl => match us, hl with | [_, _], _ => rfl)
  have A__law_alike : At K mg "_law_alike" s__law_alike ["found", "due"] := at_mk X G a__law_alike l__law_alike b__law_alike k__law_alike (fun _ _ _ _ _ _ us hl => match us, hl with | [_, _], _ => rfl)
  have A__law_any : At K mg "_law_any" s__law_any ["row"] := at_mk X G a__law_any l__law_any b__law_any k__law_any (fun _ _ _ _ _ _ us hl => match us, hl with | [_], _ => rfl)
  have A__law_slow : At K mg "_law_slow" s__law_slow ["one", "other"] := at_mk X G a__law_slow l__law_slow b__law_slow k__law_slow (fun _ _ _ _ _ _ us hl => match us, hl with | [_, _], _ => rfl)
  have A__law_value : At K mg "_law_value" s__law_value ["coefficients", "place"] := at_mk X G a__law_value l__law_value b__law_value k__law_value (fun _ _ _ _ _ _ us hl => match us, hl with | [_, _], _ => rfl)
  have A__law_told : At K mg "_law_told" s__law_told ["points", "place"] := at_mk X G a__law_told l__law_told b__law_told k__law_told (fun _ _ _ _ _ _ us hl => match us, hl with | [_, _], _ => rfl)
  have A__law_is_octet : At K mg "_law_is_octet" s__law_is_octet ["thing"] := at_mk X G a__law_is_octet l__law_is_octet b__law_is_octet k__law_is_octet (fun _ _ _ _ _ _ us hl => match us, hl with | [_], _ => rfl)
  have A__law_due : At K mg "_law_due" s__law_due ["points", "place"] := at_mk X G a__law_due l__law_due b__law_due k__law_due (fun _ _ _ _ _ _ us hl => match us, hl with | [_, _], _ => rfl)
  have A_law : At K mg "law" s_law ["script"] := at_mk X G a_law l_law b_law k_law (fun _ _ _ _ _ _ us hl => match us, hl with | [_], _ => rfl)
  have z_isinstance := PySem.W.mg_none_of X G z_isinstance
  have z_int := PySem.W.mg_none_of X G z_int
  have z_bool := PySem.W.mg_none_of X G z_bool
  have z_list := PySem.W.mg_none_of X G z_list
  have z_tuple := PySem.W.mg_none_of X G z_tuple
  have z_zip := PySem.W.mg_none_of X G z_zip
  have z_len := PySem.W.mg_none_of X G z_len
  have z_enumerate := PySem.W.mg_none_of X G z_enumerate
  have z_range := PySem.W.mg_none_of X G z_range
  have z_dict := PySem.W.mg_none_of X G z_dict
  have z_str := PySem.W.mg_none_of X G z_str
  have c_POWERS : TupC K mg "POWERS" k_POWERS := tup_mk (PySem.W.mg_of X G c_POWERS) co_POWERS cc_POWERS
  have c_EXPONENTS : TupC K mg "EXPONENTS" k_EXPONENTS := tup_mk (PySem.W.mg_of X G c_EXPONENTS) co_EXPONENTS cc_EXPONENTS
  have c_MANY_POWERS : ∃ t, mg "MANY_POWERS" = some (.int 255 t) := ⟨_, PySem.W.mg_of X G c_MANY_POWERS⟩
  have c_MOST_POINTS : ∃ t, mg "MOST_POINTS" = some (.int 12 t) := ⟨_, PySem.W.mg_of X G c_MOST_POINTS⟩
  obtain ⟨C, hC_BadOctet, hC_BadPoints, hC_HouseError⟩ : ∃ C : Str → Addr, C "BadOctet" = C_BadOctet ∧ C "BadPoints" = C_BadPoints ∧ C "HouseError" = C_HouseError := ⟨fun x => if x = "BadOctet" then C_BadOctet else if x = "BadPoints" then C_BadPoints else if x = "HouseError" then C_HouseError else 0, (if_pos rfl), ((if_neg (by decide +kernel)).trans (if_pos rfl)), ((if_neg (by decide +kernel)).trans ((if_neg (by decide +kernel)).trans (if_pos rfl)))⟩
  obtain ⟨f, fd, g, F, bb⟩ := A_law.ex
  refine ⟨f, fd, g, fun s u => ?_, fun base _ _ => ?_⟩
  · obtain ⟨oc, od, kV, doc, pm, an, cdv, ct, osl, rfl, _, _⟩ := F.ex
    exact .of_eq rfl
  · have I0 : InitC P w K mg base "value" fI := init_mk lI bI kI tI lT scI rfl (by decide +kernel) (by decide +kernel) (by decide) (by decide) (fun _ _ _ _ _ _ _ us its hu hi => match us, its, hu, hi with | [_, _], [_], _, _ => ⟨_, rfl, rfl⟩)
    have X_BadOctet : ErrC K mg P w base "BadOctet" (C "BadOctet") "value" [] [] := by rw [hC_BadOctet]; exact err_mk X G I0 ea_BadOctet ec_BadOctet er_BadOctet es_BadOctet ex_BadOctet ey_BadOctet ek_BadOctet en_BadOctet ei_BadOctet
    have X_BadPoints : ErrC K mg P w base "BadPoints" (C "BadPoints") "value" [] [] := by rw [hC_BadPoints]; exact err_mk X G I0 ea_BadPoints ec_BadPoints er_BadPoints es_BadPoints ex_BadPoints ey_BadPoints ek_BadPoints en_BadPoints ei_BadPoints
    have ET : ErrT K mg C T_errs U_errs := by
      refine ⟨?_, ?_, ?_, ?_, ?_⟩
      · intro x hx; simp only [List.mem_cons, List.not_mem_nil, or_false] at hx; rcases hx with rfl | rfl
        · rw [hC_BadOctet]; exact ⟨⟨ga_BadOctet, gg_BadOctet, ex_BadOctet, hd_BadOctet, ha_BadOctet, hn0, ht0, hm_BadOctet⟩, ⟨ga_BadOctet, gg_BadOctet, ex_BadOctet, hd_BadOctet⟩⟩
        · rw [hC_BadPoints]; exact ⟨⟨ga_BadPoints, gg_BadPoints, ex_BadPoints, hd_BadPoints, ha_BadPoints, hn0, ht0, hm_BadPoints⟩, ⟨ga_BadPoints, gg_BadPoints, ex_BadPoints, hd_BadPoints⟩⟩
      · intro x hx; simp only [List.mem_cons, List.not_mem_nil, or_false] at hx; rcases hx with rfl | rfl
        · rw [hC_BadOctet]; exact en_BadOctet
        · rw [hC_BadPoints]; exact en_BadPoints
      · intro x hx y hy; simp only [List.mem_cons, List.not_mem_nil, or_false] at hx; rcases hx with rfl | rfl
        · simp only [List.mem_cons, List.not_mem_nil, or_false] at hy; rcases hy with rfl | rfl | rfl
          · rw [hC_BadOctet, hC_HouseError]; exact ⟨em_BadOctet_HouseError, kt_BadOctet_HouseError⟩
          · rw [hC_BadOctet, hC_BadPoints]; exact ⟨em_BadOctet_BadPoints, kt_BadOctet_BadPoints⟩
          · rw [hC_BadOctet]; exact ⟨em_BadOctet_BadOctet, kt_BadOctet_BadOctet⟩
        · simp only [List.mem_cons, List.not_mem_nil, or_false] at hy; rcases hy with rfl | rfl | rfl
          · rw [hC_BadPoints, hC_HouseError]; exact ⟨em_BadPoints_HouseError, kt_BadPoints_HouseError⟩
          · rw [hC_BadPoints]; exact ⟨em_BadPoints_BadPoints, kt_BadPoints_BadPoints⟩
          · rw [hC_BadPoints, hC_BadOctet]; exact ⟨em_BadPoints_BadOctet, kt_BadPoints_BadOctet⟩
      · intro x hx; simp only [List.mem_cons, List.not_mem_nil, or_false] at hx; rcases hx with rfl | rfl
        · rw [hC_BadOctet]; exact vv_BadOctet
        · rw [hC_BadPoints]; exact vv_BadPoints
      · intro y hx; simp only [List.mem_cons, List.not_mem_nil, or_false] at hx; rcases hx with rfl | rfl | rfl
        · rw [hC_HouseError]; exact ⟨PySem.W.mg_of X G ea_HouseError, ek_HouseError⟩
        · rw [hC_BadPoints]; exact ⟨PySem.W.mg_of X G ea_BadPoints, ek_BadPoints⟩
        · rw [hC_BadOctet]; exact ⟨PySem.W.mg_of X G ea_BadOctet, ek_BadOctet⟩
    have D_is_integer := has_is_integer (P := P) (w := w) (base := base) (C := C) A_is_integer z_bool z_int z_isinstance
    have D_is_octet := has_is_octet (P := P) (w := w) (base := base) (C := C) A_is_octet D_is_integer
    have D_is_row := has_is_row (P := P) (w := w) (base := base) (C := C) A_is_row z_isinstance z_list z_tuple
    have D_check_octet := has_check_octet (P := P) (w := w) (base := base) (C := C) A_check_octet D_is_octet X_BadOctet
    have D_product := has_product (P := P) (w := w) (base := base) (C := C) A_product c_POWERS c_EXPONENTS c_MANY_POWERS
    have D_quotient := has_quotient (P := P) (w := w) (base := base) (C := C) A_quotient c_POWERS c_EXPONENTS c_MANY_POWERS
    have D_weights := has_weights (P := P) (w := w) (base := base) (C := C) A_weights D_product D_quotient
    have D_weighed := has_weighed (P := P) (w := w) (base := base) (C := C) A_weighed D_product z_zip
    have D_is_point := has_is_point (P := P) (w := w) (base := base) (C := C) A_is_point D_is_octet z_isinstance z_len z_tuple
    have D_check_points := has_check_points (P := P) (w := w) (base := base) (C := C) A_check_points D_is_row D_is_point z_enumerate z_len c_MOST_POINTS X_BadPoints
    have D_value_at := has_value_at (P := P) (w := w) (base := base) (C := C) A_value_at D_check_points D_check_octet D_weighed D_weights
    have D__law_taken := has__law_taken (P := P) (w := w) (base := base) (C := C) A__law_taken z_int z_len
    have D__law_pick := has__law_pick (P := P) (w := w) (base := base) (C := C) A__law_pick D__law_taken z_len
    have D__law_alike := has__law_alike (P := P) (w := w) (base := base) (C := C) A__law_alike z_bool z_dict z_int z_isinstance z_len z_list z_range z_str z_tuple
    have D__law_any := has__law_any (P := P) (w := w) (base := base) (C := C) A__law_any D__law_pick
    have D__law_slow := has__law_slow (P := P) (w := w) (base := base) (C := C) A__law_slow z_int z_range
    have D__law_value := has__law_value (P := P) (w := w) (base := base) (C := C) A__law_value D__law_slow
    have D__law_told := has__law_told (P := P) (w := w) (base := base) (C := C) A__law_told D_value_at z_isinstance ET
    have D__law_is_octet := has__law_is_octet (P := P) (w := w) (base := base) (C := C) A__law_is_octet z_bool z_int z_isinstance
    have D__law_due := has__law_due (P := P) (w := w) (base := base) (C := C) A__law_due D__law_is_octet z_isinstance z_len z_list z_range z_tuple
    exact fn_law (C := C) law_ok F D__law_taken D__law_pick D__law_value D__law_alike D__law_told D__law_any D__law_due z_list z_range z_tuple
end Lw
open PySem PySem.W PyProof.Rows
set_option maxHeartbeats 0 in
theorem PySem.Challenge.cw_sparehouses_k48_polynomials_holds : PySem.Challenge.rw_sparehouses_k48_polynomials.Holds := by
  w_on; o_law; k_head; (case hw => w_witness2)
  k_fill
  refine KD.walkD (l := PySem.Challenge.rw_sparehouses_k48_polynomials) (k := 14) rfl rfl ⟨rfl, by decide, by decide⟩ rfl (fun w h Y => PySem.W.kIn_of Y) ?F
  case F =>
    intro w mg h KX G
    refine' Lw.all_mk KX G ?a_is_integer ?l_is_integer ?b_is_integer ?k_is_integer ?a_is_octet ?l_is_octet ?b_is_octet ?k_is_octet ?a_is_row ?l_is_row ?b_is_row ?k_is_row ?a_check_octet ?l_check_octet ?b_check_octet ?k_check_octet ?a_product ?l_product ?b_product ?k_product ?a_quotient ?l_quotient ?b_quotient ?k_quotient ?a_weights ?l_weights ?b_weights ?k_weights ?a_weighed ?l_weighed ?b_weighed ?k_weighed ?a_is_point ?l_is_point ?b_is_point ?k_is_point ?a_check_points ?l_check_points ?b_check_points ?k_check_points ?a_value_at ?l_value_at ?b_value_at ?k_value_at ?a__law_taken ?l__law_taken ?b__law_taken ?k__law_taken ?a__law_pick ?l__law_pick ?b__law_pick ?k__law_pick ?a__law_alike ?l__law_alike ?b__law_alike ?k__law_alike ?a__law_any ?l__law_any ?b__law_any ?k__law_any ?a__law_slow ?l__law_slow ?b__law_slow ?k__law_slow ?a__law_value ?l__law_value ?b__law_value ?k__law_value ?a__law_told ?l__law_told ?b__law_told ?k__law_told ?a__law_is_octet ?l__law_is_octet ?b__law_is_octet ?k__law_is_octet ?a__law_due ?l__law_due ?b__law_due ?k__law_due ?a_law ?l_law ?b_law ?k_law ?z_isinstance ?z_int ?z_bool ?z_list ?z_tuple ?z_zip ?z_len ?z_enumerate ?z_range ?z_dict ?z_str ?c_POWERS ?co_POWERS ?cc_POWERS ?c_EXPONENTS ?co_EXPONENTS ?cc_EXPONENTS ?c_MANY_POWERS ?c_MOST_POINTS ?ea_BadOctet ?ei_BadOctet ?ea_BadPoints ?ei_BadPoints ?ea_HouseError ?lI ?bI ?kI ?tI ?lT ?ec_BadOctet ?er_BadOctet ?es_BadOctet ?ex_BadOctet ?ey_BadOctet ?ek_BadOctet ?en_BadOctet ?ec_BadPoints ?er_BadPoints ?es_BadPoints ?ex_BadPoints ?ey_BadPoints ?ek_BadPoints ?en_BadPoints ?ek_HouseError ?hn0 ?ht0 ?ga_BadOctet ?gg_BadOctet ?hd_BadOctet ?ha_BadOctet ?hm_BadOctet ?vv_BadOctet ?em_BadOctet_HouseError ?kt_BadOctet_HouseError ?em_BadOctet_BadPoints ?kt_BadOctet_BadPoints ?em_BadOctet_BadOctet ?kt_BadOctet_BadOctet ?ga_BadPoints ?gg_BadPoints ?hd_BadPoints ?ha_BadPoints ?hm_BadPoints ?vv_BadPoints ?em_BadPoints_HouseError ?kt_BadPoints_HouseError ?em_BadPoints_BadPoints ?kt_BadPoints_BadPoints ?em_BadPoints_BadOctet ?kt_BadPoints_BadOctet
    (case a_is_integer => k_is)
    (case l_is_integer => k_is)
    (case b_is_integer => k_is)
    (case k_is_integer => k_is)
    (case a_is_octet => k_is)
    (case l_is_octet => k_is)
    (case b_is_octet => k_is)
    (case k_is_octet => k_is)
    (case a_is_row => k_is)
    (case l_is_row => k_is)
    (case b_is_row => k_is)
    (case k_is_row => k_is)
    (case a_check_octet => k_is)
    (case l_check_octet => k_is)
    (case b_check_octet => k_is)
    (case k_check_octet => k_is)
    (case a_product => k_is)
    (case l_product => k_is)
    (case b_product => k_is)
    (case k_product => k_is)
    (case a_quotient => k_is)
    (case l_quotient => k_is)
    (case b_quotient => k_is)
    (case k_quotient => k_is)
    (case a_weights => k_is)
    (case l_weights => k_is)
    (case b_weights => k_is)
    (case k_weights => k_is)
    (case a_weighed => k_is)
    (case l_weighed => k_is)
    (case b_weighed => k_is)
    (case k_weighed => k_is)
    (case a_is_point => k_is)
    (case l_is_point => k_is)
    (case b_is_point => k_is)
    (case k_is_point => k_is)
    (case a_check_points => k_is)
    (case l_check_points => k_is)
    (case b_check_points => k_is)
    (case k_check_points => k_is)
    (case a_value_at => k_is)
    (case l_value_at => k_is)
    (case b_value_at => k_is)
    (case k_value_at => k_is)
    (case a__law_taken => k_is)
    (case l__law_taken => k_is)
    (case b__law_taken => k_is)
    (case k__law_taken => k_is)
    (case a__law_pick => k_is)
    (case l__law_pick => k_is)
    (case b__law_pick => k_is)
    (case k__law_pick => k_is)
    (case a__law_alike => k_is)
    (case l__law_alike => k_is)
    (case b__law_alike => k_is)
    (case k__law_alike => k_is)
    (case a__law_any => k_is)
    (case l__law_any => k_is)
    (case b__law_any => k_is)
    (case k__law_any => k_is)
    (case a__law_slow => k_is)
    (case l__law_slow => k_is)
    (case b__law_slow => k_is)
    (case k__law_slow => k_is)
    (case a__law_value => k_is)
    (case l__law_value => k_is)
    (case b__law_value => k_is)
    (case k__law_value => k_is)
    (case a__law_told => k_is)
    (case l__law_told => k_is)
    (case b__law_told => k_is)
    (case k__law_told => k_is)
    (case a__law_is_octet => k_is)
    (case l__law_is_octet => k_is)
    (case b__law_is_octet => k_is)
    (case k__law_is_octet => k_is)
    (case a__law_due => k_is)
    (case l__law_due => k_is)
    (case b__law_due => k_is)
    (case k__law_due => k_is)
    (case a_law => k_is)
    (case l_law => k_is)
    (case b_law => k_is)
    (case k_law => k_is)
    (case z_isinstance => k_is)
    (case z_int => k_is)
    (case z_bool => k_is)
    (case z_list => k_is)
    (case z_tuple => k_is)
    (case z_zip => k_is)
    (case z_len => k_is)
    (case z_enumerate => k_is)
    (case z_range => k_is)
    (case z_dict => k_is)
    (case z_str => k_is)
    (case c_POWERS => k_is)
    (case co_POWERS => k_is)
    (case cc_POWERS => decide +kernel)
    (case c_EXPONENTS => k_is)
    (case co_EXPONENTS => k_is)
    (case cc_EXPONENTS => decide +kernel)
    (case c_MANY_POWERS => k_is)
    (case c_MOST_POINTS => k_is)
    (case ea_BadOctet => k_is)
    (case ei_BadOctet => k_is)
    (case ea_BadPoints => k_is)
    (case ei_BadPoints => k_is)
    (case ea_HouseError => k_is)
    (case lI => k_is)
    (case bI => k_is)
    (case kI => k_is)
    (case tI => k_is)
    (case lT => k_is)
    (case ec_BadOctet => k_is)
    (case er_BadOctet => decide +kernel)
    (case es_BadOctet => k_is)
    (case ex_BadOctet => k_is)
    (case ey_BadOctet => k_is)
    (case ek_BadOctet => k_is)
    (case en_BadOctet => k_is)
    (case ec_BadPoints => k_is)
    (case er_BadPoints => decide +kernel)
    (case es_BadPoints => k_is)
    (case ex_BadPoints => k_is)
    (case ey_BadPoints => k_is)
    (case ek_BadPoints => k_is)
    (case en_BadPoints => k_is)
    (case ek_HouseError => k_is)
    (case hn0 => k_is)
    (case ht0 => k_is)
    (case ga_BadOctet => k_is)
    (case gg_BadOctet => k_is)
    (case hd_BadOctet => k_is)
    (case ha_BadOctet => k_is)
    (case hm_BadOctet => k_is)
    (case vv_BadOctet => kit_is)
    (case em_BadOctet_HouseError => kts_exm)
    (case kt_BadOctet_HouseError => kit_is)
    (case em_BadOctet_BadPoints => kts_exm)
    (case kt_BadOctet_BadPoints => kit_is)
    (case em_BadOctet_BadOctet => kts_exm)
    (case kt_BadOctet_BadOctet => kit_is)
    (case ga_BadPoints => k_is)
    (case gg_BadPoints => k_is)
    (case hd_BadPoints => k_is)
    (case ha_BadPoints => k_is)
    (case hm_BadPoints => k_is)
    (case vv_BadPoints => kit_is)
    (case em_BadPoints_HouseError => kts_exm)
    (case kt_BadPoints_HouseError => kit_is)
    (case em_BadPoints_BadPoints => kts_exm)
    (case kt_BadPoints_BadPoints => kit_is)
    (case em_BadPoints_BadOctet => kts_exm)
    (case kt_BadPoints_BadOctet => kit_is)
