import PyProof.Rows.All
import Wide.All
import OpenK.AllK
import Wide.FinOn
import HandS.ForMost
import HandS.Exc
import HandS.ExcOwn
import HandS.ExcInit
import HandS.WordsExc
import HandS.TryOnly
import HandS.Evl
import HandS.Wide
import HandS.Lambda
import HandS.Walk
import HandS.TupAny
import HandS.TupMul
import HandS.IsInst
import KE.GoesEnum
import HandS.Iter
import KE.GoesZip
import HandS.TupLe
import HandS.ExcField
import HandS.Style
import HandS.Defaults
import HandS.Text
import HandS.Strs
import KE.KRevSl
import HandS.TryMany
import HandS.ExcIs
import KE.RegKTryMore
import KE.RegKIsAll
import KE.KExcIs
import HandS.More
import HandS.Deep
import KE.DataFind
import PyProof.ReprRoads
import HandS.EndTab
import KE.KNestM
import HandS.CallLocal
import HandS.Conv
import PySem.Challenge.RW_sparehouses_k26_octets_read_or_refused
set_option Elab.async false
set_option linter.all false
set_option maxRecDepth 100000
set_option maxHeartbeats 4000000
/-! Kd0: data without a heap: values D, what represents them (Rep), the store of what may change (Sto), the judgements over HandS. -/
namespace KD
open PySem PySem.Spec PyProof.Rows L2
abbrev Ex := Evl.Ex

inductive D where
  | non | bl (b : Bool) | int (i : Int) | str (x : Str)
  | lst (xs : List D) | tup (xs : List D)
  | dic (kvs : List (Key × D))
  | dit (kvs : List (List Key × D))
  | ref (a : Addr)
  | scr (ns : List Int)
  | ty (n : String)
  | fn (n : Str)

/-- a tuple that is tracked, or written by the module -/
def TupG (K : PySem.W.Frag) (G : Hp) (a : Addr) (vs : List V) : Prop :=
  G a = some (.tup vs) ∨ ∃ (o : Obj) (its : Array Value) (n : Nat), K.lookup a = some o ∧ o.cls = .type "tuple" ∧ o.data = .seq its n ∧ its.size ≤ sizeLine ∧ Vals vs its.toList
theorem TupG.sq {K : PySem.W.Frag} {G : Hp} {a : Addr} {vs : List V} (h : TupG K G a vs) : SqT K G a vs := by
  rcases h with h | h
  · exact .of h
  · exact .inr h
theorem TupG.mono {K : PySem.W.Frag} {G G' : Hp} {a : Addr} {vs : List V} (e : Ex G G') (h : TupG K G a vs) : TupG K G' a vs := by
  rcases h with h | h
  · exact .inl (e _ _ h)
  · exact .inr h

mutual
inductive Rep (K : PySem.W.Frag) (G : Hp) : V → D → Prop
  | non : Rep K G .non .non
  | bl (b : Bool) : Rep K G (.bl b) (.bl b)
  | int (i : Int) : Rep K G (.int i) (.int i)
  | str (x : Str) : Rep K G (.str x) (.str x)
  | ref (a : Addr) : Rep K G (.ref a) (.ref a)
  | ty (n : String) : Rep K G (.ty n) (.ty n)
  | fn {a : Addr} {n : Str} : PySem.W.nsIn K mainGlobals n = some (some (.ref a)) → Rep K G (.ref a) (.fn n)
  | lst {a : Addr} {vs : List V} {xs : List D} : G a = some (.lst vs) → RepL K G vs xs → Rep K G (.ref a) (.lst xs)
  | tup {a : Addr} {vs : List V} {xs : List D} : TupG K G a vs → RepL K G vs xs → Rep K G (.ref a) (.tup xs)
  | scr {a : Addr} {ns : List Int} : SqL K G a (ns.map V.int) → Rep K G (.ref a) (.scr ns)
  | dic {a : Addr} {o : Obj} {vs : List (Key × V)} {xs : List (Key × D)} : G a = some (.frz o (.dK vs)) → RepK K G vs xs → Rep K G (.ref a) (.dic xs)
  | dit {a : Addr} {o : Obj} {vs : List (List Key × V)} {xs : List (List Key × D)} : G a = some (.frz o (.dT vs)) → RepT K G vs xs → Rep K G (.ref a) (.dit xs)
inductive RepL (K : PySem.W.Frag) (G : Hp) : List V → List D → Prop
  | nil : RepL K G [] []
  | cons {v : V} {vs : List V} {d : D} {ds : List D} : Rep K G v d → RepL K G vs ds → RepL K G (v :: vs) (d :: ds)
inductive RepK (K : PySem.W.Frag) (G : Hp) : List (Key × V) → List (Key × D) → Prop
  | nil : RepK K G [] []
  | cons {k : Key} {v : V} {vs : List (Key × V)} {d : D} {ds : List (Key × D)} : Rep K G v d → RepK K G vs ds → RepK K G ((k, v) :: vs) ((k, d) :: ds)
inductive RepT (K : PySem.W.Frag) (G : Hp) : List (List Key × V) → List (List Key × D) → Prop
  | nil : RepT K G [] []
  | cons {k : List Key} {v : V} {vs : List (List Key × V)} {d : D} {ds : List (List Key × D)} : Rep K G v d → RepT K G vs ds → RepT K G ((k, v) :: vs) ((k, d) :: ds)
end
def RepF (K : PySem.W.Frag) (G : Hp) : List (Str × V) → List (Str × D) → Prop := Paired fun p q => p.1 = q.1 ∧ Rep K G p.2 q.2

section
variable {K : PySem.W.Frag} {G G' : Hp}
mutual
theorem Rep.mono (e : Ex G G') : ∀ {d : D} {v : V}, Rep K G v d → Rep K G' v d
  | .non, _, h => by cases h; exact .non
  | .bl b, _, h => by cases h; exact .bl b
  | .int i, _, h => by cases h; exact .int i
  | .str x, _, h => by cases h; exact .str x
  | .ref a, _, h => by cases h; exact .ref a
  | .ty n, _, h => by cases h; exact .ty n
  | .fn n, _, h => by
    cases h with
    | fn h => exact .fn h
  | .scr ns, _, h => by
    cases h with
    | scr h => exact .scr (Evl.ex_l e h)
  | .lst xs, _, h => by
    cases h with
    | lst h1 h2 => exact .lst (e _ _ h1) (RepL.mono e h2)
  | .tup xs, _, h => by
    cases h with
    | tup h1 h2 => exact .tup (h1.mono e) (RepL.mono e h2)
  | .dic xs, _, h => by
    cases h with
    | dic h1 h2 => exact .dic (e _ _ h1) (RepK.mono e h2)
  | .dit xs, _, h => by
    cases h with
    | dit h1 h2 => exact .dit (e _ _ h1) (RepT.mono e h2)
theorem RepL.mono (e : Ex G G') : ∀ {ds : List D} {vs : List V}, RepL K G vs ds → RepL K G' vs ds
  | [], _, h => by cases h; exact .nil
  | d :: ds, _, h => by
    cases h with
    | cons h1 h2 => exact .cons (Rep.mono e h1) (RepL.mono e h2)
theorem RepK.mono (e : Ex G G') : ∀ {ds : List (Key × D)} {vs : List (Key × V)}, RepK K G vs ds → RepK K G' vs ds
  | [], _, h => by cases h; exact .nil
  | (k, d) :: ds, _, h => by
    cases h with
    | cons h1 h2 => exact .cons (Rep.mono e h1) (RepK.mono e h2)
theorem RepT.mono (e : Ex G G') : ∀ {ds : List (List Key × D)} {vs : List (List Key × V)}, RepT K G vs ds → RepT K G' vs ds
  | [], _, h => by cases h; exact .nil
  | (k, d) :: ds, _, h => by
    cases h with
    | cons h1 h2 => exact .cons (Rep.mono e h1) (RepT.mono e h2)
end
theorem RepF.mono (e : Ex G G') {fs : List (Str × V)} {ds : List (Str × D)} (h : RepF K G fs ds) : RepF K G' fs ds := Paired.mapP h fun _ _ z => ⟨z.1, z.2.mono e⟩
theorem RepL.length : ∀ {vs : List V} {ds : List D}, RepL K G vs ds → vs.length = ds.length
  | [], _, h => by cases h; rfl
  | v :: vs, _, h => by
    cases h with
    | cons h1 h2 => simp [RepL.length h2]
theorem RepL.get : ∀ {vs : List V} {ds : List D} {i : Nat} {d : D}, RepL K G vs ds → ds[i]? = some d → ∃ v, vs[i]? = some v ∧ Rep K G v d
  | [], _, i, d, h, e => by cases h; simp at e
  | v :: vs, _, 0, d, h, e => by
    cases h with
    | cons h1 h2 => simp at e; subst e; exact ⟨v, rfl, h1⟩
  | v :: vs, _, i + 1, d, h, e => by
    cases h with
    | cons h1 h2 => exact RepL.get (i := i) h2 (by simpa using e)
theorem RepL.get' : ∀ {vs : List V} {ds : List D} {i : Nat} {v : V}, RepL K G vs ds → vs[i]? = some v → ∃ d, ds[i]? = some d ∧ Rep K G v d
  | [], _, i, v, h, e => by simp at e
  | w :: vs, _, 0, v, h, e => by
    cases h with
    | cons h1 h2 => simp at e; subst e; exact ⟨_, rfl, h1⟩
  | w :: vs, _, i + 1, v, h, e => by
    cases h with
    | cons h1 h2 => exact RepL.get' (i := i) h2 (by simpa using e)
theorem RepL.append : ∀ {vs us : List V} {ds es : List D}, RepL K G vs ds → RepL K G us es → RepL K G (vs ++ us) (ds ++ es)
  | [], _, _, _, h, q => by cases h; exact q
  | v :: vs, _, _, _, h, q => by
    cases h with
    | cons h1 h2 => exact .cons h1 (RepL.append h2 q)
theorem RepL.one {v : V} {d : D} (h : Rep K G v d) : RepL K G [v] [d] := .cons h .nil
theorem RepL.set {v : V} {d : D} (r : Rep K G v d) : ∀ {vs : List V} {ds : List D} (i : Nat), RepL K G vs ds → RepL K G (vs.set i v) (ds.set i d)
  | [], _, _, h => by cases h; exact .nil
  | w :: vs, _, 0, h => by
    cases h with
    | cons h1 h2 => exact .cons r h2
  | w :: vs, _, i + 1, h => by
    cases h with
    | cons h1 h2 => exact .cons h1 (RepL.set r i h2)
theorem RepL.take : ∀ {vs : List V} {ds : List D} (n : Nat), RepL K G vs ds → RepL K G (vs.take n) (ds.take n)
  | [], _, n, h => by cases h; simp; exact .nil
  | w :: vs, _, 0, h => .nil
  | w :: vs, _, n + 1, h => by
    cases h with
    | cons h1 h2 => exact .cons h1 (RepL.take n h2)
theorem RepL.drop : ∀ {vs : List V} {ds : List D} (n : Nat), RepL K G vs ds → RepL K G (vs.drop n) (ds.drop n)
  | [], _, n, h => by cases h; simp; exact .nil
  | w :: vs, _, 0, h => h
  | w :: vs, _, n + 1, h => by
    cases h with
    | cons h1 h2 => exact RepL.drop n h2
theorem RepL.ints : ∀ {ns : List Int} {vs : List V}, RepL K G vs (ns.map D.int) → vs = ns.map V.int
  | [], _, h => by cases h; rfl
  | n :: ns, _, h => by
    cases h with
    | cons h1 h2 => cases h1; rw [RepL.ints h2]; rfl
theorem RepL.of_ints : ∀ (ns : List Int), RepL K G (ns.map V.int) (ns.map D.int)
  | [] => .nil
  | n :: ns => .cons (.int n) (RepL.of_ints ns)
end

/-! ### the store -/
inductive DM where
  | lst (xs : List D) | dic (kvs : List (Key × D)) | dit (kvs : List (List Key × D)) | ins (C : Addr) (fs : List (Str × D)) | xd (fs : List (Str × D)) | tab (q : Str) (l : List (Addr × Str))
abbrev Sto := Addr → Option DM
def put (S : Sto) (p : Addr) (m : DM) : Sto := fun b => if b = p then some m else S b
def rem (S : Sto) (p : Addr) : Sto := fun b => if b = p then none else S b
theorem put_same {S : Sto} {p : Addr} {m : DM} : put S p m p = some m := if_pos rfl
theorem put_ne {S : Sto} {p b : Addr} {m : DM} (h : b ≠ p) : put S p m b = S b := if_neg h
theorem rem_same {S : Sto} {p : Addr} : rem S p p = none := if_pos rfl
theorem rem_ne {S : Sto} {p b : Addr} (h : b ≠ p) : rem S p b = S b := if_neg h
theorem put_put {S : Sto} {p : Addr} {m n : DM} : put (put S p m) p n = put S p n := by
  funext b; unfold put; split <;> rfl
theorem rem_put {S : Sto} {p : Addr} {m : DM} (h : S p = none) : rem (put S p m) p = S := by
  funext b; unfold rem put
  by_cases e : b = p
  · rw [if_pos e, e, h]
  · rw [if_neg e, if_neg e]
theorem put_eq {S : Sto} {p : Addr} {m : DM} (h : S p = some m) : put S p m = S := by
  funext b; unfold put
  by_cases e : b = p
  · rw [if_pos e, e, h]
  · rw [if_neg e]
def MOk (K : PySem.W.Frag) (G H : Hp) (p : Addr) : DM → Prop
  | .lst xs => ∃ vs, H p = some (.lst vs) ∧ RepL K G vs xs
  | .dic kvs => ∃ vs, H p = some (.dK vs) ∧ RepK K G vs kvs
  | .dit kvs => ∃ vs, H p = some (.dT vs) ∧ RepT K G vs kvs ∧ ∀ kv ∈ vs, ∃ a, G a = some (.tup (kv.1.map kV))
  | .ins C fs => ∃ dx vs, H p = some (.ins C dx vs) ∧ RepF K G vs fs
  | .xd fs => ∃ vs, H p = some (.xd vs) ∧ RepF K G vs fs
  | .tab q _ => ∃ ps : Array Value, H p = some (.tbl ps) ∧ TriplesOk ps.toList ∧ ∀ (pos : Pos) (cv : Value), codeAmong pos ps.toList = some cv → ∃ c, cv = .ref c ∧ G c = some (LamX.CodeO c q)
structure Wok (K : PySem.W.Frag) (G H : Hp) (S : Sto) : Prop where
  ext : Ex G H
  sto : ∀ p m, S p = some m → G p = none ∧ MOk K G H p m
  nt : ∀ p ps, G p ≠ some (.tbl ps)
  tt : ∀ p q l p' q' l', S p = some (.tab q l) → S p' = some (.tab q' l') → l' = l ∧ (p', q') ∈ l
theorem tt_put {S : Sto} {p : Addr} {m : DM} (t : ∀ p q l p' q' l', S p = some (.tab q l) → S p' = some (.tab q' l') → l' = l ∧ (p', q') ∈ l) (h : ∀ q l, m ≠ .tab q l) : ∀ p1 q l p' q' l', put S p m p1 = some (.tab q l) → put S p m p' = some (.tab q' l') → l' = l ∧ (p', q') ∈ l := fun p1 q l p' q' l' e e' => by
  by_cases c : p1 = p
  · subst c; rw [put_same] at e; exact absurd (Option.some.inj e) (h _ _)
  by_cases c' : p' = p
  · subst c'; rw [put_same] at e'; exact absurd (Option.some.inj e') (h _ _)
  rw [put_ne c] at e; rw [put_ne c'] at e'; exact t _ _ _ _ _ _ e e'
theorem tt_rem {S : Sto} {p : Addr} (t : ∀ p q l p' q' l', S p = some (.tab q l) → S p' = some (.tab q' l') → l' = l ∧ (p', q') ∈ l) : ∀ p1 q l p' q' l', rem S p p1 = some (.tab q l) → rem S p p' = some (.tab q' l') → l' = l ∧ (p', q') ∈ l := fun p1 q l p' q' l' e e' => by
  by_cases c : p1 = p
  · subst c; rw [rem_same] at e; cases e
  by_cases c' : p' = p
  · subst c'; rw [rem_same] at e'; cases e'
  rw [rem_ne c] at e; rw [rem_ne c'] at e'; exact t _ _ _ _ _ _ e e'
theorem nt_upd {G : Hp} {p : Addr} {o : HO} (n : ∀ p ps, G p ≠ some (.tbl ps)) (h : ∀ ps, o ≠ .tbl ps) : ∀ q ps, upd G p o q ≠ some (.tbl ps) := fun q ps e => by
  by_cases c : q = p
  · subst c; rw [upd_same] at e; exact h ps (Option.some.inj e)
  · rw [upd_ne c] at e; exact n q ps e
def HoP : HO → Prop
  | .ext _ => False
  | .tbl _ => False
  | _ => True
structure Fr (G H : Hp) (S : Sto) (G' H' : Hp) (S' : Sto) : Prop where
  g : Ex G G'
  fr : ∀ a o, H a = some o → G a = none → S a = none → HoP o → H' a = some o ∧ G' a = none ∧ S' a = none
theorem Fr.refl (G H : Hp) (S : Sto) : Fr G H S G H S := ⟨Evl.Ex.refl _, fun _ _ h g s _ => ⟨h, g, s⟩⟩
theorem Fr.trans {G H G1 H1 G2 H2 : Hp} {S S1 S2 : Sto} (a : Fr G H S G1 H1 S1) (b : Fr G1 H1 S1 G2 H2 S2) : Fr G H S G2 H2 S2 :=
  ⟨a.g.trans b.g, fun x o h g s n => let ⟨h1, g1, s1⟩ := a.fr x o h g s n; b.fr x o h1 g1 s1 n⟩
section
variable {K : PySem.W.Frag} {G H G' H' : Hp} {S : Sto} {p : Addr}
theorem MOk.ex {m : DM} (h : MOk K G H p m) : ∃ o, H p = some o := by
  cases m with
  | lst xs => obtain ⟨_, h, _⟩ := h; exact ⟨_, h⟩
  | dic xs => obtain ⟨_, h, _⟩ := h; exact ⟨_, h⟩
  | dit xs => obtain ⟨_, h, _⟩ := h; exact ⟨_, h⟩
  | ins C fs => obtain ⟨_, _, h, _⟩ := h; exact ⟨_, h⟩
  | xd fs => obtain ⟨_, h, _⟩ := h; exact ⟨_, h⟩
  | tab q l => obtain ⟨_, h, _⟩ := h; exact ⟨_, h⟩
theorem MOk.mono {m : DM} (e : Ex G G') (h : MOk K G H p m) (k : ∀ o, H p = some o → H' p = some o) : MOk K G' H' p m := by
  cases m with
  | lst xs => obtain ⟨vs, h, r⟩ := h; exact ⟨vs, k _ h, r.mono e⟩
  | dic xs => obtain ⟨vs, h, r⟩ := h; exact ⟨vs, k _ h, r.mono e⟩
  | dit xs => obtain ⟨vs, h, r, q⟩ := h; exact ⟨vs, k _ h, r.mono e, fun kv hk => let ⟨a, z⟩ := q kv hk; ⟨a, e _ _ z⟩⟩
  | ins C fs => obtain ⟨dx, vs, h, r⟩ := h; exact ⟨dx, vs, k _ h, r.mono e⟩
  | xd fs => obtain ⟨vs, h, r⟩ := h; exact ⟨vs, k _ h, r.mono e⟩
  | tab q l => obtain ⟨ps, h, t, r⟩ := h; exact ⟨ps, k _ h, t, fun pos cv z => let ⟨c, e1, e2⟩ := r pos cv z; ⟨c, e1, e _ _ e2⟩⟩
theorem Wok.freeG (w : Wok K G H S) (h : H p = none) : G p = none := Evl.fresh_back w.ext h
theorem Wok.freeS (w : Wok K G H S) (h : H p = none) : S p = none := by
  cases e : S p with
  | none => rfl
  | some m =>
    obtain ⟨o, q⟩ := MOk.ex (w.sto p m e).2
    rw [h] at q; cases q
/-- a new object that becomes data -/
theorem Wok.newG {o : HO} (w : Wok K G H S) (h : H p = none) (ho : ∀ ps, o ≠ .tbl ps := by nofun) : Wok K (upd G p o) (upd H p o) S ∧ Fr G H S (upd G p o) (upd H p o) S := by
  have gp := w.freeG h
  have sp := w.freeS h
  have eg : Ex G (upd G p o) := Evl.Ex.new gp
  refine ⟨⟨fun a u e => ?_, fun q m e => ?_, nt_upd w.nt ho, w.tt⟩, ⟨eg, fun a u e g s _ => ?_⟩⟩
  · by_cases c : a = p
    · subst c; rw [upd_same] at e ⊢; exact e
    · rw [upd_ne c] at e ⊢; exact w.ext a u e
  · have c : q ≠ p := fun c => by subst c; rw [sp] at e; cases e
    obtain ⟨g, m'⟩ := w.sto q m e
    exact ⟨by rw [upd_ne c]; exact g, MOk.mono eg m' fun u z => by rw [upd_ne c]; exact z⟩
  · have c : a ≠ p := fun c => by subst c; rw [h] at e; cases e
    exact ⟨by rw [upd_ne c]; exact e, by rw [upd_ne c]; exact g, s⟩
/-- a new object that is known to nobody -/
theorem Wok.newH {o : HO} (w : Wok K G H S) (h : H p = none) : Wok K G (upd H p o) S ∧ Fr G H S G (upd H p o) S := by
  have sp := w.freeS h
  refine ⟨⟨w.ext.trans (Evl.Ex.new h), fun q m e => ?_, w.nt, w.tt⟩, ⟨Evl.Ex.refl _, fun a u e g s _ => ?_⟩⟩
  · have c : q ≠ p := fun c => by subst c; rw [sp] at e; cases e
    obtain ⟨g, m'⟩ := w.sto q m e
    exact ⟨g, MOk.mono (Evl.Ex.refl _) m' fun u z => by rw [upd_ne c]; exact z⟩
  · have c : a ≠ p := fun c => by subst c; rw [h] at e; cases e
    exact ⟨by rw [upd_ne c]; exact e, g, s⟩
/-- a hidden object changes -/
theorem Wok.hid {o : HO} (w : Wok K G H S) (g : G p = none) (s : S p = none) : Wok K G (upd H p o) S := by
  refine ⟨fun a u e => ?_, fun q m e => ?_, w.nt, w.tt⟩
  · have c : a ≠ p := fun c => by subst c; rw [g] at e; cases e
    rw [upd_ne c]; exact w.ext a u e
  · have c : q ≠ p := fun c => by subst c; rw [s] at e; cases e
    obtain ⟨g, m'⟩ := w.sto q m e
    exact ⟨g, MOk.mono (Evl.Ex.refl _) m' fun u z => by rw [upd_ne c]; exact z⟩
/-- a hidden object becomes data -/
theorem Wok.show {o : HO} (w : Wok K G H S) (h : H p = some o) (s : S p = none) (ho : ∀ ps, o ≠ .tbl ps := by nofun) : Wok K (upd G p o) H S := by
  by_cases g : G p = none
  · have eg : Ex G (upd G p o) := Evl.Ex.new g
    refine ⟨fun a u e => ?_, fun q m e => ?_, nt_upd w.nt ho, w.tt⟩
    · by_cases c : a = p
      · subst c; rw [upd_same] at e; cases e; exact h
      · rw [upd_ne c] at e; exact w.ext a u e
    · have c : q ≠ p := fun c => by subst c; rw [s] at e; cases e
      obtain ⟨g, m'⟩ := w.sto q m e
      exact ⟨by rw [upd_ne c]; exact g, MOk.mono eg m' fun u z => z⟩
  · have e : upd G p o = G := by
      funext b
      by_cases c : b = p
      · subst c
        rw [upd_same]
        cases q : G b with
        | none => exact absurd q g
        | some u =>
          have := w.ext b u q
          rw [h] at this; exact this
      · rw [upd_ne c]
    rw [e]; exact w
/-- a new object of the store; one that changes -/
theorem Wok.newS {o : HO} {m : DM} (w : Wok K G H S) (h : H p = none) (mk : MOk K G (upd H p o) p m) (hm : ∀ q l, m ≠ .tab q l := by nofun) : Wok K G (upd H p o) (put S p m) ∧ Fr G H S G (upd H p o) (put S p m) := by
  refine ⟨⟨w.ext.trans (Evl.Ex.new h), fun q n e => ?_, w.nt, tt_put w.tt hm⟩, ⟨Evl.Ex.refl _, fun a u e g s _ => ?_⟩⟩
  · by_cases c : q = p
    · subst c; rw [put_same] at e; cases e; exact ⟨w.freeG h, mk⟩
    · rw [put_ne c] at e
      obtain ⟨g, m'⟩ := w.sto q n e
      exact ⟨g, MOk.mono (Evl.Ex.refl _) m' fun u z => by rw [upd_ne c]; exact z⟩
  · have c : a ≠ p := fun c => by subst c; rw [h] at e; cases e
    exact ⟨by rw [upd_ne c]; exact e, g, by rw [put_ne c]; exact s⟩
theorem Wok.chS {o : HO} {m n : DM} (w : Wok K G H S) (h : S p = some n) (mk : MOk K G (upd H p o) p m) (hm : ∀ q l, m ≠ .tab q l := by nofun) : Wok K G (upd H p o) (put S p m) ∧ Fr G H S G (upd H p o) (put S p m) := by
  have gp := (w.sto p n h).1
  refine ⟨⟨fun a u e => ?_, fun q n e => ?_, w.nt, tt_put w.tt hm⟩, ⟨Evl.Ex.refl _, fun a u e g s _ => ?_⟩⟩
  · have c : a ≠ p := fun c => by subst c; rw [gp] at e; cases e
    rw [upd_ne c]; exact w.ext a u e
  · by_cases c : q = p
    · subst c; rw [put_same] at e; cases e; exact ⟨gp, mk⟩
    · rw [put_ne c] at e
      obtain ⟨g, m'⟩ := w.sto q n e
      exact ⟨g, MOk.mono (Evl.Ex.refl _) m' fun u z => by rw [upd_ne c]; exact z⟩
  · have c : a ≠ p := fun c => by subst c; rw [h] at s; cases s
    exact ⟨by rw [upd_ne c]; exact e, g, by rw [put_ne c]; exact s⟩
/-- what is in the store becomes data -/
theorem Wok.frz {o : HO} {m : DM} (w : Wok K G H S) (h : S p = some m) (hp : H p = some o) (ho : ∀ ps, o ≠ .tbl ps := by nofun) : Wok K (upd G p o) H (rem S p) ∧ Fr G H S (upd G p o) H (rem S p) := by
  have gp := (w.sto p m h).1
  have eg : Ex G (upd G p o) := Evl.Ex.new gp
  refine ⟨⟨fun a u e => ?_, fun q n e => ?_, nt_upd w.nt ho, tt_rem w.tt⟩, ⟨eg, fun a u e g s _ => ?_⟩⟩
  · by_cases c : a = p
    · subst c; rw [upd_same] at e; cases e; exact hp
    · rw [upd_ne c] at e; exact w.ext a u e
  · by_cases c : q = p
    · subst c; rw [rem_same] at e; cases e
    · rw [rem_ne c] at e
      obtain ⟨g, m'⟩ := w.sto q n e
      exact ⟨by rw [upd_ne c]; exact g, MOk.mono eg m' fun u z => z⟩
  · have c : a ≠ p := fun c => by subst c; rw [h] at s; cases s
    exact ⟨e, by rw [upd_ne c]; exact g, by rw [rem_ne c]; exact s⟩
/-- forgotten -/
theorem Wok.drop (w : Wok K G H S) : Wok K G H (rem S p) := ⟨w.ext, fun q m e => by
  by_cases c : q = p
  · subst c; rw [rem_same] at e; cases e
  · rw [rem_ne c] at e; exact w.sto q m e, w.nt, tt_rem w.tt⟩
end

/-! ### slots -/
abbrev DSt := List (Option D)
structure Sl (K : PySem.W.Frag) (G : Hp) (σV : L2.St) (σ : DSt) : Prop where
  len : σV.length = σ.length
  at_ : ∀ (i : Nat) (d : D), σ[i]? = some (some d) → ∃ v, σV[i]? = some (some v) ∧ Rep K G v d
theorem Sl.mono {K : PySem.W.Frag} {G G' : Hp} {σV : L2.St} {σ : DSt} (s : Sl K G σV σ) (e : Ex G G') : Sl K G' σV σ := ⟨s.len, fun i d h => let ⟨v, h1, h2⟩ := s.at_ i d h; ⟨v, h1, h2.mono e⟩⟩
theorem Sl.set {K : PySem.W.Frag} {G : Hp} {σV : L2.St} {σ : DSt} {v : V} {d : D} (s : Sl K G σV σ) (i : Nat) (r : Rep K G v d) : Sl K G (σV.set i (some v)) (σ.set i (some d)) := by
  refine ⟨by rw [List.length_set, List.length_set]; exact s.len, fun j e h => ?_⟩
  by_cases c : i = j
  · subst c
    by_cases l : i < σ.length
    · rw [List.getElem?_set_self l] at h
      cases h
      exact ⟨v, by rw [List.getElem?_set_self (by rw [s.len]; exact l)], r⟩
    · rw [List.getElem?_eq_none (by simpa using l)] at h; cases h
  · rw [List.getElem?_set_ne c] at h ⊢
    exact s.at_ j e h
theorem Sl.unset {K : PySem.W.Frag} {G : Hp} {σV : L2.St} {σ : DSt} (s : Sl K G σV σ) (i : Nat) : Sl K G (σV.set i none) (σ.set i none) := by
  refine ⟨by rw [List.length_set, List.length_set]; exact s.len, fun j e h => ?_⟩
  by_cases c : i = j
  · subst c
    by_cases l : i < σ.length
    · rw [List.getElem?_set_self l] at h; cases h
    · rw [List.getElem?_eq_none (by simpa using l)] at h; cases h
  · rw [List.getElem?_set_ne c] at h ⊢
    exact s.at_ j e h
/-- the slot's datum told otherwise -/
theorem Sl.retell {K : PySem.W.Frag} {G : Hp} {σV : L2.St} {σ : DSt} {i : Nat} {d d' : D} (s : Sl K G σV σ) (h : σ[i]? = some (some d)) (r : ∀ v, Rep K G v d → Rep K G v d') : Sl K G σV (σ.set i (some d')) := by
  refine ⟨by rw [List.length_set]; exact s.len, fun j e q => ?_⟩
  by_cases c : i = j
  · subst c
    by_cases l : i < σ.length
    · rw [List.getElem?_set_self l] at q
      cases q
      obtain ⟨v, h1, h2⟩ := s.at_ i d h
      exact ⟨v, h1, r v h2⟩
    · rw [List.getElem?_eq_none (by simpa using l)] at q; cases q
  · rw [List.getElem?_set_ne c] at q
    exact s.at_ j e q

/-! ### judgements -/
abbrev DEr := Addr → Addr → Sto → Prop
abbrev DK := D → Sto → Prop
abbrev DTE := DEr → DSt → Sto → DK → Prop
abbrev DTT := DEr → DSt → Sto → (Bool → Sto → Prop) → Prop
abbrev DTA := DEr → DSt → Sto → (List D → Sto → Prop) → Prop
structure WOk (K : PySem.W.Frag) (W : WX) (E : DEr) (σV : L2.St) (G H : Hp) (S : Sto) : Prop where
  go : ∀ C d S' G' H', E C d S' → Wok K G' H' S' → Fr G H S G' H' S' → W (.ref C) (some d) σV H'
theorem WOk.mono {K : PySem.W.Frag} {W : WX} {E : DEr} {σV : L2.St} {G H G1 H1 : Hp} {S S1 : Sto} (w : WOk K W E σV G H S) (f : Fr G H S G1 H1 S1) : WOk K W E σV G1 H1 S1 := ⟨fun C d S' G' H' e k q => w.go C d S' G' H' e k (f.trans q)⟩
structure EvD (K : PySem.W.Frag) (W : WX) (t : TE) (r : DTE) : Prop where
  run : ∀ (E : DEr) (G H : Hp) (S : Sto) (σV : L2.St) (σ : DSt) (Q : DK) (P : VK), WOk K W E σV G H S → Wok K G H S → Sl K G σV σ → r E σ S Q →
    (∀ d S' G' H' v, Q d S' → Wok K G' H' S' → Fr G H S G' H' S' → Rep K G' v d → P v H') → t σV H P
structure EvT (K : PySem.W.Frag) (W : WX) (t : TT) (r : DTT) : Prop where
  run : ∀ (E : DEr) (G H : Hp) (S : Sto) (σV : L2.St) (σ : DSt) (Q : Bool → Sto → Prop) (P : Bool → Hp → Prop), WOk K W E σV G H S → Wok K G H S → Sl K G σV σ → r E σ S Q →
    (∀ b S' G' H', Q b S' → Wok K G' H' S' → Fr G H S G' H' S' → P b H') → t σV H P
structure EvA (K : PySem.W.Frag) (W : WX) (t : TA) (r : DTA) : Prop where
  run : ∀ (E : DEr) (G H : Hp) (S : Sto) (σV : L2.St) (σ : DSt) (Q : List D → Sto → Prop) (P : List V → Hp → Prop), WOk K W E σV G H S → Wok K G H S → Sl K G σV σ → r E σ S Q →
    (∀ ds S' G' H' vs, Q ds S' → Wok K G' H' S' → Fr G H S G' H' S' → RepL K G' vs ds → P vs H') → t σV H P
structure RvD (K : PySem.W.Frag) (r : R2) (q : D → D → Sto → DK → Prop) : Prop where
  run : ∀ (G H : Hp) (S : Sto) (x y : D) (v u : V) (Q : DK) (P : VK), Wok K G H S → Rep K G v x → Rep K G u y → q x y S Q →
    (∀ d S' G' H' z, Q d S' → Wok K G' H' S' → Fr G H S G' H' S' → Rep K G' z d → P z H') → r v u H P
structure RuD (K : PySem.W.Frag) (r : V → Hp → VK → Prop) (q : D → Sto → DK → Prop) : Prop where
  run : ∀ (G H : Hp) (S : Sto) (x : D) (v : V) (Q : DK) (P : VK), Wok K G H S → Rep K G v x → q x S Q →
    (∀ d S' G' H' z, Q d S' → Wok K G' H' S' → Fr G H S G' H' S' → Rep K G' z d → P z H') → r v H P
structure RcD (K : PySem.W.Frag) (r : List V → Hp → VK → Prop) (q : List D → Sto → DK → Prop) : Prop where
  run : ∀ (G H : Hp) (S : Sto) (xs : List D) (vs : List V) (Q : DK) (P : VK), Wok K G H S → RepL K G vs xs → q xs S Q →
    (∀ d S' G' H' z, Q d S' → Wok K G' H' S' → Fr G H S G' H' S' → Rep K G' z d → P z H') → r vs H P
def DE (X : Cx) (W : WX) (e : Expr) (r : DTE) : Prop := ∃ t, PE X e t ∧ EvD X.K W t r
def DT (X : Cx) (W : WX) (e : Expr) (r : DTT) : Prop := ∃ t, PT X e t ∧ EvT X.K W t r
def DW (X : Cx) (W : WX) (e : Expr) (r : DTT) : Prop := ∃ t, PW X e t ∧ EvT X.K W t r
def DA (X : Cx) (W : WX) (es : List Expr) (r : DTA) : Prop := ∃ t, PA X es t ∧ EvA X.K W t r
def DOp (X : Cx) (f : Value → Value → Sem Value) (q : D → D → Sto → DK → Prop) : Prop := ∃ r, OpR X f r ∧ RvD X.K r q
def DIx (X : Cx) (q : D → D → Sto → DK → Prop) : Prop := ∃ r, IxR X r ∧ RvD X.K r q
def DC (X : Cx) (f : Value) (q : List D → Sto → DK → Prop) : Prop := ∃ r, CallR X f r ∧ RcD X.K r q

/-! ### expressions -/
def dVar (i : Nat) : DTE := fun _ σ S Q => match σ[i]? with
  | some (some d) => Q d S
  | _ => False
def dC (d : D) : DTE := fun _ _ S Q => Q d S
section
variable {X : Cx} {W : WX} {K : PySem.W.Frag}
theorem ev_c {v : V} {d : D} (r : ∀ G, Rep K G v d) : EvD K W (tC v) (dC d) := ⟨fun E G H S σV σ Q P w k s h q => q d S G H v h k (.refl _ _ _) (r G)⟩
theorem ev_var (i : Nat) : EvD K W (tVar i) (dVar i) := ⟨fun E G H S σV σ Q P w k s h q => by
  unfold dVar at h
  split at h
  · rename_i d hd
    obtain ⟨v, h1, h2⟩ := s.at_ i d hd
    exact ⟨v, h1, q d S G H v h k (.refl _ _ _) h2⟩
  · exact h.elim⟩
theorem de_var (i : Nat) {x : Str} {pos : Pos} (hN : X.N[i]? = some x := by rfl) (hv : Vis X.env.scope x := by first | exact Or.inl rfl | exact Or.inr (Or.inl rfl) | exact Or.inr (Or.inr rfl)) (hd : (x == ("__debug__" : Str)) = false := by decide)
    (hcd : (x == ("__classdict__" : Str)) = false := by decide) : DE X W (.Name x pos) (dVar i) := ⟨_, pe_var hN hv hd hcd, ev_var i⟩
theorem de_int {i j pos} : DE X W (.Constant (.int i) j pos) (dC (.int i)) := ⟨_, pe_int, ev_c fun _ => .int _⟩
theorem de_bl {b j pos} : DE X W (.Constant (.bool b) j pos) (dC (.bl b)) := ⟨_, pe_bl, ev_c fun _ => .bl _⟩
theorem de_non {j pos} : DE X W (.Constant .none j pos) (dC .non) := ⟨_, pe_non, ev_c fun _ => .non⟩
theorem de_str {x j pos} : DE X W (.Constant (.str x) j pos) (dC (.str x)) := ⟨_, pe_str, ev_c fun _ => .str _⟩
theorem de_globI {x : Str} {i : Int} {t : Tok} {pos : Pos} (hg : Gl X x) (hm : X.mg x = some (.int i t)) (hd : (x == ("__debug__" : Str)) = false := by decide) : DE X W (.Name x pos) (dC (.int i)) := ⟨_, pe_glob (v := .int i) hg hm ⟨_, rfl⟩ hd, ev_c fun _ => .int _⟩
theorem de_globS {x : Str} {i : Str} {t : Tok} {pos : Pos} (hg : Gl X x) (hm : X.mg x = some (.str i t)) (hd : (x == ("__debug__" : Str)) = false := by decide) : DE X W (.Name x pos) (dC (.str i)) := ⟨_, pe_glob (v := .str i) hg hm ⟨_, rfl⟩ hd, ev_c fun _ => .str _⟩
def dOp (q : D → D → Sto → DK → Prop) (ra rb : DTE) : DTE := fun E σ S Q => ra E σ S fun x S1 => rb E σ S1 fun y S2 => q x y S2 Q
theorem ev_op {ta tb : TE} {ra rb : DTE} {r : R2} {q : D → D → Sto → DK → Prop} (ha : EvD K W ta ra) (hb : EvD K W tb rb) (hr : RvD K r q) : EvD K W (tOp r ta tb) (dOp q ra rb) := ⟨fun E G H S σV σ Q P w k s h p => by
  refine ha.run E G H S σV σ _ _ w k s h fun x S1 G1 H1 v h1 k1 f1 r1 => ?_
  refine hb.run E G1 H1 S1 σV σ _ _ (w.mono f1) k1 (s.mono f1.g) h1 fun y S2 G2 H2 u h2 k2 f2 r2 => ?_
  exact hr.run G2 H2 S2 x y v u Q P k2 (r1.mono f2.g) r2 h2 fun d S3 G3 H3 z h3 k3 f3 r3 => p d S3 G3 H3 z h3 k3 ((f1.trans f2).trans f3) r3⟩
variable {a b c e : Expr} {ra rb rc : DTE} {pos : Pos}
theorem de_op {op : Operator} {q : D → D → Sto → DK → Prop} (ho : DOp X (binaryOp op) q) (ha : DE X W a ra) (hb : DE X W b rb) : DE X W (.BinOp a op b pos) (dOp q ra rb) := by
  obtain ⟨ta, pa, ea⟩ := ha
  obtain ⟨tb, pb, eb⟩ := hb
  obtain ⟨r, o, e⟩ := ho
  exact ⟨_, pe_op o pa pb, ev_op ea eb e⟩
theorem de_cmp {op : CmpOp} {q : D → D → Sto → DK → Prop} (ho : DOp X (compareOp op) q) (ha : DE X W a ra) (hb : DE X W b rb) (hm : behindInMarks op b = false := by first | exact nomark _ | rfl) : DE X W (.Compare a [op] [b] pos) (dOp q ra rb) := by
  obtain ⟨ta, pa, ea⟩ := ha
  obtain ⟨tb, pb, eb⟩ := hb
  obtain ⟨r, o, e⟩ := ho
  exact ⟨_, pe_cmpR o pa pb hm, ev_op ea eb e⟩
theorem de_ix {q : D → D → Sto → DK → Prop} (ho : DIx X q) (ha : DE X W a ra) (hb : DE X W b rb) (hs : PlainIx b := by exact fun _ _ => rfl) : DE X W (.Subscript a b pos) (dOp q ra rb) := by
  obtain ⟨ta, pa, ea⟩ := ha
  obtain ⟨tb, pb, eb⟩ := hb
  obtain ⟨r, o, e⟩ := ho
  exact ⟨_, pe_ix o pa pb hs, ev_op ea eb e⟩
end
end KD

set_option maxRecDepth 100000
set_option maxHeartbeats 4000000
/-! Kd1: tests, arguments, statements, loops, comprehensions, calls of defs, over Kd0. -/
namespace KD
open PySem PySem.Spec PyProof.Rows L2
section
variable {X : Cx} {W : WX} {K : PySem.W.Frag} {a b c e : Expr} {ra rb rc : DTE} {pos : Pos} {ta tb tc te : TE}
/-! ### tests -/
def dTest (r : DTE) : DTT := fun E σ S Q => r E σ S fun d S' => match d with
  | .bl k => Q k S'
  | _ => False
theorem evt_test (h : EvD K W te ra) : EvT K W (tTest te) (dTest ra) := ⟨fun E G H S σV σ Q P w k s hr p => by
  refine h.run E G H S σV σ _ _ w k s hr fun d S' G' H' v hd k' f r => ?_
  cases d with
  | bl b => cases r; exact ⟨b, rfl, p b S' G' H' hd k' f⟩
  | _ => exact hd.elim⟩
theorem evt_B (h : EvD K W te ra) : EvT K W (tB te) (dTest ra) := ⟨fun E G H S σV σ Q P w k s hr p => by
  refine h.run E G H S σV σ _ _ w k s hr fun d S' G' H' v hd k' f r => ?_
  cases d with
  | bl b => cases r; exact ⟨b, rfl, p b S' G' H' hd k' f⟩
  | _ => exact hd.elim⟩
theorem dt_cmp {op : CmpOp} {q : D → D → Sto → DK → Prop} (ho : DOp X (compareOp op) q) (ha : DE X W a ra) (hb : DE X W b rb) (hm : behindInMarks op b = false := by first | exact nomark _ | rfl) : DT X W (.Compare a [op] [b] pos) (dTest (dOp q ra rb)) := by
  obtain ⟨ta, pa, ea⟩ := ha
  obtain ⟨tb, pb, eb⟩ := hb
  obtain ⟨r, o, e⟩ := ho
  exact ⟨_, pt_cmpR o pa pb hm, evt_test (ev_op ea eb e)⟩
/-- an expression that gives a bool (a call, a name) as a test -/
theorem dt_val {e : Expr} (h : DE X W e ra) (he : ∀ whole, isTrue e X.env whole = (do let v ← whole; standAt e.pos; holding [v] (truthy v)) := by intro _; rfl) : DT X W e (dTest ra) := by
  obtain ⟨t, p, q⟩ := h
  exact ⟨_, pt_val p he, evt_B q⟩
def vw (S : Sto) : D → D
  | .ref p => match S p with
    | some (.lst xs) => .lst xs
    | some (.dic kvs) => .dic kvs
    | some (.dit kvs) => .dit kvs
    | _ => .ref p
  | d => d
theorem seq_of {G H : Hp} {S : Sto} {v : V} {d : D} {xs : List D} (k : Wok K G H S) (r : Rep K G v d) (h : vw S d = .lst xs) : ∃ a vs, v = .ref a ∧ H a = some (.lst vs) ∧ RepL K G vs xs := by
  unfold vw at h
  split at h
  · rename_i p
    cases r
    split at h
    · rename_i ys hp
      cases h
      obtain ⟨_, vs, q1, q2⟩ := k.sto p _ hp
      exact ⟨p, vs, rfl, q1, q2⟩
    · cases h
    · cases h
    · cases h
  · subst h
    cases r with
    | lst h1 h2 => exact ⟨_, _, rfl, k.ext _ _ h1, h2⟩
theorem tup_of {G H : Hp} {S : Sto} {v : V} {d : D} {xs : List D} (k : Wok K G H S) (r : Rep K G v d) (h : vw S d = .tup xs) : ∃ a vs, v = .ref a ∧ TupG K H a vs ∧ RepL K G vs xs ∧ TupG K G a vs := by
  unfold vw at h
  split at h
  · rename_i p
    split at h <;> cases h
  · subst h
    cases r with
    | tup h1 h2 => exact ⟨_, _, rfl, h1.mono k.ext, h2, h1⟩
theorem int_of {G : Hp} {S : Sto} {v : V} {d : D} {i : Int} (r : Rep K G v d) (h : vw S d = .int i) : v = .int i := by
  unfold vw at h
  split at h
  · split at h <;> cases h
  · subst h; cases r; rfl
theorem str_of {G : Hp} {S : Sto} {v : V} {d : D} {i : Str} (r : Rep K G v d) (h : vw S d = .str i) : v = .str i := by
  unfold vw at h
  split at h
  · split at h <;> cases h
  · subst h; cases r; rfl
theorem bl_of {G : Hp} {S : Sto} {v : V} {d : D} {i : Bool} (r : Rep K G v d) (h : vw S d = .bl i) : v = .bl i := by
  unfold vw at h
  split at h
  · split at h <;> cases h
  · subst h; cases r; rfl
/-- the truth of a datum -/
def dTruth (d : D) (S : Sto) (Q : Bool → Sto → Prop) : Prop := match vw S d with
  | .non => Q false S
  | .bl b => Q b S
  | .int i => Q (i != 0) S
  | .str x => x.length ≤ sizeLine ∧ Q ((x.length : Int) != 0) S
  | .lst xs => Q (!xs.isEmpty) S
  | .tup xs => Q (!xs.isEmpty) S
  | _ => False
def dTru (r : DTE) : DTT := fun E σ S Q => r E σ S fun d S' => dTruth d S' Q
theorem repl_empty {G : Hp} {vs : List V} {xs : List D} (h : RepL K G vs xs) : vs.isEmpty = xs.isEmpty := by cases h <;> rfl
theorem dt_truth {e : Expr} (h : DE X W e ra) (he : ∀ whole, isTrue e X.env whole = (do let v ← whole; standAt e.pos; holding [v] (truthy v)) := by intro _; rfl) : DT X W e (dTru ra) := by
  obtain ⟨t, p, q⟩ := h
  refine ⟨_, pt_truth p he, ⟨fun E G H S σV σ Q P w k s hr pp => ?_⟩⟩
  refine q.run E G H S σV σ _ _ w k s hr fun d S' G' H' v hd k' f r => ?_
  unfold dTruth at hd
  split at hd
  · rename_i hv
    have : v = .non := by
      unfold vw at hv
      split at hv
      · split at hv <;> cases hv
      · subst hv; cases r; rfl
    subst this
    exact ⟨false, rfl, pp _ S' G' H' hd k' f⟩
  · rename_i hv
    rw [bl_of r hv]
    exact ⟨_, rfl, pp _ S' G' H' hd k' f⟩
  · rename_i hv
    rw [int_of r hv]
    exact ⟨_, rfl, pp _ S' G' H' hd k' f⟩
  · rename_i hv
    rw [str_of r hv]
    exact ⟨_, ⟨hd.1, rfl⟩, pp _ S' G' H' hd.2 k' f⟩
  · rename_i xs hv
    obtain ⟨a, vs, e, h1, h2⟩ := seq_of k' r hv
    subst e
    refine ⟨_, .inl ⟨vs, .of h1, rfl⟩, ?_⟩
    rw [repl_empty h2]
    exact pp _ S' G' H' hd k' f
  · rename_i xs hv
    obtain ⟨a, vs, e, h1, h2, _⟩ := tup_of k' r hv
    subst e
    refine ⟨_, .inr (.inl ⟨vs, h1.sq, rfl⟩), ?_⟩
    rw [repl_empty h2]
    exact pp _ S' G' H' hd k' f
  · exact hd.elim
def dAnd (r q : DTT) : DTT := fun E σ S Q => r E σ S fun c S1 => if c = true then q E σ S1 Q else Q false S1
def dOr (r q : DTT) : DTT := fun E σ S Q => r E σ S fun c S1 => if c = true then Q true S1 else q E σ S1 Q
def dNot (r : DTT) : DTT := fun E σ S Q => r E σ S fun c S1 => Q (!c) S1
variable {tA tB : TT} {rA rB : DTT}
theorem evt_and (ha : EvT K W tA rA) (hb : EvT K W tB rB) : EvT K W (tAnd tA tB) (dAnd rA rB) := ⟨fun E G H S σV σ Q P w k s hr p => by
  refine ha.run E G H S σV σ _ _ w k s hr fun c S1 G1 H1 hd k1 f1 => ?_
  cases c with
  | true =>
    rw [if_pos rfl] at hd ⊢
    exact hb.run E G1 H1 S1 σV σ _ _ (w.mono f1) k1 (s.mono f1.g) hd fun b S2 G2 H2 q k2 f2 => p b S2 G2 H2 q k2 (f1.trans f2)
  | false =>
    rw [if_neg Bool.false_ne_true] at hd ⊢
    exact p _ S1 G1 H1 hd k1 f1⟩
theorem evt_or (ha : EvT K W tA rA) (hb : EvT K W tB rB) : EvT K W (tOr tA tB) (dOr rA rB) := ⟨fun E G H S σV σ Q P w k s hr p => by
  refine ha.run E G H S σV σ _ _ w k s hr fun c S1 G1 H1 hd k1 f1 => ?_
  cases c with
  | false =>
    rw [if_neg Bool.false_ne_true] at hd ⊢
    exact hb.run E G1 H1 S1 σV σ _ _ (w.mono f1) k1 (s.mono f1.g) hd fun b S2 G2 H2 q k2 f2 => p b S2 G2 H2 q k2 (f1.trans f2)
  | true =>
    rw [if_pos rfl] at hd ⊢
    exact p _ S1 G1 H1 hd k1 f1⟩
theorem evt_not (ha : EvT K W tA rA) : EvT K W (tNot tA) (dNot rA) := ⟨fun E G H S σV σ Q P w k s hr p =>
  ha.run E G H S σV σ _ _ w k s hr fun c S1 G1 H1 hd k1 f1 => p _ S1 G1 H1 hd k1 f1⟩
theorem DW.dt (h : DW X W e rA) : DT X W e rA := let ⟨t, p, q⟩ := h; ⟨t, p.pt, q⟩
theorem dw_and1 (h : DT X W a rA) : DW X W (.BoolOp .And [a] pos) rA := let ⟨_, p, q⟩ := h; ⟨_, pw_and1 p, q⟩
theorem dw_or1 (h : DT X W a rA) : DW X W (.BoolOp .Or [a] pos) rA := let ⟨_, p, q⟩ := h; ⟨_, pw_or1 p, q⟩
theorem dw_and {rest : List Expr} (ha : DT X W a rA) (hb : DW X W (.BoolOp .And (b :: rest) pos) rB) : DW X W (.BoolOp .And (a :: b :: rest) pos) (dAnd rA rB) :=
  let ⟨_, p, q⟩ := ha; let ⟨_, p', q'⟩ := hb; ⟨_, pw_and p p', evt_and q q'⟩
theorem dw_or {rest : List Expr} (ha : DT X W a rA) (hb : DW X W (.BoolOp .Or (b :: rest) pos) rB) : DW X W (.BoolOp .Or (a :: b :: rest) pos) (dOr rA rB) :=
  let ⟨_, p, q⟩ := ha; let ⟨_, p', q'⟩ := hb; ⟨_, pw_or p p', evt_or q q'⟩
theorem dt_not (ha : DT X W a rA) : DT X W (.UnaryOp .Not a pos) (dNot rA) := let ⟨_, p, q⟩ := ha; ⟨_, pt_not p, evt_not q⟩
def dAndV (ra rb : DTE) : DTE := fun E σ S Q => ra E σ S fun d S1 => match d with
  | .bl c => if c = true then rb E σ S1 Q else Q (.bl false) S1
  | _ => False
def dOrV (ra rb : DTE) : DTE := fun E σ S Q => ra E σ S fun d S1 => match d with
  | .bl c => if c = true then Q (.bl true) S1 else rb E σ S1 Q
  | _ => False
def dNotV (ra : DTE) : DTE := fun E σ S Q => ra E σ S fun d S1 => match d with
  | .bl c => Q (.bl (!c)) S1
  | _ => False
def dIfE (rA : DTT) (ra rb : DTE) : DTE := fun E σ S Q => rA E σ S fun c S1 => if c = true then ra E σ S1 Q else rb E σ S1 Q
theorem de_one {op} (h : DE X W a ra) : DE X W (.BoolOp op [a] pos) ra := let ⟨_, p, q⟩ := h; ⟨_, pe_one p, q⟩
theorem de_and {rest : List Expr} (ha : DE X W a ra) (hb : DE X W (.BoolOp .And (b :: rest) pos) rb) : DE X W (.BoolOp .And (a :: b :: rest) pos) (dAndV ra rb) := by
  obtain ⟨ta, pa, ea⟩ := ha
  obtain ⟨tb, pb, eb⟩ := hb
  refine ⟨_, pe_and pa pb, ⟨fun E G H S σV σ Q P w k s hr p => ?_⟩⟩
  refine ea.run E G H S σV σ _ _ w k s hr fun d S1 G1 H1 v hd k1 f1 r1 => ?_
  cases d with
  | bl c =>
    cases r1
    refine ⟨c, rfl, ?_⟩
    cases c with
    | true =>
      rw [if_pos rfl]
      have hd : rb E σ S1 Q := hd
      exact eb.run E G1 H1 S1 σV σ _ _ (w.mono f1) k1 (s.mono f1.g) hd fun b S2 G2 H2 z q k2 f2 => p b S2 G2 H2 z q k2 (f1.trans f2)
    | false =>
      rw [if_neg Bool.false_ne_true]
      exact p _ S1 G1 H1 _ hd k1 f1 (.bl _)
  | _ => exact hd.elim
theorem de_or {rest : List Expr} (ha : DE X W a ra) (hb : DE X W (.BoolOp .Or (b :: rest) pos) rb) : DE X W (.BoolOp .Or (a :: b :: rest) pos) (dOrV ra rb) := by
  obtain ⟨ta, pa, ea⟩ := ha
  obtain ⟨tb, pb, eb⟩ := hb
  refine ⟨_, pe_or pa pb, ⟨fun E G H S σV σ Q P w k s hr p => ?_⟩⟩
  refine ea.run E G H S σV σ _ _ w k s hr fun d S1 G1 H1 v hd k1 f1 r1 => ?_
  cases d with
  | bl c =>
    cases r1
    refine ⟨c, rfl, ?_⟩
    cases c with
    | false =>
      rw [if_neg Bool.false_ne_true]
      have hd : rb E σ S1 Q := hd
      exact eb.run E G1 H1 S1 σV σ _ _ (w.mono f1) k1 (s.mono f1.g) hd fun b S2 G2 H2 z q k2 f2 => p b S2 G2 H2 z q k2 (f1.trans f2)
    | true =>
      rw [if_pos rfl]
      exact p _ S1 G1 H1 _ hd k1 f1 (.bl _)
  | _ => exact hd.elim
theorem de_not (ha : DE X W a ra) : DE X W (.UnaryOp .Not a pos) (dNotV ra) := by
  obtain ⟨ta, pa, ea⟩ := ha
  refine ⟨_, pe_not pa, ⟨fun E G H S σV σ Q P w k s hr p => ?_⟩⟩
  refine ea.run E G H S σV σ _ _ w k s hr fun d S1 G1 H1 v hd k1 f1 r1 => ?_
  cases d with
  | bl c => cases r1; exact ⟨c, rfl, p _ S1 G1 H1 _ hd k1 f1 (.bl _)⟩
  | _ => exact hd.elim
theorem de_ifE (hc : DT X W c rA) (ha : DE X W a ra) (hb : DE X W b rb) : DE X W (.IfExp c a b pos) (dIfE rA ra rb) := by
  obtain ⟨tc, pc, ec⟩ := hc
  obtain ⟨ta, pa, ea⟩ := ha
  obtain ⟨tb, pb, eb⟩ := hb
  refine ⟨_, pe_ifExp pc pa pb, ⟨fun E G H S σV σ Q P w k s hr p => ?_⟩⟩
  refine ec.run E G H S σV σ _ _ w k s hr fun c S1 G1 H1 hd k1 f1 => ?_
  cases c with
  | true =>
    rw [if_pos rfl] at hd ⊢
    exact ea.run E G1 H1 S1 σV σ _ _ (w.mono f1) k1 (s.mono f1.g) hd fun b S2 G2 H2 z q k2 f2 => p b S2 G2 H2 z q k2 (f1.trans f2)
  | false =>
    rw [if_neg Bool.false_ne_true] at hd ⊢
    exact eb.run E G1 H1 S1 σV σ _ _ (w.mono f1) k1 (s.mono f1.g) hd fun b S2 G2 H2 z q k2 f2 => p b S2 G2 H2 z q k2 (f1.trans f2)
theorem de_ifV {e : Expr} (h : DT X W e rA) : DT X W e rA := h

/-! ### chains -/
def dChain (q q' : D → D → Sto → DK → Prop) (ra rb rc : DTE) : DTE := fun E σ S Q => ra E σ S fun x S1 => rb E σ S1 fun y S2 => q x y S2 fun d S3 => match d with
  | .bl k => if k = true then rc E σ S3 fun z S4 => q' y z S4 Q else Q (.bl false) S3
  | _ => False

/-! ### arguments -/
def dNil : DTA := fun _ _ S Q => Q [] S
def dCons (r : DTE) (q : DTA) : DTA := fun E σ S Q => r E σ S fun d S1 => q E σ S1 fun ds S2 => Q (d :: ds) S2
theorem da_nil : DA X W [] dNil := ⟨_, pa_nil, ⟨fun E G H S σV σ Q P w k s hr p => p [] S G H [] hr k (.refl _ _ _) .nil⟩⟩
theorem da_cons {es : List Expr} {q : DTA} (ha : DE X W e ra) (hr : DA X W es q) (hs : starEach (e :: es) X.env = (false, eval e X.env) :: starEach es X.env := by rfl) : DA X W (e :: es) (dCons ra q) := by
  obtain ⟨ta, pa, ea⟩ := ha
  obtain ⟨tr, pr, er⟩ := hr
  refine ⟨_, pa_cons pa pr hs, ⟨fun E G H S σV σ Q P w k s hr p => ?_⟩⟩
  refine ea.run E G H S σV σ _ _ w k s hr fun d S1 G1 H1 v hd k1 f1 r1 => ?_
  exact er.run E G1 H1 S1 σV σ _ _ (w.mono f1) k1 (s.mono f1.g) hd fun ds S2 G2 H2 vs h2 k2 f2 r2 => p _ S2 G2 H2 _ h2 k2 (f1.trans f2) (.cons (r1.mono f2.g) r2)
def dTup (q : DTA) : DTE := fun E σ S Q => q E σ S fun ds S' => ds.length ≤ sizeLine ∧ Q (.tup ds) S'
def dLst (q : DTA) : DTE := fun E σ S Q => q E σ S fun ds S' => ds.length ≤ sizeLine ∧ Q (.lst ds) S'
/-- a list that will change -/
def dLstM (q : DTA) : DTE := fun E σ S Q => q E σ S fun ds S' => ds.length ≤ sizeLine ∧ ∀ p, S' p = none → Q (.ref p) (put S' p (.lst ds))
theorem de_tup {es : List Expr} {q : DTA} {x1} (h : DA X W es q) : DE X W (.Tuple es x1 pos) (dTup q) := by
  obtain ⟨t, p, ea⟩ := h
  refine ⟨_, pe_tup p, ⟨fun E G H S σV σ Q P w k s hr p => ?_⟩⟩
  refine ea.run E G H S σV σ _ _ w k s hr fun ds S1 G1 H1 vs hd k1 f1 r1 => ⟨by rw [r1.length]; exact hd.1, fun q hq => ?_⟩
  obtain ⟨k2, f2⟩ := k1.newG (o := .tup vs) hq
  exact p _ _ _ _ _ hd.2 k2 (f1.trans f2) (.tup (.inl upd_same) (r1.mono f2.g))
theorem de_lst {es : List Expr} {q : DTA} (h : DA X W es q) : DE X W (.List es pos) (dLst q) := by
  obtain ⟨t, p, ea⟩ := h
  refine ⟨_, pe_lst p, ⟨fun E G H S σV σ Q P w k s hr p => ?_⟩⟩
  refine ea.run E G H S σV σ _ _ w k s hr fun ds S1 G1 H1 vs hd k1 f1 r1 => ⟨by rw [r1.length]; exact hd.1, fun q hq => ?_⟩
  obtain ⟨k2, f2⟩ := k1.newG (o := .lst vs) hq
  exact p _ _ _ _ _ hd.2 k2 (f1.trans f2) (.lst upd_same (r1.mono f2.g))
theorem de_lstM {es : List Expr} {q : DTA} (h : DA X W es q) : DE X W (.List es pos) (dLstM q) := by
  obtain ⟨t, p, ea⟩ := h
  refine ⟨_, pe_lst p, ⟨fun E G H S σV σ Q P w k s hr p => ?_⟩⟩
  refine ea.run E G H S σV σ _ _ w k s hr fun ds S1 G1 H1 vs hd k1 f1 r1 => ⟨by rw [r1.length]; exact hd.1, fun q hq => ?_⟩
  obtain ⟨k2, f2⟩ := k1.newS (o := .lst vs) (m := .lst ds) hq ⟨vs, upd_same, r1⟩
  exact p _ _ _ _ _ (hd.2 q (k1.freeS hq)) k2 (f1.trans f2) (.ref q)
/-- what is in the store becomes data -/
def dFrz (r : DTE) : DTE := fun E σ S Q => r E σ S fun d S' => ∃ p xs, d = .ref p ∧ S' p = some (.lst xs) ∧ Q (.lst xs) (rem S' p)
theorem de_frz (h : DE X W e ra) : DE X W e (dFrz ra) := by
  obtain ⟨t, p, ea⟩ := h
  refine ⟨_, p, ⟨fun E G H S σV σ Q P w k s hr p => ?_⟩⟩
  refine ea.run E G H S σV σ _ _ w k s hr fun d S1 G1 H1 v hd k1 f1 r1 => ?_
  obtain ⟨a, xs, rfl, hs, q⟩ := hd
  cases r1
  obtain ⟨_, vs, h1, h2⟩ := k1.sto a _ hs
  obtain ⟨k2, f2⟩ := k1.frz hs h1
  exact p _ _ _ _ _ q k2 (f1.trans f2) (.lst upd_same (h2.mono f2.g))

/-! ### calls on values -/
def dCall (q : List D → Sto → DK → Prop) (r : DTA) : DTE := fun E σ S Q => r E σ S fun ds S1 => q ds S1 Q
theorem ev_cb {t : TA} {r : DTA} {rc : List V → Hp → VK → Prop} {q : List D → Sto → DK → Prop} (ha : EvA K W t r) (hq : RcD K rc q) : EvD K W (tCB rc t) (dCall q r) := ⟨fun E G H S σV σ Q P w k s hr p => by
  refine ha.run E G H S σV σ _ _ w k s hr fun ds S1 G1 H1 vs hd k1 f1 r1 => ?_
  exact hq.run G1 H1 S1 ds vs Q P k1 r1 hd fun d S2 G2 H2 z h2 k2 f2 r2 => p d S2 G2 H2 z h2 k2 (f1.trans f2) r2⟩
theorem de_callB {id : String} {x : Str} {p : Pos} {es : List Expr} {r : DTA} {q : List D → Sto → DK → Prop} (hc : DC X (.builtin id) q) (hg : Gl X x) (hm : X.mg x = none) (hv : bootBuiltins x = some (.builtin id)) (ha : DA X W (e :: es) r)
    (hn : x ≠ "__name__" := by decide) (hdb : (x == ("__debug__" : Str)) = false := by decide) (hs : starEach (e :: es) X.env = (false, eval e X.env) :: starEach es X.env := by rfl) (hpl : (backTo pos (starEach es X.env)).any (·.1) = false := by rfl) :
    DE X W (.Call (.Name x p) (e :: es) [] pos) (dCall q r) := by
  obtain ⟨rc, c, eq⟩ := hc
  obtain ⟨t, pa, ea⟩ := ha
  exact ⟨_, pe_callB c hg hm hv pa hn hdb hs hpl, ev_cb ea eq⟩
theorem de_callTy {T : String} {x : Str} {p : Pos} {es : List Expr} {r : DTA} {q : List D → Sto → DK → Prop} (hc : DC X (.type T) q) (hg : Gl X x) (hm : X.mg x = none) (hv : bootBuiltins x = some (.type T)) (ha : DA X W (e :: es) r)
    (hn : x ≠ "__name__" := by decide) (hdb : (x == ("__debug__" : Str)) = false := by decide) (hs : starEach (e :: es) X.env = (false, eval e X.env) :: starEach es X.env := by rfl) (hpl : (backTo pos (starEach es X.env)).any (·.1) = false := by rfl) :
    DE X W (.Call (.Name x p) (e :: es) [] pos) (dCall q r) := by
  obtain ⟨rc, c, eq⟩ := hc
  obtain ⟨t, pa, ea⟩ := ha
  exact ⟨_, pe_callTy c hg hm hv pa hn hdb hs hpl, ev_cb ea eq⟩

/-! ### the promise of a def, and its call -/
abbrev DSp := List D → Sto → DK → DEr → Prop
def lift (K : PySem.W.Frag) (sp : DSp) : Sp := fun vs H Q E => ∃ (G : Hp) (S : Sto) (ds : List D) (Qd : DK) (Ed : DEr), Wok K G H S ∧ RepL K G vs ds ∧ sp ds S Qd Ed ∧
  (∀ d S' G' H' v, Qd d S' → Wok K G' H' S' → Fr G H S G' H' S' → Rep K G' v d → Q v H') ∧ ∀ C d S' G' H', Ed C d S' → Wok K G' H' S' → Fr G H S G' H' S' → E (.ref C) (some d) H'
def dFn (sp : DSp) (r : DTA) : DTE := fun E σ S Q => r E σ S fun ds S1 => sp ds S1 Q E
theorem ev_fn {t : TA} {r : DTA} {sp : DSp} (ha : EvA K W t r) : EvD K W (tCallS (lift K sp) (WE W) t) (dFn sp r) := ⟨fun E G H S σV σ Q P w k s hr p => by
  refine ha.run E G H S σV σ _ _ w k s hr fun ds S1 G1 H1 vs hd k1 f1 r1 => ?_
  exact ⟨G1, S1, ds, Q, E, k1, r1, hd, fun d S2 G2 H2 z h2 k2 f2 r2 => p d S2 G2 H2 z h2 k2 (f1.trans f2) r2, fun C d S2 G2 H2 h2 k2 f2 => w.go C d S2 G2 H2 h2 k2 (f1.trans f2)⟩⟩
/-- f(e, ..), f a def of the text that may raise; tk: what is raised is taken here -/
theorem de_fn {k : Nat} {f : Addr} {fd : FuncData} {ps : List Str} {sp : DSp} {x : Str} {p : Pos} {es : List Expr} {r : DTA} (tk : Takes X W) (F : FnOk X.prog X.w X.K X.mg X.base (L2.CX X.prog X.w) k f fd ps (lift X.K sp)) (hr : Room k X.A) (hg : Gl X x) (hm : X.mg x = some (.ref f))
    (hk : PySem.W.keepIn X.K (.ref f) = true) (hb : Binds X.K fd ps []) (ha : DA X W (e :: es) r) (hd : (x == ("__debug__" : Str)) = false := by decide)
    (hs : starEach (e :: es) X.env = (false, eval e X.env) :: starEach es X.env := by rfl) (hpl : (backTo pos (starEach es X.env)).any (·.1) = false := by rfl) :
    DE X W (.Call (.Name x p) (e :: es) [] pos) (dFn sp r) := by
  obtain ⟨t, pa, ea⟩ := ha
  exact ⟨_, pe_callS F hr hg hm hk hb (fun σ => passAt tk σ) pa hd hs hpl, ev_fn ea⟩
end
end KD

set_option maxRecDepth 100000
set_option maxHeartbeats 4000000
/-! Kd2: statements, targets, loops, comprehensions, the rule of a def. -/
namespace KD
open PySem PySem.Spec PyProof.Rows L2
structure DEnds where
  nx : DSt → Sto → Prop
  rt : DK
  bk : DSt → Sto → Prop
  ct : DSt → Sto → Prop
  ex : Addr → Addr → DSt → Sto → Prop
abbrev DTS := DEnds → DSt → Sto → Prop
abbrev DTG := D → DSt → Sto → (DSt → Sto → Prop) → Prop
abbrev DTGs := List D → DSt → Sto → (DSt → Sto → Prop) → Prop
/-- what is wanted of slots and heap -/
structure NOk (K : PySem.W.Frag) (N : DSt → Sto → Prop) (G H : Hp) (S : Sto) (M : L2.St → Hp → Prop) : Prop where
  go : ∀ σ' S' G' H' σV', N σ' S' → Wok K G' H' S' → Fr G H S G' H' S' → Sl K G' σV' σ' → M σV' H'
theorem NOk.mono {K : PySem.W.Frag} {N : DSt → Sto → Prop} {G H G1 H1 : Hp} {S S1 : Sto} {M : L2.St → Hp → Prop} (n : NOk K N G H S M) (f : Fr G H S G1 H1 S1) : NOk K N G1 H1 S1 M := ⟨fun σ' S' G' H' σV' q k g s => n.go σ' S' G' H' σV' q k (f.trans g) s⟩
/-- the slots outside js are as they were -/
structure Agr (js : List Nat) (σV σV' : L2.St) : Prop where
  len : σV'.length = σV.length
  at_ : ∀ i, i ∉ js → σV'[i]? = σV[i]?
theorem Agr.refl (js : List Nat) (σV : L2.St) : Agr js σV σV := ⟨rfl, fun _ _ => rfl⟩
theorem Agr.trans {js ks : List Nat} {a b c : L2.St} (x : Agr js a b) (y : Agr ks b c) : Agr (js ++ ks) a c := ⟨y.len.trans x.len, fun i h => (y.at_ i fun z => h (List.mem_append_right _ z)).trans (x.at_ i fun z => h (List.mem_append_left _ z))⟩
theorem Agr.set {a : L2.St} {v : Option V} (i : Nat) : Agr [i] a (a.set i v) := ⟨List.length_set, fun j h => List.getElem?_set_ne fun e => h (by rw [e]; exact List.mem_cons_self)⟩
structure NOkJ (K : PySem.W.Frag) (js : List Nat) (σV : L2.St) (N : DSt → Sto → Prop) (G H : Hp) (S : Sto) (M : L2.St → Hp → Prop) : Prop where
  go : ∀ σ' S' G' H' σV', N σ' S' → Wok K G' H' S' → Fr G H S G' H' S' → Sl K G' σV' σ' → Agr js σV σV' → M σV' H'
theorem NOk.j {K : PySem.W.Frag} {js : List Nat} {σV : L2.St} {N : DSt → Sto → Prop} {G H : Hp} {S : Sto} {M : L2.St → Hp → Prop} (n : NOk K N G H S M) : NOkJ K js σV N G H S M := ⟨fun σ' S' G' H' σV' q k f s _ => n.go σ' S' G' H' σV' q k f s⟩
structure EndsOk (K : PySem.W.Frag) (W : WX) (Dd : DEnds) (G H : Hp) (S : Sto) (Dh : Ends) : Prop where
  nx : NOk K Dd.nx G H S Dh.nx
  rt : ∀ d S' G' H' v, Dd.rt d S' → Wok K G' H' S' → Fr G H S G' H' S' → Rep K G' v d → Dh.rt v H'
  bk : NOk K Dd.bk G H S Dh.bk
  ct : NOk K Dd.ct G H S Dh.ct
  ex : ∀ C d σ' S' G' H' σV', Dd.ex C d σ' S' → Wok K G' H' S' → Fr G H S G' H' S' → Sl K G' σV' σ' → W (.ref C) (some d) σV' H'
section
variable {K : PySem.W.Frag} {W : WX}
theorem EndsOk.mono {Dd : DEnds} {G H G1 H1 : Hp} {S S1 : Sto} {Dh : Ends} (e : EndsOk K W Dd G H S Dh) (f : Fr G H S G1 H1 S1) : EndsOk K W Dd G1 H1 S1 Dh :=
  ⟨e.nx.mono f, fun d S' G' H' v q k g r => e.rt d S' G' H' v q k (f.trans g) r, e.bk.mono f, e.ct.mono f, fun C d σ' S' G' H' σV' q k g s => e.ex C d σ' S' G' H' σV' q k (f.trans g) s⟩
theorem EndsOk.wok {Dd : DEnds} {G H : Hp} {S : Sto} {Dh : Ends} {σV : L2.St} {σ : DSt} (e : EndsOk K W Dd G H S Dh) (s : Sl K G σV σ) : WOk K W (fun C d S' => Dd.ex C d σ S') σV G H S :=
  ⟨fun C d S' G' H' q k f => e.ex C d σ S' G' H' σV q k f (s.mono f.g)⟩
end
structure EvS (K : PySem.W.Frag) (W : WX) (t : TS) (r : DTS) : Prop where
  run : ∀ (Dd : DEnds) (G H : Hp) (S : Sto) (σV : L2.St) (σ : DSt) (Dh : Ends), EndsOk K W Dd G H S Dh → Wok K G H S → Sl K G σV σ → r Dd σ S → t Dh σV H
structure EvG (K : PySem.W.Frag) (js : List Nat) (g : TG) (r : DTG) : Prop where
  run : ∀ (G H : Hp) (S : Sto) (σV : L2.St) (σ : DSt) (d : D) (v : V) (N : DSt → Sto → Prop) (M : L2.St → Hp → Prop), Wok K G H S → Sl K G σV σ → Rep K G v d → r d σ S N → NOkJ K js σV N G H S M → g v σV H M
structure EvGs (K : PySem.W.Frag) (js : List Nat) (g : TGs) (r : DTGs) : Prop where
  run : ∀ (G H : Hp) (S : Sto) (σV : L2.St) (σ : DSt) (ds : List D) (vs : List V) (N : DSt → Sto → Prop) (M : L2.St → Hp → Prop), Wok K G H S → Sl K G σV σ → RepL K G vs ds → r ds σ S N → NOkJ K js σV N G H S M → g vs σV H M
def DS (X : Cx) (W : WX) (st : Stmt) (r : DTS) : Prop := ∃ t, PS X st t ∧ EvS X.K W t r
def DSs (X : Cx) (W : WX) (st : List Stmt) (r : DTS) : Prop := ∃ t, PSs X st t ∧ EvS X.K W t r
def DG (X : Cx) (e : Expr) (js : List Nat) (r : DTG) : Prop := ∃ t, PG X e t ∧ EvG X.K js t r
def DGs (X : Cx) (es : List Expr) (js : List Nat) (r : DTGs) : Prop := ∃ t, PGs X es t ∧ EvGs X.K js t r
section
variable {X : Cx} {W : WX} {K : PySem.W.Frag} {a b c e : Expr} {ra rb rc : DTE} {pos : Pos} {st : Stmt} {rest : List Stmt} {r1 r2 : DTS} {rA : DTT} {g : DTG}
/-! ### targets -/
def dgName (i : Nat) : DTG := fun d σ S N => N (σ.set i (some d)) S
theorem dg_name {i : Nat} {x : Str} (hN : X.N.Nodup) (hi : X.N[i]? = some x) (hx : Loc X.env.scope x) (hf : X.fn x = true ∨ X.env.scope.names.lookup x = some .local := by first | exact .inl rfl | exact .inr rfl | assumption) : DG X (.Name x pos) [i] (dgName i) :=
  ⟨_, pg_name hN hi hx hf, ⟨fun G H S σV σ d v N M k s r h n => n.go _ _ _ _ _ h k (.refl _ _ _) (s.set i r) (.set i)⟩⟩
def dgNil : DTGs := fun ds σ S N => ds = [] ∧ N σ S
def dgCons (g : DTG) (q : DTGs) : DTGs := fun ds σ S N => match ds with
  | d :: ds => g d σ S fun σ' S' => q ds σ' S' N
  | [] => False
theorem dgs_nil : DGs X [] [] dgNil := ⟨_, pgs_nil, ⟨fun G H S σV σ ds vs N M k s r h n => by
  obtain ⟨rfl, h⟩ := h
  cases r
  exact ⟨rfl, n.go _ _ _ _ _ h k (.refl _ _ _) s (.refl _ _)⟩⟩⟩
theorem dgs_cons {es : List Expr} {q : DTGs} {js ks : List Nat} (h1 : DG X e js g) (h2 : DGs X es ks q) (hs : (assignEach (e :: es) X.env).map (·.2) = assign e X.env :: (assignEach es X.env).map (·.2) := by rfl) : DGs X (e :: es) (js ++ ks) (dgCons g q) := by
  obtain ⟨t, p1, e1⟩ := h1
  obtain ⟨u, p2, e2⟩ := h2
  refine ⟨_, pgs_cons p1 p2 hs, ⟨fun G H S σV σ ds vs N M k s r h n => ?_⟩⟩
  cases r with
  | nil => exact h.elim
  | cons r1 r2 =>
    refine ⟨_, _, rfl, e1.run G H S σV σ _ _ _ _ k s r1 h ⟨fun σ' S' G' H' σV' q k' f s' ag => ?_⟩⟩
    exact e2.run G' H' S' σV' σ' _ _ _ _ k' s' (r2.mono f.g) q ⟨fun σ2 S2 G2 H2 σV2 q2 k2 f2 s2 ag2 => n.go σ2 S2 G2 H2 σV2 q2 k2 (f.trans f2) s2 (ag.trans ag2)⟩
def dgTup (n : Nat) (q : DTGs) : DTG := fun d σ S N => match d with
  | .tup ds => ds.length = n ∧ q ds σ S N
  | _ => False
theorem dg_tup {es : List Expr} {k n : Nat} {q : DTGs} {js : List Nat} (hc : X.calm = true) (h : DGs X es js q) (hn : (assignEach es X.env).length = n := by rfl) (hst : (assignEach es X.env).findIdx? (·.1) = none := by rfl) : DG X (.Tuple es k pos) js (dgTup n q) := by
  obtain ⟨t, p, e⟩ := h
  refine ⟨_, pg_tup hc p hn hst, ⟨fun G H S σV σ d v N M k s r h n => ?_⟩⟩
  cases d with
  | tup ds =>
    cases r with
    | tup h1 h2 => exact ⟨_, _, rfl, (h1.mono k.ext).sq, by rw [h2.length]; exact h.1, e.run G H S σV σ ds _ N M k s h2 h.2 n⟩
  | _ => exact h.elim
/-! ### statements -/
def dNext : DTS := fun Z σ S => Z.nx σ S
def dSeq (t u : DTS) : DTS := fun Z σ S => t { Z with nx := u Z } σ S
theorem EndsOk.seq {K : PySem.W.Frag} {W : WX} {Dd : DEnds} {G H : Hp} {S : Sto} {Dh : Ends} {u : DTS} {tu : TS} (e : EndsOk K W Dd G H S Dh) (hu : EvS K W tu u) : EndsOk K W { Dd with nx := u Dd } G H S { Dh with nx := tu Dh } :=
  ⟨⟨fun σ' S' G' H' σV' q k f s => hu.run Dd G' H' S' σV' σ' Dh (e.mono f) k s q⟩, e.rt, e.bk, e.ct, e.ex⟩
theorem dss_nil : DSs X W [] dNext := ⟨_, pss_nil, ⟨fun Dd G H S σV σ Dh e k s h => e.nx.go σ S G H σV h k (.refl _ _ _) s⟩⟩
theorem dss_cons (h1 : DS X W st r1) (h2 : DSs X W rest r2) : DSs X W (st :: rest) (dSeq r1 r2) := by
  obtain ⟨t, p, e⟩ := h1
  obtain ⟨u, q, f⟩ := h2
  exact ⟨_, pss_cons p q, ⟨fun Dd G H S σV σ Dh eo k s h => e.run _ G H S σV σ _ (eo.seq f) k s h⟩⟩
theorem dss_one (h1 : DS X W st r1) : DSs X W [st] r1 := let ⟨_, p, e⟩ := h1; ⟨_, pss_one p, e⟩
def dBreak : DTS := fun Z σ S => Z.bk σ S
def dCont : DTS := fun Z σ S => Z.ct σ S
theorem ds_pass : DS X W (.Pass pos) dNext := ⟨_, ps_pass, ⟨fun Dd G H S σV σ Dh e k s h => e.nx.go σ S G H σV h k (.refl _ _ _) s⟩⟩
theorem ds_break : DS X W (.Break pos) dBreak := ⟨_, ps_break, ⟨fun Dd G H S σV σ Dh e k s h => e.bk.go σ S G H σV h k (.refl _ _ _) s⟩⟩
theorem ds_continue : DS X W (.Continue pos) dCont := ⟨_, ps_continue, ⟨fun Dd G H S σV σ Dh e k s h => e.ct.go σ S G H σV h k (.refl _ _ _) s⟩⟩
def dNever : DTS := fun _ _ _ => False
theorem ds_never : DS X W st dNever := ⟨_, ps_never, ⟨fun _ _ _ _ _ _ _ _ _ _ h => h.elim⟩⟩
theorem dss_never {sts : List Stmt} : DSs X W sts dNever := ⟨_, pss_never, ⟨fun _ _ _ _ _ _ _ _ _ _ h => h.elim⟩⟩
def exOf (Z : DEnds) (σ : DSt) : DEr := fun C d S' => Z.ex C d σ S'
def dDrop (r : DTE) : DTS := fun Z σ S => r (exOf Z σ) σ S fun _ S' => Z.nx σ S'
theorem ds_expr (h : DE X W e ra) (hs : swapsWith e none pos.line X.env = pure false := by rfl) : DS X W (.Expr e pos) (dDrop ra) := by
  obtain ⟨t, p, q⟩ := h
  refine ⟨_, ps_expr p hs, ⟨fun Dd G H S σV σ Dh eo k s h => ?_⟩⟩
  exact q.run _ G H S σV σ _ _ (eo.wok s) k s h fun d S' G' H' v hd k' f r => eo.nx.go σ S' G' H' σV hd k' f (s.mono f.g)
def dRet (r : DTE) : DTS := fun Z σ S => r (exOf Z σ) σ S Z.rt
theorem ds_ret (h : DE X W e ra) : DS X W (.Return (some e) pos) (dRet ra) := by
  obtain ⟨t, p, q⟩ := h
  refine ⟨_, ps_ret p, ⟨fun Dd G H S σV σ Dh eo k s h => ?_⟩⟩
  exact q.run _ G H S σV σ _ _ (eo.wok s) k s h fun d S' G' H' v hd k' f r => eo.rt d S' G' H' v hd k' f r
def dRetN : DTS := fun Z σ S => Z.rt .non S
theorem ds_retN : DS X W (.Return none pos) dRetN := ⟨_, ps_retN, ⟨fun Dd G H S σV σ Dh eo k s h => eo.rt .non S G H .non h k (.refl _ _ _) .non⟩⟩
def dIfS (r : DTT) (t u : DTS) : DTS := fun Z σ S => r (exOf Z σ) σ S fun b S' => if b = true then t Z σ S' else u Z σ S'
theorem ds_if {c : Expr} {as bs : List Stmt} (hc : DT X W c rA) (ha : DSs X W as r1) (hb : DSs X W bs r2) : DS X W (.If c as bs pos) (dIfS rA r1 r2) := by
  obtain ⟨tc, pc, ec⟩ := hc
  obtain ⟨ta, pa, ea⟩ := ha
  obtain ⟨tb, pb, eb⟩ := hb
  refine ⟨_, ps_if pc pa pb, ⟨fun Dd G H S σV σ Dh eo k s h => ?_⟩⟩
  refine ec.run _ G H S σV σ _ _ (eo.wok s) k s h fun b S' G' H' hd k' f => ?_
  cases b with
  | true =>
    rw [if_pos rfl] at hd ⊢
    exact ea.run Dd G' H' S' σV σ Dh (eo.mono f) k' (s.mono f.g) hd
  | false =>
    rw [if_neg Bool.false_ne_true] at hd ⊢
    exact eb.run Dd G' H' S' σV σ Dh (eo.mono f) k' (s.mono f.g) hd
def dAsg (r : DTE) (g : DTG) : DTS := fun Z σ S => r (exOf Z σ) σ S fun d S' => g d σ S' Z.nx
theorem ds_asg {tg : Expr} {js : List Nat} (he : DE X W e ra) (hg : DG X tg js g) (hs : swapsWithSole [tg] e pos.line X.env = pure false := by rfl) (hw : swappedStores [tg] e X.env = pure none := by rfl) (h1 : (assignEach [tg] X.env).map (·.2) = [assign tg X.env] := by rfl) : DS X W (.Assign [tg] e pos) (dAsg ra g) := by
  obtain ⟨t, p, q⟩ := he
  obtain ⟨u, p2, q2⟩ := hg
  refine ⟨_, ps_asg p p2 hs hw h1, ⟨fun Dd G H S σV σ Dh eo k s h => ?_⟩⟩
  exact q.run _ G H S σV σ _ _ (eo.wok s) k s h fun d S' G' H' v hd k' f r => q2.run G' H' S' σV σ d v _ _ k' (s.mono f.g) r hd (eo.nx.mono f).j
theorem ds_set {i : Nat} {x : Str} {pos' : Pos} (hN : X.N.Nodup) (hi : X.N[i]? = some x) (hx : Loc X.env.scope x) (he : DE X W e ra) (hs : swapsWith e (some (.Name x pos')) pos.line X.env = pure false := by rfl)
    (hf : X.fn x = true ∨ X.env.scope.names.lookup x = some .local := by first | exact .inl rfl | exact .inr rfl | assumption) : DS X W (.Assign [.Name x pos'] e pos) (dAsg ra (dgName i)) := by
  obtain ⟨t, p, q⟩ := he
  refine ⟨_, ps_set hN hi hx p hs hf, ⟨fun Dd G H S σV σ Dh eo k s h => ?_⟩⟩
  exact q.run _ G H S σV σ _ _ (eo.wok s) k s h fun d S' G' H' v hd k' f r => eo.nx.go _ S' G' H' _ hd k' f ((s.mono f.g).set i r)
/-- a, b = e1, e2 (both local names) -/
def dPar (i j : Nat) (r : DTA) : DTS := fun Z σ S => r (exOf Z σ) σ S fun ds S' => match ds with
  | [x, y] => Z.nx ((σ.set i (some x)).set j (some y)) S'
  | _ => False
theorem ds_par {i j : Nat} {x y : Str} {r : DTA} {px py pt : Pos} {kt k2 pt2} (hc : X.calm = true) (hN : X.N.Nodup) (hi : X.N[i]? = some x) (hj : X.N[j]? = some y) (hij : i ≠ j) (hx : X.env.scope.names.lookup x = some .local) (hy : X.env.scope.names.lookup y = some .local)
    (ha : DA X W [a, b] r) (hw : swappedStores [.Tuple [.Name x px, .Name y py] kt pt] (.Tuple [a, b] k2 pt2) X.env = pure (some [x, y]) := by rfl)
    (hs : swapsWithSole [.Tuple [.Name x px, .Name y py] kt pt] (.Tuple [a, b] k2 pt2) pos.line X.env = pure false := by rfl) : DS X W (.Assign [.Tuple [.Name x px, .Name y py] kt pt] (.Tuple [a, b] k2 pt2) pos) (dPar i j r) := by
  obtain ⟨t, p, q⟩ := ha
  refine ⟨_, ps_par hc hN hi hj hij hx hy p hw hs, ⟨fun Dd G H S σV σ Dh eo k s h => ?_⟩⟩
  refine q.run _ G H S σV σ _ _ (eo.wok s) k s h fun ds S' G' H' vs hd k' f r => ?_
  match ds, vs, r, hd with
  | [d1, d2], [v1, v2], .cons r1 (.cons r2 .nil), hd => exact ⟨v1, v2, rfl, eo.nx.go _ S' G' H' _ hd k' f (((s.mono f.g).set i r1).set j r2)⟩
/-- x op= e -/
structure IpD (K : PySem.W.Frag) (r : TIp) (q : D → D → Sto → DK → Prop) : Prop where
  run : ∀ (G H : Hp) (S : Sto) (x y : D) (v u : V) (Q : DK) (P : VK), Wok K G H S → Rep K G v x → Rep K G u y → q x y S Q →
    (∀ d S' G' H' z, Q d S' → Wok K G' H' S' → Fr G H S G' H' S' → Rep K G' z d → P z H') → r v u H P
def DIp (X : Cx) (op : Operator) (q : D → D → Sto → DK → Prop) : Prop := ∃ r, PIp X op r ∧ IpD X.K r q
def dAug (i : Nat) (r : DTE) (q : D → D → Sto → DK → Prop) : DTS := fun Z σ S => match σ[i]? with
  | some (some x) => r (exOf Z σ) σ S fun y S1 => q x y S1 fun z S2 => Z.nx (σ.set i (some z)) S2
  | _ => False
theorem ds_aug {i : Nat} {x : Str} {op : Operator} {q : D → D → Sto → DK → Prop} {pos' : Pos} (hN : X.N.Nodup) (hi : X.N[i]? = some x) (hx : Loc X.env.scope x) (he : DE X W e ra) (ho : DIp X op q)
    (hf : X.fn x = true ∨ X.env.scope.names.lookup x = some .local := by first | exact .inl rfl | exact .inr rfl | assumption) : DS X W (.AugAssign (.Name x pos') op e pos) (dAug i ra q) := by
  obtain ⟨t, p, ev⟩ := he
  obtain ⟨r, po, eo'⟩ := ho
  refine ⟨_, ps_aug hN hi hx p po hf, ⟨fun Dd G H S σV σ Dh eo k s h => ?_⟩⟩
  unfold dAug at h
  split at h
  · rename_i d hd
    obtain ⟨v, h1, h2⟩ := s.at_ i d hd
    refine ⟨v, h1, ev.run _ G H S σV σ _ _ (eo.wok s) k s h fun y S1 G1 H1 u hy k1 f1 r1 => ?_⟩
    exact eo'.run G1 H1 S1 _ y v u _ _ k1 (h2.mono f1.g) r1 hy fun z S2 G2 H2 w hz k2 f2 r2 => eo.nx.go _ S2 G2 H2 _ hz k2 (f1.trans f2) ((s.mono (f1.trans f2).g).set i r2)
  · exact h.elim
/-- xs[i] = e of a list in the store -/
def dSetIx (ro ri rv : DTE) : DTS := fun Z σ S => rv (exOf Z σ) σ S fun v S1 => ro (exOf Z σ) σ S1 fun o S2 => ri (exOf Z σ) σ S2 fun i S3 => ∃ (p : Addr) (xs : List D) (n : Int) (j : Nat), o = .ref p ∧ i = .int n ∧ S3 p = some (.lst xs) ∧ ixN xs.length n = some j ∧
  Z.nx σ (put S3 p (.lst (xs.set j v)))
theorem ds_setIx {o i : Expr} {ro ri : DTE} {p2 : Pos} (ho : DE X W o ro) (hi : DE X W i ri) (he : DE X W e ra) (hs : swapsWithSole [.Subscript o i p2] e pos.line X.env = pure false := by rfl) (hw : swappedStores [.Subscript o i p2] e X.env = pure none := by rfl)
    (ha : ∀ v, assign (.Subscript o i p2) X.env v = (do
      let ov ← holding [v] (eval o X.env)
      let iv ← holding [v, ov] (eval i X.env)
      standAt p2
      holding [v, ov, iv] (setItem ov iv v)
      release [v, ov, iv] []) := by intro _; rfl) : DS X W (.Assign [.Subscript o i p2] e pos) (dSetIx ro ri ra) := by
  obtain ⟨t, p, q⟩ := he
  obtain ⟨to, po, qo⟩ := ho
  obtain ⟨ti, pi, qi⟩ := hi
  refine ⟨_, ps_asg p (pg_sub po pi set_list ha) hs hw, ⟨fun Dd G H S σV σ Dh eo k s h => ?_⟩⟩
  refine q.run _ G H S σV σ _ _ (eo.wok s) k s h fun d S1 G1 H1 v hd k1 f1 r1 => ?_
  refine qo.run _ G1 H1 S1 σV σ _ _ ((eo.wok s).mono f1) k1 (s.mono f1.g) hd fun d2 S2 G2 H2 v2 hd2 k2 f2 r2 => ?_
  refine qi.run _ G2 H2 S2 σV σ _ _ ((eo.wok s).mono (f1.trans f2)) k2 (s.mono (f1.trans f2).g) hd2 fun d3 S3 G3 H3 v3 hd3 k3 f3 r3 => ?_
  obtain ⟨pa, xs, n, j, rfl, rfl, hS, hj, hn⟩ := hd3
  cases r2
  cases r3
  obtain ⟨_, vs, h1, h2⟩ := k3.sto pa _ hS
  refine ⟨pa, vs, n, j, rfl, rfl, h1, by rw [h2.length]; exact hj, ?_⟩
  obtain ⟨k4, f4⟩ := k3.chS (o := .lst (vs.set j v)) (m := .lst (xs.set j d)) hS ⟨_, upd_same, h2.set (r1.mono (f2.trans f3).g) j⟩
  have ff := ((f1.trans f2).trans f3).trans f4
  exact eo.nx.go _ _ _ _ _ hn k4 ff (s.mono ff.g)
/-- ghost: the list in slot i becomes data ahead of a statement -/
def dFrzS (i : Nat) (r : DTS) : DTS := fun Z σ S => ∃ p xs, σ[i]? = some (some (.ref p)) ∧ S p = some (.lst xs) ∧ r Z (σ.set i (some (.lst xs))) (rem S p)
theorem ds_frzS (i : Nat) (h : DSs X W rest r1) : DSs X W rest (dFrzS i r1) := by
  obtain ⟨t, p, q⟩ := h
  refine ⟨_, p, ⟨fun Dd G H S σV σ Dh eo k s h => ?_⟩⟩
  obtain ⟨pa, xs, hi, hS, hn⟩ := h
  obtain ⟨_, vs, h1, h2⟩ := k.sto pa _ hS
  obtain ⟨k2, f2⟩ := k.frz hS h1
  exact q.run Dd _ H _ σV _ Dh (eo.mono f2) k2 ((s.mono f2.g).retell hi fun v r => by cases r; exact .lst upd_same (h2.mono f2.g)) hn
/-! ### loops -/
def dWhile (rc : DTT) (rb : DTS) : DTS := fun Z σ S => ∃ V : Nat → DSt → Sto → Prop, (∃ m, V m σ S) ∧ ∀ m σ S, V m σ S →
  rc (exOf Z σ) σ S fun b S1 => if b = true then ∃ N : DSt → Sto → Prop, (∀ σ' S', N σ' S' → ∃ m', m' < m ∧ V m' σ' S') ∧ rb { Z with nx := N, ct := N, bk := Z.nx } σ S1 else Z.nx σ S1
theorem ds_while {c : Expr} {body : List Stmt} (hp : PassesOwn (model X.prog X.w) X.A X.env X.xe) (hc : DT X W c rA) (hb : DSs X W body r1) : DS X W (.While c body [] pos) (dWhile rA r1) := by
  obtain ⟨tc, pc, ec⟩ := hc
  obtain ⟨tb, pb, eb⟩ := hb
  refine ⟨_, ps_while hp pc pb, ⟨fun Dd G H S σV σ Dh eo k s h => ?_⟩⟩
  obtain ⟨V, ⟨m0, v0⟩, turn⟩ := h
  refine ⟨fun m σV' H' => ∃ G' S' σ', V m σ' S' ∧ Wok X.K G' H' S' ∧ Fr G H S G' H' S' ∧ Sl X.K G' σV' σ', ⟨m0, G, S, σ, v0, k, .refl _ _ _, s⟩, fun m σV1 H1 hW => ?_⟩
  obtain ⟨G1, S1, σ1, v1, k1, f1, s1⟩ := hW
  have eo1 := eo.mono f1
  refine ec.run _ G1 H1 S1 σV1 σ1 _ _ (eo1.wok s1) k1 s1 (turn m σ1 S1 v1) fun b S2 G2 H2 hd k2 f2 => ?_
  have eo2 := eo1.mono f2
  cases b with
  | true =>
    rw [if_pos rfl] at hd ⊢
    obtain ⟨N, hN, hb⟩ := hd
    refine ⟨fun σV' H' => ∃ G' S' σ', N σ' S' ∧ Wok X.K G' H' S' ∧ Fr G H S G' H' S' ∧ Sl X.K G' σV' σ', fun σV' H' q => ?_, ?_⟩
    · obtain ⟨G', S', σ', n', k', f', s'⟩ := q
      obtain ⟨m', hm, v'⟩ := hN σ' S' n'
      exact ⟨m', hm, G', S', σ', v', k', f', s'⟩
    · have nn : NOk X.K N G2 H2 S2 (fun σV' H' => ∃ G' S' σ', N σ' S' ∧ Wok X.K G' H' S' ∧ Fr G H S G' H' S' ∧ Sl X.K G' σV' σ') := ⟨fun σ' S' G' H' σV' q k' f' s' => ⟨G', S', σ', q, k', (f1.trans f2).trans f', s'⟩⟩
      exact eb.run { Dd with nx := N, ct := N, bk := Dd.nx } G2 H2 S2 σV1 σ1 _ ⟨nn, eo2.rt, eo2.nx, nn, eo2.ex⟩ k2 (s1.mono f2.g) hb
  | false =>
    rw [if_neg Bool.false_ne_true] at hd ⊢
    exact eo2.nx.go σ1 S2 G2 H2 σV1 hd k2 (.refl _ _ _) (s1.mono f2.g)
/-- what a for walks: the items -/
abbrev DTI := DEr → DSt → Sto → (List D → Sto → Prop) → Prop
/-- J walks the items xs from the world (G, H, S) on -/
structure Wlk (K : PySem.W.Frag) (J : It) (xs : List D) (G H : Hp) (S : Sto) (Gd : Hp → Prop) (Y : Nat → Hp → V → Hp → Prop) : Prop where
  walk : Walk J xs.length Gd Y
  stay : ∀ G2 H2 S2, Wok K G2 H2 S2 → Fr G H S G2 H2 S2 → Gd H2
  item : ∀ i G2 H2 S2 H3 v, i < xs.length → Y i H2 v H3 → Wok K G2 H2 S2 → Fr G H S G2 H2 S2 → ∃ G3 d, xs[i]? = some d ∧ Wok K G3 H3 S2 ∧ Fr G2 H2 S2 G3 H3 S2 ∧ Rep K G3 v d
structure EvI (K : PySem.W.Frag) (W : WX) (t : TI) (r : DTI) : Prop where
  run : ∀ (E : DEr) (G H : Hp) (S : Sto) (σV : L2.St) (σ : DSt) (Q : List D → Sto → Prop) (R : It → Hp → Prop), WOk K W E σV G H S → Wok K G H S → Sl K G σV σ → r E σ S Q →
    (∀ xs S' G' H' J Gd Y, Q xs S' → Wok K G' H' S' → Fr G H S G' H' S' → Wlk K J xs G' H' S' Gd Y → R J H') → t σV H R
def DI (X : Cx) (W : WX) (tg iter : Expr) (r : DTI) : Prop := ∃ t, PI X tg iter t ∧ EvI X.K W t r
def dLoop (g : DTG) (rb : DTS) (Z : DEnds) : List D → DSt → Sto → Prop
  | [], σ, S => Z.nx σ S
  | x :: xs, σ, S => g x σ S fun σ' S' => rb { Z with nx := dLoop g rb Z xs, ct := dLoop g rb Z xs, bk := Z.nx } σ' S'
def dFor (ri : DTI) (g : DTG) (rb : DTS) : DTS := fun Z σ S => ri (exOf Z σ) σ S fun xs S1 => dLoop g rb Z xs σ S1
theorem ds_for {tg iter : Expr} {body : List Stmt} {ri : DTI} {js : List Nat} (hp : PassesOwn (model X.prog X.w) X.A X.env X.xe) (hc : X.calm = true) (hi : DI X W tg iter ri) (hg : DG X tg js g) (hb : DSs X W body r1) (hs : ∀ x, foldedSetIterable iter X.env x = pure x := by intro _; rfl) :
    DS X W (.For tg iter body [] pos) (dFor ri g r1) := by
  obtain ⟨ti, pi, ei⟩ := hi
  obtain ⟨tg', pg, eg⟩ := hg
  obtain ⟨tb, pb, eb⟩ := hb
  refine ⟨_, ps_for hp hc pi pg pb hs, ⟨fun Dd G H S σV σ Dh eo k s h => ?_⟩⟩
  refine ei.run _ G H S σV σ _ _ (eo.wok s) k s h fun xs S1 G1 H1 J Gd Y hd k1 f1 wl => ?_
  have eo1 := eo.mono f1
  refine for_it wl.walk (fun i σV' H' => ∃ G' S' σ', dLoop g r1 Dd (xs.drop i) σ' S' ∧ Wok X.K G' H' S' ∧ Fr G1 H1 S1 G' H' S' ∧ Sl X.K G' σV' σ') ⟨G1, S1, σ, hd, k1, .refl _ _ _, s.mono f1.g⟩ (fun i σV' H' _ hP => ?_) (fun i x σV' H' H3 hi hP hY => ?_) fun σV' H' hP => ?_
  · obtain ⟨G', S', σ', _, k', f', _⟩ := hP
    exact wl.stay G' H' S' k' f'
  · obtain ⟨G', S', σ', hl, k', f', s'⟩ := hP
    obtain ⟨G3, d, hx, k3, f3, r3⟩ := wl.item i G' H' S' H3 x hi hY k' f'
    have ed : xs.drop i = d :: xs.drop (i + 1) := by
      rw [List.getElem?_eq_getElem hi] at hx
      cases hx
      exact List.drop_eq_getElem_cons hi
    rw [ed] at hl
    have eo3 := eo1.mono (f'.trans f3)
    have nn : ∀ G2 H2 S2, Fr G1 H1 S1 G2 H2 S2 → NOk X.K (dLoop g r1 Dd (xs.drop (i + 1))) G2 H2 S2 (fun σV' H' => ∃ G' S' σ', dLoop g r1 Dd (xs.drop (i + 1)) σ' S' ∧ Wok X.K G' H' S' ∧ Fr G1 H1 S1 G' H' S' ∧ Sl X.K G' σV' σ') :=
      fun G2 H2 S2 f2 => ⟨fun σ4 S4 G4 H4 σV4 q k4 f4 s4 => ⟨G4, S4, σ4, q, k4, f2.trans f4, s4⟩⟩
    refine eg.run G3 H3 S' σV' σ' d x _ _ k3 (s'.mono f3.g) r3 hl ⟨fun σ4 S4 G4 H4 σV4 q k4 f4 s4 _ => ?_⟩
    have eo4 := eo3.mono f4
    have n4 := nn G4 H4 S4 ((f'.trans f3).trans f4)
    exact eb.run { Dd with nx := dLoop g r1 Dd (xs.drop (i + 1)), ct := dLoop g r1 Dd (xs.drop (i + 1)), bk := Dd.nx } G4 H4 S4 σV4 σ4 _ ⟨n4, eo4.rt, eo4.nx, n4, eo4.ex⟩ k4 s4 q
  · obtain ⟨G', S', σ', hl, k', f', s'⟩ := hP
    rw [List.drop_length] at hl
    exact eo1.nx.go σ' S' G' H' σV' hl k' f' s'
end
end KD

set_option maxRecDepth 100000
set_option maxHeartbeats 4000000
/-! Kd3: what is walked, comprehensions, the rule of a def. -/
namespace KD
open PySem PySem.Spec PyProof.Rows L2
/-! ### readings by data alone -/
def hE (K : PySem.W.Frag) (W : WX) (r : DTE) : TE := fun σV H P => ∃ (E : DEr) (G : Hp) (S : Sto) (σ : DSt) (Q : DK), WOk K W E σV G H S ∧ Wok K G H S ∧ Sl K G σV σ ∧ r E σ S Q ∧
  ∀ d S' G' H' v, Q d S' → Wok K G' H' S' → Fr G H S G' H' S' → Rep K G' v d → P v H'
def hT (K : PySem.W.Frag) (W : WX) (r : DTT) : TT := fun σV H P => ∃ (E : DEr) (G : Hp) (S : Sto) (σ : DSt) (Q : Bool → Sto → Prop), WOk K W E σV G H S ∧ Wok K G H S ∧ Sl K G σV σ ∧ r E σ S Q ∧
  ∀ b S' G' H', Q b S' → Wok K G' H' S' → Fr G H S G' H' S' → P b H'
def hG (K : PySem.W.Frag) (js : List Nat) (r : DTG) : TG := fun v σV H M => ∃ (G : Hp) (S : Sto) (σ : DSt) (d : D) (N : DSt → Sto → Prop), Wok K G H S ∧ Sl K G σV σ ∧ Rep K G v d ∧ r d σ S N ∧ NOkJ K js σV N G H S M
theorem evE (K : PySem.W.Frag) (W : WX) (r : DTE) : EvD K W (hE K W r) r := ⟨fun E G H S σV σ Q P w k s h p => ⟨E, G, S, σ, Q, w, k, s, h, p⟩⟩
theorem evT (K : PySem.W.Frag) (W : WX) (r : DTT) : EvT K W (hT K W r) r := ⟨fun E G H S σV σ Q P w k s h p => ⟨E, G, S, σ, Q, w, k, s, h, p⟩⟩
theorem evG (K : PySem.W.Frag) (js : List Nat) (r : DTG) : EvG K js (hG K js r) r := ⟨fun G H S σV σ d v N M k s q h n => ⟨G, S, σ, d, N, k, s, q, h, n⟩⟩
def DTs (X : Cx) (W : WX) (ifs : List Expr) (r : DTT) : Prop := ∃ t, PTs X ifs t ∧ EvT X.K W t r
section
variable {X : Cx} {W : WX} {K : PySem.W.Frag} {e c : Expr} {re : DTE} {rt : DTT} {g : DTG} {js : List Nat} {pos : Pos} {tg : Expr}
theorem DE.can (h : DE X W e re) : PE X e (hE X.K W re) := by
  obtain ⟨t, p, q⟩ := h
  exact ⟨fun pins s σ H Q I ⟨E, G, S, σ', Q', w, k, sl, hr, f⟩ => p.run pins s σ H Q I (q.run E G H S σ σ' Q' Q w k sl hr f)⟩
theorem DTs.can {ifs : List Expr} (h : DTs X W ifs rt) : PTs X ifs (hT X.K W rt) := by
  obtain ⟨t, p, q⟩ := h
  exact ⟨fun pins s σ H Q I ⟨E, G, S, σ', Q', w, k, sl, hr, f⟩ => p.run pins s σ H Q I (q.run E G H S σ σ' Q' Q w k sl hr f)⟩
theorem DG.can (h : DG X tg js g) : PG X tg (hG X.K js g) := by
  obtain ⟨t, p, q⟩ := h
  exact ⟨fun pins s σ H v u M I r ⟨G, S, σ', d, N, k, sl, rp, hr, n⟩ => p.run pins s σ H v u M I r (q.run G H S σ σ' d v N M k sl rp hr n)⟩
def dYes : DTT := fun _ _ S Q => Q true S
theorem dts_nil : DTs X W [] dYes := ⟨_, pts_nil, ⟨fun E G H S σV σ Q P w k s h p => p true S G H h k (.refl _ _ _)⟩⟩
theorem dts_one (h : DT X W c rt) : DTs X W [c] rt := let ⟨_, p, q⟩ := h; ⟨_, pts_one p, q⟩
end
/-! ### comprehensions -/
def dwipe (σ : DSt) : List Nat → DSt
  | [] => σ
  | v :: vs => (dwipe σ vs).set v none
theorem Sl.wipe {K : PySem.W.Frag} {G : Hp} {σV : L2.St} {σ : DSt} (s : Sl K G σV σ) : ∀ vs : List Nat, Sl K G (L2.wipe σV vs) (dwipe σ vs)
  | [] => s
  | v :: vs => (Sl.wipe s vs).unset v
theorem wipe_get (σ : L2.St) (i : Nat) : ∀ vs : List Nat, (L2.wipe σ vs)[i]? = if i ∈ vs ∧ i < σ.length then some none else σ[i]?
  | [] => by simp [L2.wipe]
  | v :: vs => by
    unfold L2.wipe
    have ih := wipe_get σ i vs
    by_cases h : v = i
    · subst h
      by_cases hl : v < σ.length
      · rw [List.getElem?_set_self (by rw [L2.wipe_length]; exact hl), if_pos ⟨List.mem_cons_self, hl⟩]
      · rw [List.getElem?_eq_none (by rw [List.length_set, L2.wipe_length]; omega), if_neg (fun q => hl q.2), List.getElem?_eq_none (by omega)]
    · rw [List.getElem?_set_ne h, ih]
      have e : i ∈ v :: vs ↔ i ∈ vs := by
        rw [List.mem_cons]
        exact ⟨fun q => q.resolve_left fun z => h z.symm, .inr⟩
      simp only [e]
theorem wipe_agr {σ σ2 : L2.St} {js vs : List Nat} (a : Agr js (L2.wipe σ vs) σ2) (hj : ∀ j ∈ js, j ∈ vs) : L2.wipe σ2 vs = L2.wipe σ vs := by
  apply List.ext_getElem?
  intro i
  have l : σ2.length = σ.length := by rw [a.len, L2.wipe_length]
  rw [wipe_get, wipe_get, l]
  by_cases h : i ∈ vs ∧ i < σ.length
  · rw [if_pos h, if_pos h]
  · rw [if_neg h, if_neg h]
    by_cases hv : i ∈ vs
    · have hl : ¬ i < σ.length := fun q => h ⟨hv, q⟩
      rw [List.getElem?_eq_none (by omega), List.getElem?_eq_none (by omega)]
    · rw [a.at_ i (fun q => hv (hj i q)), wipe_get, if_neg h]
abbrev W0 : WX := fun _ _ _ _ => False
abbrev DE0 : DEr := fun _ _ _ => False
theorem WOk.none {K : PySem.W.Frag} {σV : L2.St} {G H : Hp} {S : Sto} : WOk K W0 DE0 σV G H S := ⟨fun _ _ _ _ _ h => h.elim⟩
def dLcGo (g : DTG) (rt : DTT) (re : DTE) (σ : DSt) (Q : List D → Sto → Prop) : List D → Sto → List D → Prop
  | [], S, acc => Q acc S
  | x :: xs, S, acc => g x σ S fun σ2 S2 => rt DE0 σ2 S2 fun b S3 => if b = true then re DE0 σ2 S3 fun y S4 => acc.length < sizeLine ∧ dLcGo g rt re σ Q xs S4 (acc ++ [y]) else dLcGo g rt re σ Q xs S3 acc
def dLcL (ri : DTI) (g : DTG) (rt : DTT) (re : DTE) (vs : List Nat) (E : DEr) (σ : DSt) (S : Sto) (Q : List D → Sto → Prop) : Prop := ri E σ S fun xs S1 => dLcGo g rt re (dwipe σ vs) Q xs S1 []
def dLc (ri : DTI) (g : DTG) (rt : DTT) (re : DTE) (vs : List Nat) : DTE := fun E σ S Q => dLcL ri g rt re vs E σ S fun acc S2 => Q (.lst acc) S2
/-- the new list will change -/
def dLcM (ri : DTI) (g : DTG) (rt : DTT) (re : DTE) (vs : List Nat) : DTE := fun E σ S Q => dLcL ri g rt re vs E σ S fun acc S2 => ∀ p, S2 p = none → Q (.ref p) (put S2 p (.lst acc))
section
variable {K : PySem.W.Frag} {W : WX}
theorem ev_lcL {ti : TI} {ri : DTI} {g : DTG} {rt : DTT} {re : DTE} {vs js : List Nat} (ei : EvI K W ti ri) (hj : ∀ j ∈ js, j ∈ vs) {E : DEr} {G H : Hp} {S : Sto} {σV : L2.St} {σ : DSt} {Q : List D → Sto → Prop} {P : VK}
    (w : WOk K W E σV G H S) (k : Wok K G H S) (s : Sl K G σV σ) (h : dLcL ri g rt re vs E σ S Q)
    (p : ∀ p acc accV S' G' H', Q acc S' → Wok K G' H' S' → Ex G G' → (∀ a o, H a = some o → G a = none → S a = none → HoP o → a ≠ p ∧ H' a = some o ∧ G' a = none ∧ S' a = none) → H' p = some (.lst accV) → G' p = none → S' p = none → RepL K G' accV acc → P (.ref p) H') :
    tLc ti (hG K js g) (hT K W0 rt) (hE K W0 re) vs σV H P := by
  refine ei.run E G H S σV σ _ _ w k s h fun xs S1 G1 H1 J Gd Y hd k1 f1 wl D hD => ?_
  have hDa : ∀ a o, H1 a = some o → a ≠ D := fun a o e z => by rw [z, hD] at e; cases e
  refine lc_it wl.walk (fun i H' => ∃ G' S' accV acc, dLcGo g rt re (dwipe σ vs) Q (xs.drop i) S' acc ∧ Wok K G' H' S' ∧ Fr G1 H1 S1 G' H' S' ∧ H' D = some (.lst accV) ∧ G' D = none ∧ S' D = none ∧ RepL K G' accV acc) ?_ (fun i H' _ hP => ?_) (fun i x H' H3 hi hP hY => ?_) fun H' hP => ?_
  · obtain ⟨k2, f2⟩ := k1.newH (o := .lst []) hD
    exact ⟨G1, S1, [], [], hd, k2, f2, upd_same, k1.freeG hD, k1.freeS hD, .nil⟩
  · obtain ⟨G', S', accV, acc, _, k', f', _⟩ := hP
    exact wl.stay G' H' S' k' f'
  · obtain ⟨G', S', accV, acc, hl, k', f', hp, gp, sp, ra⟩ := hP
    obtain ⟨G3, d, hx, k3, f3, r3⟩ := wl.item i G' H' S' H3 x hi hY k' f'
    obtain ⟨hp3, gp3, sp3⟩ := f3.fr D _ hp gp sp trivial
    have ed : xs.drop i = d :: xs.drop (i + 1) := by
      rw [List.getElem?_eq_getElem hi] at hx
      cases hx
      exact List.drop_eq_getElem_cons hi
    rw [ed] at hl
    refine (evG K js g).run G3 H3 S' (L2.wipe σV vs) (dwipe σ vs) d x _ _ k3 ((s.mono ((f1.trans f').trans f3).g).wipe vs) r3 hl ⟨fun σ4 S4 G4 H4 σV4 q k4 f4 s4 ag => ⟨wipe_agr ag hj, ?_⟩⟩
    refine (evT K W0 rt).run DE0 G4 H4 S4 σV4 σ4 _ _ .none k4 s4 q fun b S5 G5 H5 q5 k5 f5 => ?_
    have f35 := (f3.trans f4).trans f5
    cases b with
    | true =>
      rw [if_pos rfl] at q5 ⊢
      refine (evE K W0 re).run DE0 G5 H5 S5 σV4 σ4 _ _ .none k5 (s4.mono f5.g) q5 fun y S6 G6 H6 v q6 k6 f6 r6 => ?_
      have f36 := f35.trans f6
      obtain ⟨hp6, gp6, sp6⟩ := f36.fr D _ hp gp sp trivial
      refine ⟨accV, hp6, by rw [ra.length]; exact q6.1, G6, S6, accV ++ [v], acc ++ [y], q6.2, k6.hid gp6 sp6, ⟨(f'.trans f36).g, fun a o e g s n => ?_⟩, upd_same, gp6, sp6, (ra.mono f36.g).append (.one r6)⟩
      obtain ⟨h1, h2, h3⟩ := (f'.trans f36).fr a o e g s n
      exact ⟨by rw [upd_ne (hDa a o e)]; exact h1, h2, h3⟩
    | false =>
      rw [if_neg Bool.false_ne_true] at q5 ⊢
      obtain ⟨hp5, gp5, sp5⟩ := f35.fr D _ hp gp sp trivial
      exact ⟨G5, S5, accV, acc, q5, k5, f'.trans f35, hp5, gp5, sp5, ra.mono f35.g⟩
  · obtain ⟨G', S', accV, acc, hl, k', f', hp, gp, sp, ra⟩ := hP
    rw [List.drop_length] at hl
    refine p D acc accV S' G' H' hl k' (f1.trans f').g (fun a o e g s n => ?_) hp gp sp ra
    obtain ⟨h1, h2, h3⟩ := f1.fr a o e g s n
    obtain ⟨h4, h5, h6⟩ := f'.fr a o h1 h2 h3 n
    exact ⟨hDa a o h1, h4, h5, h6⟩
theorem ev_lc {ti : TI} {ri : DTI} {g : DTG} {rt : DTT} {re : DTE} {vs js : List Nat} (ei : EvI K W ti ri) (hj : ∀ j ∈ js, j ∈ vs) : EvD K W (tLc ti (hG K js g) (hT K W0 rt) (hE K W0 re) vs) (dLc ri g rt re vs) :=
  ⟨fun E G H S σV σ Q P w k s h p => ev_lcL ei hj w k s h fun q acc accV S' G' H' hq k' e fr hp gp sp ra => by
    have eg : Ex G' (upd G' q (.lst accV)) := Evl.Ex.new gp
    exact p _ S' _ H' _ hq (k'.show hp sp) ⟨e.trans eg, fun a o e g s z => let ⟨n, h1, h2, h3⟩ := fr a o e g s z; ⟨h1, by rw [upd_ne n]; exact h2, h3⟩⟩ (.lst upd_same (ra.mono eg))⟩
theorem ev_lcM {ti : TI} {ri : DTI} {g : DTG} {rt : DTT} {re : DTE} {vs js : List Nat} (ei : EvI K W ti ri) (hj : ∀ j ∈ js, j ∈ vs) : EvD K W (tLc ti (hG K js g) (hT K W0 rt) (hE K W0 re) vs) (dLcM ri g rt re vs) :=
  ⟨fun E G H S σV σ Q P w k s h p => ev_lcL ei hj w k s h fun q acc accV S' G' H' hq k' e fr hp gp sp ra => by
    refine p _ (put S' q (.lst acc)) G' H' _ (hq q sp) ⟨k'.ext, fun b m hb => ?_, k'.nt, tt_put k'.tt nofun⟩ ⟨e, fun a o e g s z => let ⟨n, h1, h2, h3⟩ := fr a o e g s z; ⟨h1, h2, by rw [put_ne n]; exact h3⟩⟩ (.ref q)
    by_cases c : b = q
    · subst c; rw [put_same] at hb; cases hb; exact ⟨gp, accV, hp, ra⟩
    · rw [put_ne c] at hb; exact k'.sto b m hb⟩
end
section
variable {X : Cx} {W : WX} {elt tg iter : Expr} {ifs : List Expr} {scope : Scope} {own : List (Str × Nat)} {pos : Pos} {ri : DTI} {g : DTG} {rt : DTT} {re : DTE} {js : List Nat}
theorem de_lc (hc : X.calm = true) (hN : X.N.Nodup) (hi : DI X W tg iter ri) {vs : List Nat} (ok : BlkOk X.N X.env.scope scope own)
    (hg : ∀ (s : Shared) (H : Hp) (C : Addr) (cl : List (Str × Addr)) (fp : List Addr), DG (X.blk s H scope (compEnvC scope cl C X.env) fp) tg js g) (ht : ∀ (s : Shared) (H : Hp) (C : Addr) (cl : List (Str × Addr)) (fp : List Addr), DTs (X.blk s H scope (compEnvC scope cl C X.env) fp) W0 ifs rt)
    (he : ∀ (s : Shared) (H : Hp) (C : Addr) (cl : List (Str × Addr)) (fp : List Addr), DE (X.blk s H scope (compEnvC scope cl C X.env) fp) W0 elt re) (hv : own.map (·.2) = vs) (hj : ∀ j ∈ js, j ∈ vs) (hs : ∀ x, foldedSetIterable iter X.env x = pure x := by intro _; rfl) :
    DE X W (.ListComp elt [⟨tg, iter, ifs, 0⟩] scope pos) (dLc ri g rt re vs) := by
  subst hv
  obtain ⟨ti, pi, ei⟩ := hi
  exact ⟨_, pe_lc (te := hE X.K W0 re) (g := hG X.K js g) (tt := hT X.K W0 rt) hc hN pi ok (fun s H C cl fp => (hg s H C cl fp).can) (fun s H C cl fp => (ht s H C cl fp).can) (fun s H C cl fp => (he s H C cl fp).can) hs, ev_lc ei hj⟩
theorem de_lcM (hc : X.calm = true) (hN : X.N.Nodup) (hi : DI X W tg iter ri) {vs : List Nat} (ok : BlkOk X.N X.env.scope scope own)
    (hg : ∀ (s : Shared) (H : Hp) (C : Addr) (cl : List (Str × Addr)) (fp : List Addr), DG (X.blk s H scope (compEnvC scope cl C X.env) fp) tg js g) (ht : ∀ (s : Shared) (H : Hp) (C : Addr) (cl : List (Str × Addr)) (fp : List Addr), DTs (X.blk s H scope (compEnvC scope cl C X.env) fp) W0 ifs rt)
    (he : ∀ (s : Shared) (H : Hp) (C : Addr) (cl : List (Str × Addr)) (fp : List Addr), DE (X.blk s H scope (compEnvC scope cl C X.env) fp) W0 elt re) (hv : own.map (·.2) = vs) (hj : ∀ j ∈ js, j ∈ vs) (hs : ∀ x, foldedSetIterable iter X.env x = pure x := by intro _; rfl) :
    DE X W (.ListComp elt [⟨tg, iter, ifs, 0⟩] scope pos) (dLcM ri g rt re vs) := by
  subst hv
  obtain ⟨ti, pi, ei⟩ := hi
  exact ⟨_, pe_lc (te := hE X.K W0 re) (g := hG X.K js g) (tt := hT X.K W0 rt) hc hN pi ok (fun s H C cl fp => (hg s H C cl fp).can) (fun s H C cl fp => (ht s H C cl fp).can) (fun s H C cl fp => (he s H C cl fp).can) hs, ev_lcM ei hj⟩
/-- y = [..], y a local -/
theorem ds_setLc {i : Nat} {y : Str} {py spos : Pos} (hc : X.calm = true) (hN : X.N.Nodup) (hy : X.N[i]? = some y) (hyl : X.env.scope.names.lookup y = some .local) (hsw : swapsWith (.ListComp elt [⟨tg, iter, ifs, 0⟩] scope pos) (some (.Name y py)) spos.line X.env = pure true) (hi : DI X W tg iter ri) {vs : List Nat} (ok : BlkOk X.N X.env.scope scope own)
    (hg : ∀ (s : Shared) (H : Hp) (C : Addr) (cl : List (Str × Addr)) (fp : List Addr), DG (X.blk s H scope (compEnvC scope cl C X.env) fp) tg js g) (ht : ∀ (s : Shared) (H : Hp) (C : Addr) (cl : List (Str × Addr)) (fp : List Addr), DTs (X.blk s H scope (compEnvC scope cl C X.env) fp) W0 ifs rt)
    (he : ∀ (s : Shared) (H : Hp) (C : Addr) (cl : List (Str × Addr)) (fp : List Addr), DE (X.blk s H scope (compEnvC scope cl C X.env) fp) W0 elt re) (hv : own.map (·.2) = vs) (hj : ∀ j ∈ js, j ∈ vs) (hs : ∀ x, foldedSetIterable iter X.env x = pure x := by intro _; rfl) :
    DS X W (.Assign [.Name y py] (.ListComp elt [⟨tg, iter, ifs, 0⟩] scope pos) spos) (dAsg (dLc ri g rt re vs) (dgName i)) := by
  subst hv
  obtain ⟨ti, pi, ei⟩ := hi
  refine ⟨_, ps_setLc (te := hE X.K W0 re) (g := hG X.K js g) (tt := hT X.K W0 rt) hc hN hy hyl hsw pi ok (fun s H C cl fp => (hg s H C cl fp).can) (fun s H C cl fp => (ht s H C cl fp).can) (fun s H C cl fp => (he s H C cl fp).can) hs, ⟨fun Dd G H S σV σ Dh eo k s h => ?_⟩⟩
  exact (ev_lc ei hj).run _ G H S σV σ _ _ (eo.wok s) k s h fun d S' G' H' v hd k' f r => eo.nx.go _ S' G' H' _ hd k' f ((s.mono f.g).set i r)
theorem ds_setLcM {i : Nat} {y : Str} {py spos : Pos} (hc : X.calm = true) (hN : X.N.Nodup) (hy : X.N[i]? = some y) (hyl : X.env.scope.names.lookup y = some .local) (hsw : swapsWith (.ListComp elt [⟨tg, iter, ifs, 0⟩] scope pos) (some (.Name y py)) spos.line X.env = pure true) (hi : DI X W tg iter ri) {vs : List Nat} (ok : BlkOk X.N X.env.scope scope own)
    (hg : ∀ (s : Shared) (H : Hp) (C : Addr) (cl : List (Str × Addr)) (fp : List Addr), DG (X.blk s H scope (compEnvC scope cl C X.env) fp) tg js g) (ht : ∀ (s : Shared) (H : Hp) (C : Addr) (cl : List (Str × Addr)) (fp : List Addr), DTs (X.blk s H scope (compEnvC scope cl C X.env) fp) W0 ifs rt)
    (he : ∀ (s : Shared) (H : Hp) (C : Addr) (cl : List (Str × Addr)) (fp : List Addr), DE (X.blk s H scope (compEnvC scope cl C X.env) fp) W0 elt re) (hv : own.map (·.2) = vs) (hj : ∀ j ∈ js, j ∈ vs) (hs : ∀ x, foldedSetIterable iter X.env x = pure x := by intro _; rfl) :
    DS X W (.Assign [.Name y py] (.ListComp elt [⟨tg, iter, ifs, 0⟩] scope pos) spos) (dAsg (dLcM ri g rt re vs) (dgName i)) := by
  subst hv
  obtain ⟨ti, pi, ei⟩ := hi
  refine ⟨_, ps_setLc (te := hE X.K W0 re) (g := hG X.K js g) (tt := hT X.K W0 rt) hc hN hy hyl hsw pi ok (fun s H C cl fp => (hg s H C cl fp).can) (fun s H C cl fp => (ht s H C cl fp).can) (fun s H C cl fp => (he s H C cl fp).can) hs, ⟨fun Dd G H S σV σ Dh eo k s h => ?_⟩⟩
  exact (ev_lcM ei hj).run _ G H S σV σ _ _ (eo.wok s) k s h fun d S' G' H' v hd k' f r => eo.nx.go _ S' G' H' _ hd k' f ((s.mono f.g).set i r)
end
/-! ### the rule of a def -/
def dstart (N : List Str) (ds : List D) : DSt := ds.map some ++ List.replicate (N.length - ds.length) none
def dends (Q : DK) (E : DEr) : DEnds := ⟨fun _ S => Q .non S, Q, fun _ _ => False, fun _ _ => False, fun C d _ S => E C d S⟩
theorem sl_start {K : PySem.W.Frag} {G : Hp} {N : List Str} {vs : List V} {ds : List D} (r : RepL K G vs ds) : Sl K G (L2.start N vs) (dstart N ds) := by
  have l := r.length
  refine ⟨by simp [L2.start, dstart, l], fun i d h => ?_⟩
  unfold dstart at h
  unfold L2.start
  by_cases c : i < ds.length
  · rw [List.getElem?_append_left (by simpa using c), List.getElem?_map] at h
    rw [List.getElem?_append_left (by simp [l]; exact c), List.getElem?_map]
    cases q : ds[i]? with
    | none => rw [q] at h; cases h
    | some d' =>
      rw [q] at h; cases h
      obtain ⟨v, h1, h2⟩ := r.get q
      exact ⟨v, by rw [h1]; rfl, h2⟩
  · rw [List.getElem?_append_right (by simp; omega)] at h
    have := List.mem_of_getElem? h
    rw [List.mem_replicate] at this
    cases this.2
section
variable {P : Program} {w : World} {K : PySem.W.Frag} {mg : Str → Option Value} {base : Heap}
theorem okD {x qual : Str} {st : Stmt} {f : Addr} {fd : FuncData} {N ps : List Str} {k : Nat} {sp : DSp} (F : Fun K x qual st f fd) (Sc : FnScope N ps (defScope st)) (len : ∀ ds S Q E, sp ds S Q E → ds.length = ps.length)
    (hbody : ∀ (cdv : Value) (A : Around) (outer : List Env) (s : Shared) (H : Hp) (E : XK), Room k (A.deeper (envOfC qual (defScope st) s.heap.objs.size f cdv)) →
      ∃ r, DSs (cxOf (L2.CX P w) P w K mg base N qual (defScope st) f cdv A outer s H E) (fun cls d _ H' => E cls d H') (defBody st) r ∧ ∀ ds S Q E', sp ds S Q E' → r (dends Q E') (dstart N ds) S) :
    FnOk P w K mg base (L2.CX P w) (k + 1) f fd ps (lift K sp) := by
  refine F.okX Sc (fun vs H Q E h => ?_) fun cdv A outer s H vs Q E hr hsp => ?_
  · obtain ⟨G, S, ds, Qd, Ed, _, r, hs, _⟩ := h
    rw [r.length, len ds S Qd Ed hs]
  · obtain ⟨r, ⟨t, p, ev⟩, hpure⟩ := hbody cdv A outer s H E hr
    obtain ⟨G, S, ds, Qd, Ed, kk, rp, hs, hQ, hE⟩ := hsp
    refine ⟨t, p, ev.run (dends Qd Ed) G H S (L2.start N vs) (dstart N ds) _ ⟨⟨fun σ' S' G' H' σV' q k' f s' => hQ .non S' G' H' .non q k' f .non⟩, fun d S' G' H' v q k' f r' => hQ d S' G' H' v q k' f r', ⟨fun _ _ _ _ _ q => q.elim⟩, ⟨fun _ _ _ _ _ q => q.elim⟩, fun C d σ' S' G' H' σV' q k' f s' => hE C d S' G' H' q k' f⟩ kk (sl_start rp) (hpure ds S Qd Ed hs)⟩
end
end KD

set_option maxRecDepth 100000
set_option maxHeartbeats 4000000
/-! Kd4: operators, comparisons, subscripts, slices, built-ins. -/
namespace KD
open PySem PySem.Spec PyProof.Rows L2
section
variable {X : Cx} {W : WX} {K : PySem.W.Frag} {a b c e : Expr} {ra rb rc : DTE} {pos : Pos}
/-! ### ints -/
def dI0 (g : Int → Int → D) : D → D → Sto → DK → Prop := fun x y S Q => match x, y with
  | .int i, .int j => Q (g i j) S
  | _, _ => False
def dI (C : Int → Int → Prop) (g : Int → Int → D) : D → D → Sto → DK → Prop := fun x y S Q => match x, y with
  | .int i, .int j => C i j ∧ Q (g i j) S
  | _, _ => False
theorem rv_I {C : Int → Int → Prop} {g : Int → Int → V} {g' : Int → Int → D} (hg : ∀ i j G, Rep K G (g i j) (g' i j)) : RvD K (rI C g) (dI C g') := ⟨fun G H S x y v u Q P k r1 r2 h p => by
  unfold dI at h
  split at h
  · cases r1; cases r2
    exact ⟨_, _, rfl, rfl, h.1, p _ S G H _ h.2 k (.refl _ _ _) (hg _ _ G)⟩
  · exact h.elim⟩
theorem rv_I0 {g : Int → Int → V} {g' : Int → Int → D} (hg : ∀ i j G, Rep K G (g i j) (g' i j)) : RvD K (rI0 g) (dI0 g') := ⟨fun G H S x y v u Q P k r1 r2 h p => by
  unfold dI0 at h
  split at h
  · cases r1; cases r2
    exact ⟨_, _, rfl, rfl, p _ S G H _ h k (.refl _ _ _) (hg _ _ G)⟩
  · exact h.elim⟩
theorem op_mulK : OpR X (binaryOp .Mult) (rI IntMulOk fun i j => .int (i * j)) := opI fun _ _ _ _ _ _ _ hc q => mul_int q hc
def dSub := dI0 fun i j => .int (i - j)
theorem dop_sub : DOp X (binaryOp .Sub) dSub := ⟨_, op_sub, rv_I0 fun _ _ _ => .int _⟩
def dMod := dI (fun _ j => 0 < j) fun i j => .int (i % j)
theorem dop_mod : DOp X (binaryOp .Mod) dMod := ⟨_, op_mod, rv_I fun _ _ _ => .int _⟩
def dFdiv := dI CDivW fun i j => .int (i / j)
theorem dop_fdiv : DOp X (binaryOp .FloorDiv) dFdiv := ⟨_, op_fdivW, rv_I fun _ _ _ => .int _⟩
def dPow := dI CPow fun i j => .int (i ^ j.toNat)
theorem dop_pow : DOp X (binaryOp .Pow) dPow := ⟨_, op_pow, rv_I fun _ _ _ => .int _⟩
def dXor := dI0 fun i j => .int (Builtin.bitXor i j)
theorem dop_xor : DOp X (binaryOp .BitXor) dXor := ⟨_, op_xor, rv_I0 fun _ _ _ => .int _⟩
def dMulI := dI IntMulOk fun i j => .int (i * j)
theorem dop_mulI : DOp X (binaryOp .Mult) dMulI := ⟨_, op_mulK, rv_I fun _ _ _ => .int _⟩
def dAddI := dI0 fun i j => .int (i + j)
theorem dop_addI : DOp X (binaryOp .Add) dAddI := ⟨_, op_add, rv_I0 fun _ _ _ => .int _⟩
def dLt := dI0 fun i j => .bl (decide (i < j))
theorem dop_lt : DOp X (compareOp .Lt) dLt := ⟨_, op_lt, rv_I0 fun _ _ _ => .bl _⟩
def dLe := dI0 fun i j => .bl (decide (i ≤ j))
theorem dop_le : DOp X (compareOp .LtE) dLe := ⟨_, op_le, rv_I0 fun _ _ _ => .bl _⟩
def dGt := dI0 fun i j => .bl (decide (j < i))
theorem dop_gt : DOp X (compareOp .Gt) dGt := ⟨_, op_gt, rv_I0 fun _ _ _ => .bl _⟩
def dGe := dI0 fun i j => .bl (decide (j ≤ i))
theorem dop_ge : DOp X (compareOp .GtE) dGe := ⟨_, op_ge, rv_I0 fun _ _ _ => .bl _⟩
/-! ### + of anything, * of a sequence -/
def dAdd : D → D → Sto → DK → Prop := fun x y S Q => match vw S x, vw S y with
  | .int i, .int j => Q (.int (i + j)) S
  | .str i, .str j => i.length + j.length ≤ sizeLine ∧ Q (.str (i ++ j)) S
  | .lst xs, .lst ys => xs.length + ys.length ≤ sizeLine ∧ Q (.lst (xs ++ ys)) S
  | .tup xs, .tup ys => xs.length + ys.length ≤ sizeLine ∧ Q (.tup (xs ++ ys)) S
  | _, _ => False
theorem dop_add : DOp X (binaryOp .Add) dAdd := ⟨_, op_add.or (op_add_str.or (op_cat.or op_catA)), ⟨fun G H S x y v u Q P k r1 r2 h p => by
  unfold dAdd at h
  split at h
  · rename_i h1 h2
    rw [int_of r1 h1, int_of r2 h2]
    exact .inl ⟨_, _, rfl, rfl, p _ S G H _ h k (.refl _ _ _) (.int _)⟩
  · rename_i h1 h2
    rw [str_of r1 h1, str_of r2 h2]
    exact .inr (.inl ⟨_, _, rfl, rfl, h.1, p _ S G H _ h.2 k (.refl _ _ _) (.str _)⟩)
  · rename_i h1 h2
    obtain ⟨a1, vs, e1, q1, l1⟩ := seq_of k r1 h1
    obtain ⟨a2, us, e2, q2, l2⟩ := seq_of k r2 h2
    refine .inr (.inr (.inl ⟨a1, a2, vs, us, e1, e2, q1, q2, by rw [l1.length, l2.length]; exact h.1, fun q hq => ?_⟩))
    obtain ⟨k2, f2⟩ := k.newG (o := .lst (vs ++ us)) hq
    exact p _ S _ _ _ h.2 k2 f2 (.lst upd_same ((l1.append l2).mono f2.g))
  · rename_i h1 h2
    obtain ⟨a1, vs, e1, q1, l1, g1⟩ := tup_of k r1 h1
    obtain ⟨a2, us, e2, q2, l2, g2⟩ := tup_of k r2 h2
    refine .inr (.inr (.inr ⟨a1, a2, vs, us, e1, e2, q1.sq, q2.sq, by rw [l1.length, l2.length]; exact h.1, fun z => ?_, fun z1 z2 => ?_, fun _ _ q hq => ?_⟩))
    · subst z; cases l1
      exact p _ S G H _ h.2 k (.refl _ _ _) (.tup g2 l2)
    · subst z2; cases l2
      have h2 := h.2
      rw [List.append_nil] at h2
      exact p _ S G H _ h2 k (.refl _ _ _) (.tup g1 l1)
    · obtain ⟨k2, f2⟩ := k.newG (o := .tup (vs ++ us)) hq
      exact p _ S _ _ _ h.2 k2 f2 (.tup (.inl upd_same) ((l1.append l2).mono f2.g))
  · exact h.elim⟩⟩
theorem repl_rep {G : Hp} {vs : List V} {xs : List D} (h : RepL K G vs xs) : ∀ n : Nat, RepL K G (List.replicate n vs).flatten (List.replicate n xs).flatten
  | 0 => .nil
  | n + 1 => by
    rw [List.replicate_succ, List.replicate_succ, List.flatten_cons, List.flatten_cons]
    exact h.append (repl_rep h n)
def dRep : D → D → Sto → DK → Prop := fun x y S Q => match vw S x, y with
  | .lst xs, .int k => -(2 ^ 63) ≤ k ∧ k < 2 ^ 63 ∧ xs.length * k.toNat ≤ sizeLine ∧ Q (.lst (List.replicate k.toNat xs).flatten) S
  | .tup xs, .int k => xs ≠ [] ∧ 2 ≤ k ∧ k ≤ 1000 ∧ xs.length ≤ 1000 ∧ Q (.tup (List.replicate k.toNat xs).flatten) S
  | _, _ => False
theorem dop_rep : DOp X (binaryOp .Mult) dRep := ⟨_, op_rep.or op_repT, ⟨fun G H S x y v u Q P k r1 r2 h p => by
  unfold dRep at h
  split at h
  · rename_i h1
    cases r2
    obtain ⟨a1, vs, e1, q1, l1⟩ := seq_of k r1 h1
    refine .inl ⟨a1, _, vs, e1, rfl, q1, h.1, h.2.1, by rw [l1.length]; exact h.2.2.1, fun q hq => ?_⟩
    obtain ⟨k2, f2⟩ := k.newG (o := .lst (List.replicate _ vs).flatten) hq
    exact p _ S _ _ _ h.2.2.2 k2 f2 (.lst upd_same ((repl_rep l1 _).mono f2.g))
  · rename_i h1
    cases r2
    obtain ⟨a1, vs, e1, q1, l1, g1⟩ := tup_of k r1 h1
    obtain ⟨z1, z2, z3, z4, z5⟩ := h
    refine .inr ⟨a1, _, vs, e1, rfl, q1.sq, fun z => ?_, z2, z3, by rw [l1.length]; exact z4, fun q hq => ?_⟩
    · subst z; cases l1; exact z1 rfl
    · obtain ⟨k2, f2⟩ := k.newG (o := .tup (List.replicate _ vs).flatten) hq
      exact p _ S _ _ _ z5 k2 f2 (.tup (.inl upd_same) ((repl_rep l1 _).mono f2.g))
  · exact h.elim⟩⟩
/-! ### == -/
inductive Sc where
  | non | bl (b : Bool) | int (i : Int) | str (x : Str)
  deriving DecidableEq
def scOf : D → Option Sc
  | .non => some .non | .bl b => some (.bl b) | .int i => some (.int i) | .str x => some (.str x)
  | _ => none
def Sc.v : Sc → V
  | .non => .non | .bl b => .bl b | .int i => .int i | .str x => .str x
theorem sc_rep {G : Hp} {v : V} {d : D} {s : Sc} (r : Rep K G v d) (h : scOf d = some s) : v = s.v := by
  cases d <;> simp only [scOf, reduceCtorEq, Option.some.injEq] at h <;> (subst h; cases r; rfl)
theorem sc_dec (s t : Sc) : decide (s.v = t.v) = decide (s = t) := by
  by_cases h : s = t
  · subst h; simp
  · have : s.v ≠ t.v := fun e => h (by cases s <;> cases t <;> simp [Sc.v] at e <;> first | rfl | (subst e; rfl))
    simp [h, this]
/-- of scalars, no bool against an int -/
def dEqS : D → D → Sto → DK → Prop := fun x y S Q => match scOf x, scOf y with
  | some s, some t => scal s.v t.v = true ∧ Q (.bl (decide (s = t))) S
  | _, _ => False
def dNeS : D → D → Sto → DK → Prop := fun x y S Q => match scOf x, scOf y with
  | some s, some t => scal s.v t.v = true ∧ Q (.bl (!decide (s = t))) S
  | _, _ => False
theorem dop_eqS : DOp X (compareOp .Eq) dEqS := ⟨_, op_eq, ⟨fun G H S x y v u Q P k r1 r2 h p => by
  unfold dEqS at h
  split at h
  · rename_i h1 h2
    rw [sc_rep r1 h1, sc_rep r2 h2]
    exact ⟨h.1, by rw [sc_dec]; exact p _ S G H _ h.2 k (.refl _ _ _) (.bl _)⟩
  · exact h.elim⟩⟩
theorem dop_neS : DOp X (compareOp .NotEq) dNeS := ⟨_, op_ne, ⟨fun G H S x y v u Q P k r1 r2 h p => by
  unfold dNeS at h
  split at h
  · rename_i h1 h2
    rw [sc_rep r1 h1, sc_rep r2 h2]
    exact ⟨h.1, by rw [sc_dec]; exact p _ S G H _ h.2 k (.refl _ _ _) (.bl _)⟩
  · exact h.elim⟩⟩
/-- of two ints -/
def dEqI := dI0 fun i j => .bl (decide (i = j))
def dNeI := dI0 fun i j => .bl (!decide (i = j))
theorem dop_eqI : DOp X (compareOp .Eq) dEqI := ⟨_, op_eq, ⟨fun G H S x y v u Q P k r1 r2 h p => by
  unfold dEqI dI0 at h
  split at h
  · cases r1; cases r2
    refine ⟨rfl, ?_⟩
    rw [dec_int, Bool.beq_eq_decide_eq]
    exact p _ S G H _ h k (.refl _ _ _) (.bl _)
  · exact h.elim⟩⟩
theorem dop_neI : DOp X (compareOp .NotEq) dNeI := ⟨_, op_ne, ⟨fun G H S x y v u Q P k r1 r2 h p => by
  unfold dNeI dI0 at h
  split at h
  · cases r1; cases r2
    refine ⟨rfl, ?_⟩
    rw [dec_int, Bool.beq_eq_decide_eq]
    exact p _ S G H _ h k (.refl _ _ _) (.bl _)
  · exact h.elim⟩⟩
/-! of data -/
mutual
def toPy : D → Option PyData
  | .non => some .none
  | .bl b => some (.bool b)
  | .int i => some (.int i)
  | .str x => some (.str x)
  | .lst xs => (toPyL xs).map .list
  | .tup xs => (toPyL xs).map .tuple
  | _ => none
def toPyL : List D → Option (List PyData)
  | [] => some []
  | d :: ds => match toPy d, toPyL ds with
    | some p, some ps => some (p :: ps)
    | _, _ => none
end
mutual
theorem dp_of {G H : Hp} (e : Ex G H) : ∀ {d : D} {v : V} {p : PyData}, Rep K G v d → toPy d = some p → Dp K H v p
  | .non, _, _, r, h => by simp only [toPy, Option.some.injEq] at h; subst h; cases r; exact .non
  | .bl b, _, _, r, h => by simp only [toPy, Option.some.injEq] at h; subst h; cases r; exact .bl b
  | .int i, _, _, r, h => by simp only [toPy, Option.some.injEq] at h; subst h; cases r; exact .int i
  | .str x, _, _, r, h => by simp only [toPy, Option.some.injEq] at h; subst h; cases r; exact .str x
  | .lst xs, _, _, r, h => by
    simp only [toPy, Option.map_eq_some_iff] at h
    obtain ⟨ps, h1, rfl⟩ := h
    cases r with
    | lst q l => exact .lst (.of (e _ _ q)) (dp_ofL e l h1)
  | .tup xs, _, _, r, h => by
    simp only [toPy, Option.map_eq_some_iff] at h
    obtain ⟨ps, h1, rfl⟩ := h
    cases r with
    | tup q l => exact .tup (q.mono e).sq (dp_ofL e l h1)
  | .dic _, _, _, _, h => by simp [toPy] at h
  | .dit _, _, _, _, h => by simp [toPy] at h
  | .ref _, _, _, _, h => by simp [toPy] at h
  | .scr _, _, _, _, h => by simp [toPy] at h
  | .ty _, _, _, _, h => by simp [toPy] at h
theorem dp_ofL {G H : Hp} (e : Ex G H) : ∀ {ds : List D} {vs : List V} {ps : List PyData}, RepL K G vs ds → toPyL ds = some ps → DpAll K H vs ps
  | [], _, _, r, h => by simp only [toPyL, Option.some.injEq] at h; subst h; cases r; exact .nil
  | d :: ds, _, _, r, h => by
    simp only [toPyL] at h
    split at h
    · rename_i h1 h2
      simp only [Option.some.injEq] at h
      subst h
      cases r with
      | cons r1 r2 => exact .cons (dp_of e r1 h1) (dp_ofL e r2 h2)
    · cases h
end
theorem dp_vw {G H : Hp} {S : Sto} {d : D} {v : V} {p : PyData} (k : Wok K G H S) (r : Rep K G v d) (h : toPy (vw S d) = some p) : Dp K H v p := by
  unfold vw at h
  split at h
  · rename_i q
    split at h
    · rename_i xs hs
      simp only [toPy, Option.map_eq_some_iff] at h
      obtain ⟨ps, h1, rfl⟩ := h
      cases r
      obtain ⟨_, vs, h2, h3⟩ := k.sto q _ hs
      exact .lst (.of h2) (dp_ofL k.ext h3 h1)
    · simp [toPy] at h
    · simp [toPy] at h
    · simp [toPy] at h
  · exact dp_of k.ext r h
def dEq : D → D → Sto → DK → Prop := fun x y S Q => ∃ p q, toPy (vw S x) = some p ∧ toPy (vw S y) = some q ∧ SeqAt.shaped p = true ∧ SeqAt.shaped q = true ∧ Q (.bl (PyData.eqv p q)) S
def dNe : D → D → Sto → DK → Prop := fun x y S Q => ∃ p q, toPy (vw S x) = some p ∧ toPy (vw S y) = some q ∧ SeqAt.shaped p = true ∧ SeqAt.shaped q = true ∧ Q (.bl (!PyData.eqv p q)) S
theorem dop_eq (hu : X.A.units + 64 < cLine) : DOp X (compareOp .Eq) dEq := ⟨_, op_eqD hu, ⟨fun G H S x y v u Q P k r1 r2 ⟨p, q, h1, h2, h3, h4, h5⟩ f => ⟨p, q, dp_vw k r1 h1, dp_vw k r2 h2, h3, h4, f _ S G H _ h5 k (.refl _ _ _) (.bl _)⟩⟩⟩
theorem dop_ne (hu : X.A.units + 64 < cLine) : DOp X (compareOp .NotEq) dNe := ⟨_, op_neD hu, ⟨fun G H S x y v u Q P k r1 r2 ⟨p, q, h1, h2, h3, h4, h5⟩ f => ⟨p, q, dp_vw k r1 h1, dp_vw k r2 h2, h3, h4, f _ S G H _ h5 k (.refl _ _ _) (.bl _)⟩⟩⟩
/-! ### is None -/
def isNon : D → Bool
  | .non => true
  | _ => false
theorem non_rep {G : Hp} {v : V} {d : D} (r : Rep K G v d) : decide (v = .non) = isNon d := by cases r <;> rfl
def dIsN (ra : DTE) : DTE := fun E σ S Q => ra E σ S fun d S' => Q (.bl (isNon d)) S'
def dNotN (ra : DTE) : DTE := fun E σ S Q => ra E σ S fun d S' => Q (.bl (!isNon d)) S'
theorem de_isN {j pos'} (ha : DE X W a ra) : DE X W (.Compare a [.Is] [.Constant .none j pos'] pos) (dIsN ra) := by
  obtain ⟨t, p, q⟩ := ha
  exact ⟨_, pe_cmp (pc_isN p), ⟨fun E G H S σV σ Q P w k s h f => q.run E G H S σV σ _ _ w k s h fun d S' G' H' v hd k' g r => by
    rw [non_rep r]; exact f _ S' G' H' _ hd k' g (.bl _)⟩⟩
theorem de_notN {j pos'} (ha : DE X W a ra) : DE X W (.Compare a [.IsNot] [.Constant .none j pos'] pos) (dNotN ra) := by
  obtain ⟨t, p, q⟩ := ha
  exact ⟨_, pe_cmp (pc_notN p), ⟨fun E G H S σV σ Q P w k s h f => q.run E G H S σV σ _ _ w k s h fun d S' G' H' v hd k' g r => by
    rw [non_rep r]; exact f _ S' G' H' _ hd k' g (.bl _)⟩⟩
/-! ### chains -/
theorem de_chain {op op' : CmpOp} {q q' : D → D → Sto → DK → Prop} (ho : DOp X (compareOp op) q) (ho' : DOp X (compareOp op') q') (ha : DE X W a ra) (hb : DE X W b rb) (hc : DE X W c rc)
    (hm : lastMarks [op, op'] [b, c] = false := by rfl) : DE X W (.Compare a [op, op'] [b, c] pos) (dChain q q' ra rb rc) := by
  obtain ⟨ta, pa, ea⟩ := ha
  obtain ⟨tb, pb, eb⟩ := hb
  obtain ⟨tc, pc, ec⟩ := hc
  obtain ⟨r, o, eo⟩ := ho
  obtain ⟨r', o', eo'⟩ := ho'
  refine ⟨_, pe_chain o o' pa pb pc hm, ⟨fun E G H S σV σ Q P w k s h p => ?_⟩⟩
  refine ea.run E G H S σV σ _ _ w k s h fun x S1 G1 H1 v h1 k1 f1 r1 => ?_
  refine eb.run E G1 H1 S1 σV σ _ _ (w.mono f1) k1 (s.mono f1.g) h1 fun y S2 G2 H2 u h2 k2 f2 r2 => ?_
  have f12 := f1.trans f2
  refine eo.run G2 H2 S2 x y v u _ _ k2 (r1.mono f2.g) r2 h2 fun d S3 G3 H3 z h3 k3 f3 r3 => ?_
  have f13 := f12.trans f3
  cases d with
  | bl m =>
    cases r3
    refine ⟨m, rfl, ?_⟩
    cases m with
    | true =>
      rw [if_pos rfl]
      have h3 : rc E σ S3 fun z S4 => q' y z S4 Q := h3
      refine ec.run E G3 H3 S3 σV σ _ _ (w.mono f13) k3 (s.mono f13.g) h3 fun z S4 G4 H4 t h4 k4 f4 r4 => ?_
      exact eo'.run G4 H4 S4 y z u t _ _ k4 (r2.mono (f3.trans f4).g) r4 h4 fun d' S5 G5 H5 z' h5 k5 f5 r5 => p d' S5 G5 H5 z' h5 k5 ((f13.trans f4).trans f5) r5
    | false =>
      rw [if_neg Bool.false_ne_true]
      exact p _ S3 G3 H3 _ h3 k3 f13 (.bl _)
  | _ => exact h3.elim
/-! ### subscripts -/
def dIxS : D → D → Sto → DK → Prop := fun x y S Q => match vw S x, y with
  | .lst xs, .int i => ∃ d, atI xs i = some d ∧ Q d S
  | .tup xs, .int i => ∃ d, atI xs i = some d ∧ Q d S
  | .scr ns, .int i => ∃ n, atI ns i = some n ∧ Q (.int n) S
  | .str z, .int i => z.length ≤ sizeLine ∧ ∃ c, atI z.cps.toList i = some c ∧ Q (.str ⟨#[c]⟩) S
  | _, _ => False
theorem atI_rep {G : Hp} {vs : List V} {xs : List D} {i : Int} {d : D} (l : RepL K G vs xs) (h : atI xs i = some d) : ∃ v, atI vs i = some v ∧ Rep K G v d := by
  unfold atI at h ⊢
  rw [l.length]
  cases e : ixN xs.length i with
  | none => rw [e] at h; cases h
  | some j =>
    rw [e] at h
    obtain ⟨v, h1, h2⟩ := l.get (i := j) (by simpa using h)
    exact ⟨v, by simpa using h1, h2⟩
theorem scr_of {G : Hp} {S : Sto} {v : V} {d : D} {ns : List Int} (r : Rep K G v d) (h : vw S d = .scr ns) : ∃ a, v = .ref a ∧ SqL K G a (ns.map V.int) := by
  unfold vw at h
  split at h
  · split at h <;> cases h
  · subst h
    cases r with
    | scr h => exact ⟨_, rfl, h⟩
theorem atI_map {ns : List Int} {i : Int} {n : Int} (h : atI ns i = some n) : atI (ns.map V.int) i = some (.int n) := by
  unfold atI at h ⊢
  rw [List.length_map]
  cases e : ixN ns.length i with
  | none => rw [e] at h; cases h
  | some j =>
    rw [e] at h
    have h : ns[j]? = some n := h
    show (ns.map V.int)[j]? = _
    rw [List.getElem?_map, h]; rfl
theorem dix_seq : DIx X dIxS := ⟨_, ix_seq, ⟨fun G H S x y v u Q P k r1 r2 h p => by
  unfold dIxS at h
  split at h
  · rename_i h1
    obtain ⟨d, h2, h3⟩ := h
    cases r2
    obtain ⟨a1, vs, e1, q1, l1⟩ := seq_of k r1 h1
    obtain ⟨v', h4, h5⟩ := atI_rep l1 h2
    exact .inl ⟨a1, vs, _, v', e1, rfl, .of q1, h4, p _ S G H _ h3 k (.refl _ _ _) h5⟩
  · rename_i h1
    obtain ⟨d, h2, h3⟩ := h
    cases r2
    obtain ⟨a1, vs, e1, q1, l1, _⟩ := tup_of k r1 h1
    obtain ⟨v', h4, h5⟩ := atI_rep l1 h2
    exact .inr (.inl ⟨a1, vs, _, v', e1, rfl, q1.sq, h4, p _ S G H _ h3 k (.refl _ _ _) h5⟩)
  · rename_i h1
    obtain ⟨d, h2, h3⟩ := h
    cases r2
    obtain ⟨a1, e1, q1⟩ := scr_of r1 h1
    exact .inl ⟨a1, _, _, _, e1, rfl, Evl.ex_l k.ext q1, atI_map h2, p _ S G H _ h3 k (.refl _ _ _) (.int _)⟩
  · rename_i h1
    obtain ⟨h0, c, h2, h3⟩ := h
    cases r2
    rw [str_of r1 h1]
    exact .inr (.inr ⟨_, _, _, rfl, rfl, h0, h2, p _ S G H _ h3 k (.refl _ _ _) (.str _)⟩)
  · exact h.elim⟩⟩
/-! ### slices -/
abbrev DTO := DEr → DSt → Sto → (Option Int → Sto → Prop) → Prop
structure EvO (K : PySem.W.Frag) (W : WX) (t : TO) (r : DTO) : Prop where
  run : ∀ (E : DEr) (G H : Hp) (S : Sto) (σV : L2.St) (σ : DSt) (Q : Option Int → Sto → Prop) (P : Option Int → Hp → Prop), WOk K W E σV G H S → Wok K G H S → Sl K G σV σ → r E σ S Q →
    (∀ b S' G' H', Q b S' → Wok K G' H' S' → Fr G H S G' H' S' → P b H') → t σV H P
def DO (X : Cx) (W : WX) (e : Option Expr) (r : DTO) : Prop := ∃ t, PO X e t ∧ EvO X.K W t r
def dNoPart : DTO := fun _ _ S Q => Q none S
def dPart (r : DTE) : DTO := fun E σ S Q => r E σ S fun d S' => match d with
  | .int i => Q (some i) S'
  | _ => False
theorem do_none : DO X W none dNoPart := ⟨_, po_none, ⟨fun E G H S σV σ Q P w k s h p => p _ S G H h k (.refl _ _ _)⟩⟩
theorem do_some (ha : DE X W a ra) : DO X W (some a) (dPart ra) := by
  obtain ⟨t, p, q⟩ := ha
  refine ⟨_, po_some p, ⟨fun E G H S σV σ Q P w k s h f => q.run E G H S σV σ _ _ w k s h fun d S' G' H' v hd k' g r => ?_⟩⟩
  cases d with
  | int i => cases r; exact ⟨i, rfl, f _ S' G' H' hd k' g⟩
  | _ => exact hd.elim
def cutD (xs : List D) (lo hi : Option Int) : List D := (xs.drop (HT.sIx xs.length 0 lo)).take (HT.sIx xs.length xs.length hi - HT.sIx xs.length 0 lo)
theorem cut_rep {G : Hp} {vs : List V} {xs : List D} (l : RepL K G vs xs) (lo hi : Option Int) : RepL K G (cutV vs lo hi) (cutD xs lo hi) := by
  unfold cutV cutD
  rw [l.length]
  exact (l.drop _).take _
theorem cut_whole {xs : List D} {lo hi : Option Int} (h : HT.sIx xs.length 0 lo = 0 ∧ HT.sIx xs.length xs.length hi = xs.length) : cutD xs lo hi = xs := by
  unfold cutD
  rw [h.1, h.2]
  simp
def dSlQ : D → Option Int → Option Int → Sto → DK → Prop := fun x lo hi S Q => match vw S x with
  | .lst xs => Q (.lst (cutD xs lo hi)) S
  | .tup xs => Q (.tup (cutD xs lo hi)) S
  | .str z => z.length ≤ sizeLine ∧ Q (.str (cutS z lo hi)) S
  | _ => False
def dSl (re : DTE) (rl rh : DTO) : DTE := fun E σ S Q => re E σ S fun x S1 => rl E σ S1 fun l S2 => rh E σ S2 fun u S3 => dSlQ x l u S3 Q
theorem de_slice {lo hi : Option Expr} {rl rh : DTO} {p2 : Pos} (he : DE X W e ra) (hl : DO X W lo rl) (hh : DO X W hi rh) : DE X W (.Subscript e (.Slice lo hi none p2) pos) (dSl ra rl rh) := by
  obtain ⟨t, p, q⟩ := he
  obtain ⟨tl, pl, ql⟩ := hl
  obtain ⟨th, ph, qh⟩ := hh
  refine ⟨_, pe_slice (sl_list.or (sl_tupA.or sl_str)) p pl ph, ⟨fun E G H S σV σ Q P w k s h f => ?_⟩⟩
  refine q.run E G H S σV σ _ _ w k s h fun x S1 G1 H1 v h1 k1 f1 r1 => ?_
  refine ql.run E G1 H1 S1 σV σ _ _ (w.mono f1) k1 (s.mono f1.g) h1 fun l S2 G2 H2 h2 k2 f2 => ?_
  have f12 := f1.trans f2
  refine qh.run E G2 H2 S2 σV σ _ _ (w.mono f12) k2 (s.mono f12.g) h2 fun u S3 G3 H3 h3 k3 f3 => ?_
  have f13 := f12.trans f3
  have r3 := r1.mono (f2.trans f3).g
  unfold dSlQ at h3
  split at h3
  · rename_i xs hx
    obtain ⟨a1, vs, e1, q1, l1⟩ := seq_of k3 r3 hx
    refine .inl ⟨a1, vs, e1, .of q1, fun n hn => ?_⟩
    obtain ⟨k4, f4⟩ := k3.newG (o := .lst (cutV vs l u)) hn
    exact f _ S3 _ _ _ h3 k4 (f13.trans f4) (.lst upd_same ((cut_rep l1 l u).mono f4.g))
  · rename_i xs hx
    obtain ⟨a1, vs, e1, q1, l1, g1⟩ := tup_of k3 r3 hx
    refine .inr (.inl ⟨a1, vs, e1, q1.sq, fun z => ?_, fun _ n hn => ?_⟩)
    · rw [l1.length] at z
      rw [cut_whole z] at h3
      exact f _ S3 _ _ _ h3 k3 f13 (.tup g1 l1)
    · obtain ⟨k4, f4⟩ := k3.newG (o := .tup (cutV vs l u)) hn
      exact f _ S3 _ _ _ h3 k4 (f13.trans f4) (.tup (.inl upd_same) ((cut_rep l1 l u).mono f4.g))
  · rename_i z hx
    rw [str_of r3 hx]
    exact .inr (.inr ⟨_, rfl, h3.1, f _ S3 _ _ _ h3.2 k3 f13 (.str _)⟩)
  · exact h3.elim
end
end KD

set_option maxRecDepth 100000
set_option maxHeartbeats 4000000
/-! KdE: enumerate and zip over lists, tuples and texts in any mix. -/
namespace PySem
set_option maxHeartbeats 1000000 in
theorem meets_enumerate_newB1 {v : Value} {o : Obj} {H : Heap → Prop} (B : Begins v o H) :
    Meets (Builtin.«enumerate.__new__» ⟨[.type "enumerate", v], []⟩) (fun _ R s => H s.heap ∧
      R (.ok (.ret (.ref (s.heap.push o).objs.size))) { s with heap := (s.heap.push o).push { cls := .type "enumerate", data := .fields #[.none, .bool false, .ref s.heap.objs.size, rawInt 0, .none, .none] } }) :=
  .of_wp fun prog w A R s h => by
    obtain ⟨hp, g, d, tk, os⟩ := s; obtain ⟨h1, h⟩ := h
    have hsub := sub_enumerate
    have q1 : ∀ {A' : Around} {E : Value → Shared → Prop} {Q : Value → Shared → Prop}, Q (.ref hp.objs.size) ⟨hp.push o, g, d, tk, os⟩ → wpAny (model prog w) A' (pyIter v) Q E ⟨hp, g, d, tk, os⟩ :=
      fun q => B.iter prog w _ _ ⟨hp, g, d, tk, os⟩ _ h1 q
    wp_walk using q1
    refine wpAny_stack_any fun st => wpAny_pure ?_
    split
    · rename_i c _ _ _ _ _
      cases (c == Value.type "enumerate")
      · wp_walk using q1
        exact ⟨_, rfl, h⟩
      · wp_walk using q1
        exact ⟨_, rfl, h⟩
    · wp_walk using q1
      exact ⟨_, rfl, h⟩
theorem enum1_begins {prog : Program} {w : World} {A : Around} {E : Value → Shared → Prop} {s : Shared} {v : Value} {o : Obj} {H : Heap → Prop} {Q : Value → Shared → Prop} (B : Begins v o H) (h1 : H s.heap)
    (h : ∀ h', IsEnum h' (s.heap.objs.size + 1) s.heap.objs.size 0 .none → h'.get? s.heap.objs.size = some o → h'.objs.size = s.heap.objs.size + 2 →
      (∀ b o, s.heap.get? b = some o → h'.get? b = some o) → Q (.ref (s.heap.objs.size + 1)) { s with heap := h' }) :
    wpAny (model prog w) A (call (.type "enumerate") [v]) Q E s := by
  refine callType_new F.called_enumerate (by decide) (F.typeCall_enumerate_1 _) (F.newCall_enumerate_1 _) (fun obj => F.args_object_init_2 obj _) F.entry_enumerate_new
    (meets_enumerate_newB1 B) ⟨h1, ?_⟩
  have hz : (s.heap.push o).objs.size = s.heap.objs.size + 1 := Heap.size_push ..
  show _ ∧ _
  rw [hz]
  have he : IsEnum ((s.heap.push o).push { cls := .type "enumerate", data := .fields #[.none, .bool false, .ref s.heap.objs.size, rawInt 0, .none, .none] }) (s.heap.objs.size + 1) s.heap.objs.size 0 .none := by
    have := Heap.get?_push_size (s.heap.push o) (o := { cls := .type "enumerate", data := .fields #[.none, .bool false, .ref s.heap.objs.size, rawInt 0, .none, .none] }) rfl
    rw [hz] at this; exact this
  refine ⟨⟨_, he, rfl⟩, h _ he (Heap.get?_push_of_some _ (Heap.get?_push_size _ B.free)) (by rw [Heap.size_push, hz]) fun b o x => Heap.get?_push_of_some _ (Heap.get?_push_of_some _ x)⟩
end PySem
namespace KD
open PySem PySem.Spec PyProof.Rows L2
/-- what an inner iterator walks -/
inductive SrcK where
  | lst (a : Addr) (vs : List V) | tup (a : Addr) (vs : List V) | str (z : Str)
def SrcK.n : SrcK → Nat
  | .lst _ vs => vs.length | .tup _ vs => vs.length | .str z => z.cps.size
def SrcK.get : SrcK → Nat → Option V
  | .lst _ vs, i => vs[i]? | .tup _ vs, i => vs[i]? | .str z, i => z.cps[i]?.map fun c => .str ⟨#[c]⟩
def SrcK.gd (K : PySem.W.Frag) : SrcK → Hp → Prop
  | .lst a vs, H => SqL K H a vs | .tup a vs, H => SqT K H a vs | .str _, _ => True
def SrcK.v : SrcK → V
  | .lst a _ => .ref a | .tup a _ => .ref a | .str z => .str z
/-- the inner iterator at it, at turn i -/
def SrcK.tn (k : SrcK) (it : Addr) (i : Nat) (h : Heap) : Prop := match k with
  | .lst a _ => h.IsListIter it a i
  | .tup a _ => h.IsTupleIter it a i
  | .str z => ∃ t, h.IsStrIter it (strIterType z) z t i
theorem SrcK.tn_obj {k : SrcK} {it : Addr} {i : Nat} {h : Heap} (t : k.tn it i h) : ∃ o, h.get? it = some o ∧ (∀ v, o.data ≠ .cell v) ∧ o.cls ≠ .type "list" ∧ o.cls ≠ .type "tuple" ∧ o.cls ≠ .type "enumerate" ∧ o.cls ≠ .type "zip" := by
  cases k with
  | lst a vs =>
    obtain ⟨o, ho, hc, hd⟩ := t
    exact ⟨o, ho, (by intro v q; rw [hd] at q; cases q), by rw [hc]; decide, by rw [hc]; decide, by rw [hc]; decide, by rw [hc]; decide⟩
  | tup a vs =>
    obtain ⟨o, ho, hc, hd⟩ := t
    exact ⟨o, ho, (by intro v q; rw [hd] at q; cases q), by rw [hc]; decide, by rw [hc]; decide, by rw [hc]; decide, by rw [hc]; decide⟩
  | str z =>
    obtain ⟨t, o, ho, hc, hd⟩ := t
    have e : strIterType z = "str_ascii_iterator" ∨ strIterType z = "str_iterator" := by unfold strIterType; split; exact .inl rfl; exact .inr rfl
    refine ⟨o, ho, (by intro v q; rw [hd] at q; cases q), ?_, ?_, ?_, ?_⟩ <;> (rcases e with e | e <;> rw [hc, e] <;> decide)
theorem SrcK.tn_keep {k : SrcK} {it : Addr} {i : Nat} {h h' : Heap} (t : k.tn it i h) (q : ∀ o, h.get? it = some o → h'.get? it = some o) : k.tn it i h' := by
  cases k with
  | lst a vs => exact Heap.IsListIter.at t q
  | tup a vs => exact Heap.IsTupleIter.at t q
  | str z => obtain ⟨t, o, ho, r⟩ := t; exact ⟨t, o, q o ho, r⟩
section
variable {X : Cx} {pins : List (Addr × Obj)} {σ : L2.St} {H : Hp} {s : Shared}
theorem SrcK.draws (k : SrcK) {A : Around} {it : Addr} {i : Nat} (I : Inv X pins σ H s) (g : k.gd X.K H) (t : k.tn it i s.heap) (hh : A.handled = none) :
    ∃ (fp : List Addr) (P : Nat → Value → Prop) (St : Nat → Heap → Prop), Draws X.prog X.w A it fp k.n P St ∧ St i s.heap ∧ (∀ j h, St j h → k.tn it j h) ∧ it ∈ fp ∧
      (∀ b ∈ fp, b = it ∨ ∃ o, s.heap.get? b = some o ∧ (o.cls = .type "list" ∨ o.cls = .type "tuple") ∧ ((H b).isSome = true ∨ X.K.lookup b = some o)) ∧ (∀ j x, P j x → ∃ v, k.get j = some v ∧ RelV v x) := by
  obtain ⟨o, ho, _, n1, n2, _⟩ := (SrcK.tn_obj t)
  cases k with
  | lst a vs =>
    obtain ⟨its, rv, p, hz⟩ := I.list g
    obtain ⟨oa, hoa, hca, _⟩ := id p.isList
    have ne : a ≠ it := fun e => by rw [e, ho] at hoa; cases hoa; exact n1 hca
    refine ⟨[it, a], fun i v => its.toArray[i]? = some v, fun i h => h.IsListIter it a i ∧ h.IsList a its.toArray, (by have := Draws.list (prog := X.prog) (w := X.w) hh it a ne its.toArray; rw [List.size_toArray, ← rv.length] at this; exact this), ⟨t, p.isList⟩, fun j h q => q.1, by simp, fun b hb => ?_, fun j x hp => ?_⟩
    · rcases (by simpa using hb : b = it ∨ b = a) with e | e
      · exact .inl e
      · refine .inr ⟨oa, by rw [e]; exact hoa, .inl hca, ?_⟩
        rw [e]
        rcases g with (g | ⟨_, g⟩) | ⟨ok, _, _, g, _⟩
        · exact .inl (by rw [g]; rfl)
        · exact .inl (by rw [g]; rfl)
        · have := I.kIn _ _ g
          rw [hoa] at this; cases this
          exact .inr g
    · have hp : its[j]? = some x := by simpa using hp
      cases e : vs[j]? with
      | none => rw [rv.none_of e] at hp; cases hp
      | some v =>
        obtain ⟨u, h1, h2⟩ := rv.get e
        rw [h1] at hp; cases hp
        exact ⟨v, e, h2⟩
  | tup a vs =>
    obtain ⟨its, rv, p, hz⟩ := I.tuple g
    obtain ⟨oa, hoa, hca, _⟩ := id p
    have ne : a ≠ it := fun e => by rw [e, ho] at hoa; cases hoa; exact n2 hca
    refine ⟨[it, a], fun i v => its.toArray[i]? = some v, fun i h => h.IsTupleIter it a i ∧ h.IsTuple a its.toArray, (by have := Draws.tuple (prog := X.prog) (w := X.w) hh it a ne its.toArray; rw [List.size_toArray, ← rv.length] at this; exact this), ⟨t, p⟩, fun j h q => q.1, by simp, fun b hb => ?_, fun j x hp => ?_⟩
    · rcases (by simpa using hb : b = it ∨ b = a) with e | e
      · exact .inl e
      · refine .inr ⟨oa, by rw [e]; exact hoa, .inr hca, ?_⟩
        rw [e]
        rcases g with (g | ⟨_, g⟩) | ⟨ok, _, _, g, _⟩
        · exact .inl (by rw [g]; rfl)
        · exact .inl (by rw [g]; rfl)
        · have := I.kIn _ _ g
          rw [hoa] at this; cases this
          exact .inr g
    · have hp : its[j]? = some x := by simpa using hp
      cases e : vs[j]? with
      | none => rw [rv.none_of e] at hp; cases hp
      | some v =>
        obtain ⟨u, h1, h2⟩ := rv.get e
        rw [h1] at hp; cases hp
        exact ⟨v, e, h2⟩
  | str z =>
    obtain ⟨tk, t⟩ := t
    refine ⟨_, _, _, Draws.text hh it z tk, t, fun j h q => ⟨tk, q⟩, by simp, fun b hb => .inl (by simpa using hb), fun j x hp => ?_⟩
    obtain ⟨c, u, h1, h2⟩ := hp
    refine ⟨.str ⟨#[c]⟩, ?_, ⟨u, h2⟩⟩
    show z.cps[j]?.map _ = _
    rw [h1]; rfl
theorem SrcK.begins (k : SrcK) {u : Value} (I : Inv X pins σ H s) (g : k.gd X.K H) (r : RelV k.v u) : ∃ (o : Obj) (B : Heap → Prop), Begins u o B ∧ B s.heap ∧ ∀ it h, h.get? it = some o → k.tn it 0 h := by
  cases k with
  | lst a vs =>
    obtain ⟨its, rv, p, hz⟩ := I.list g
    obtain rfl : u = .ref a := r
    exact ⟨_, _, begins_list a its.toArray, p.isList, fun it h e => ⟨_, e, rfl, rfl⟩⟩
  | tup a vs =>
    obtain ⟨its, rv, p, hz⟩ := I.tuple g
    obtain rfl : u = .ref a := r
    exact ⟨_, _, begins_tuple a its.toArray, p, fun it h e => ⟨_, e, rfl, rfl⟩⟩
  | str z =>
    obtain ⟨t, rfl⟩ := r
    exact ⟨_, _, begins_text z t, trivial, fun it h e => ⟨t, _, e, rfl, rfl⟩⟩
theorem fp_far {fp : List Addr} {b c : Addr} (I : Inv X pins σ H s) (hb : FpOk X pins H b) (hc : b ≠ c) (hf : ∀ q ∈ fp, q = c ∨ ∃ o, s.heap.get? q = some o ∧ (o.cls = .type "list" ∨ o.cls = .type "tuple") ∧ ((H q).isSome = true ∨ X.K.lookup q = some o)) : b ∉ fp := fun hm => by
  rcases hf b hm with e | ⟨o, ho, _, e | e⟩
  · exact hc e
  · rw [hb.1] at e; cases e
  · have hbase := I.ok.mod.kin b o e
    rcases hb.2.2.2.1 with z | z
    · exact I.ok.noex b o hbase z
    · have := Nat.lt_of_lt_of_le (Heap.lt_size hbase) I.ok.bsz
      exact absurd (Nat.lt_of_lt_of_le this z) (Nat.lt_irrefl _)
end
/-- enumerate(..) -/
def IteK (K : PySem.W.Frag) (k : SrcK) : It :=
  ⟨fun i H => k.gd K H ∧ i < k.n, fun i H v H' => ∃ T x, v = .ref T ∧ H T = none ∧ H' = upd H T (.tup [.int (i : Nat), x]) ∧ k.get i = some x, fun i H => k.gd K H ∧ i = k.n⟩
theorem turn_enumK {P : Program} {w : World} {K : PySem.W.Frag} {elts : List Expr} {kk : Nat} {tpos : Pos} (k : SrcK) (e it : Addr) :
    Turn P w K (.Tuple elts kk tpos) (IteK K k) [e, it] e (fun i h => (∃ old, IsEnum h e it ((i : Nat) : Int) old) ∧ k.tn it i h ∧ e ≠ it) where
  mem := by simp
  obj := fun i h st b hb => by
    obtain ⟨⟨old, he⟩, ht, _⟩ := st
    have e' : b = e ∨ b = it := by simpa using hb
    rcases e' with z | z
    · rw [z]; exact ⟨_, he, fun v q => nomatch q⟩
    · obtain ⟨o, ho, hd, _⟩ := (SrcK.tn_obj ht)
      rw [z]; exact ⟨o, ho, hd⟩
  keep := fun i h h' st q => let ⟨⟨old, he⟩, hi, hne⟩ := st; ⟨⟨old, q e (by simp) _ he⟩, SrcK.tn_keep hi fun o z => q it (by simp) o z, hne⟩
  item := by
    intro X hP hw hK hc i pins s σ H E I hf st hg
    subst hP hw hK
    obtain ⟨⟨old, he⟩, hit, hne⟩ := st
    obtain ⟨hgd, hlt⟩ := hg
    have hh : X.A.in1.handled = none := I.ok.hd hc
    obtain ⟨fp, PP, St, Dr, hSt, hS1, hifp, hfp, hPP⟩ := k.draws (A := X.A.in1) I hgd hit hh
    have hef : e ∉ fp := fp_far I (hf e (by simp)) hne hfp
    have hel : e < s.heap.objs.size := Heap.lt_size he
    have hil : it < s.heap.objs.size := by obtain ⟨_, q, _⟩ := (SrcK.tn_obj hit); exact Heap.lt_size q
    refine wpAny_pyNext_enum_itemD Dr he hSt hlt hne hef fun x h' tk hP ho hs' hT hsz hk => ?_
    obtain ⟨v, hv, rv⟩ := hPP i x hP
    refine ⟨_, rfl, wpAny_letOwnedTupleGo_enum (s := { s with heap := h', toks := tk + 1 }) ho fun h'' he' sb => ?_⟩
    have hT2 : h''.get? s.heap.objs.size = some { cls := .type "tuple", data := .seq #[.int i tk, x] } := (sb.2 _ (Nat.ne_of_gt hel)).trans hT
    have new : ObjOk X.prog X.w (upd H s.heap.objs.size (.tup [.int (i : Nat), v])) h'' s.heap.objs.size (.tup [.int (i : Nat), v]) :=
      ⟨by show 2 ≤ sizeLine; decide, [.int i tk, x], .cons ⟨_, rfl⟩ (.cons rv .nil), ⟨_, hT2, rfl, _, rfl⟩⟩
    have I1 : Inv X pins σ (upd H s.heap.objs.size (.tup [.int (i : Nat), v])) { s with heap := h'', toks := tk + 1 } :=
      I.turnedNew (ch := [e, it]) (fun b ob hb q => (sb.2 b (fun z => hb (by simp [z]))).trans (hk b ob (fun z => hb (by simp [z])) (fun z => hb (by simp [z])) q)) hf (Nat.le_refl _) new
    refine ⟨.ref s.heap.objs.size, _, I1, rfl, ⟨_, v, rfl, I.hok.fresh (Nat.le_refl _), rfl, hv⟩, ⟨⟨x, ?_⟩, SrcK.tn_keep (hS1 _ _ hs') fun o q => (sb.2 it (Ne.symm hne)).trans q, hne⟩, fun b hb => ?_⟩
    · have e1 : ((i + 1 : Nat) : Int) = (i : Int) + 1 := by omega
      rw [e1]; exact he'
    · have hb' : b < s.heap.objs.size := by
        have e' : b = e ∨ b = it := by simpa using hb
        rcases e' with z | z
        · rw [z]; exact hel
        · rw [z]; exact hil
      rw [upd_ne (Nat.ne_of_lt hb')]
      exact (hf b hb).1
  done := by
    intro X hP hw hK hc i pins s σ H E I hf st hg
    subst hP hw hK
    obtain ⟨⟨old, he⟩, hit, hne⟩ := st
    obtain ⟨hgd, rfl⟩ := hg
    have hh : X.A.in1.handled = none := I.ok.hd hc
    obtain ⟨fp, PP, St, Dr, hSt, hS1, hifp, hfp, hPP⟩ := k.draws (A := X.A.in1) I hgd hit hh
    obtain ⟨f0, f1, f2, f3, f4, f5⟩ := hf it (by simp)
    exact wpAny_pyNext_enum_endD Dr he hSt fun h' eb => ⟨rfl, I.turned (t' := s.toks) (fun b o hb q => eb b o hb q) f0 f1 f3 f4 f5⟩
  self := fun A i s Q E st h => let ⟨⟨_, he⟩, _⟩ := st; wpAny_pyIter_enum he h
theorem walk_enumK {K : PySem.W.Frag} (k : SrcK) : Walk (IteK K k) k.n (fun H => k.gd K H) (YPair (fun i => some (.int (i : Nat))) k.get) :=
  ⟨fun i _ hi q => ⟨q, hi⟩, fun _ q => ⟨q, rfl⟩, fun i H v H' _ q ⟨T, x, h1, h2, h3, h4⟩ => ⟨T, .int (i : Nat), x, h1, h2, h3, rfl, h4⟩⟩
def iEnumK (K : PySem.W.Frag) (ta : TA) : TI := fun σ H R => ta σ H fun vs H1 => ∃ k : SrcK, vs = [k.v] ∧ k.gd K H1 ∧ R (IteK K k) H1
theorem pi_enumK {X : Cx} {e : Expr} {ta : TA} {p pos tpos : Pos} {elts : List Expr} {kk : Nat} (hg : Gl X "enumerate") (hm : X.mg "enumerate" = none) (ha : PA X [e] ta) (hs : starEach [e] X.env = [(false, eval e X.env)] := by rfl) :
    PI X (.Tuple elts kk tpos) (.Call (.Name "enumerate" p) [e] [] pos) (iEnumK X.K ta) := by
  refine ⟨fun pins s σ H R I h => ?_⟩
  refine Call_ (ld_blt I hg hm boot_enumerate (PyProof.Rows.callWith_type1 (thn (ha.run pos pins s σ H _ I h) fun us s1 ⟨vs, H1, I1, r1, q1⟩ => ?_) hs rfl))
  obtain ⟨k, ex, hq, q⟩ := q1
  subst ex
  cases r1 with
  | cons r rr =>
    cases rr
    obtain ⟨o, B, Bg, hB, htn⟩ := k.begins I1 hq r
    refine enum1_begins Bg hB fun h' he hit hsz hk => wpAny_pyIter_enum he ?_
    have I2 : Inv X pins σ H1 { s1 with heap := h' } := I1.kept (t' := s1.toks) hk
    refine ⟨s1.heap.objs.size + 1, [s1.heap.objs.size + 1, s1.heap.objs.size], _, _, H1, rfl, I2, turn_enumK k (s1.heap.objs.size + 1) s1.heap.objs.size, ⟨⟨.none, he⟩, htn _ _ hit, Nat.succ_ne_self _⟩, fun b hb => ?_, q⟩
    have e' : b = s1.heap.objs.size + 1 ∨ b = s1.heap.objs.size := by simpa using hb
    have hle : s1.heap.objs.size ≤ b := by
      rcases e' with z | z
      · rw [z]; exact Nat.le_add_right _ _
      · rw [z]; exact Nat.le_refl _
    exact I1.fpOk hle (I1.hok.fresh hle)
end KD

set_option maxRecDepth 100000
set_option maxHeartbeats 4000000
/-! KdZ: zip over two sources of any kind. -/
namespace KD
open PySem PySem.Spec PyProof.Rows L2
structure ZSep (z TI TO i1 i2 : Addr) : Prop where
  a1 : TI ≠ z
  a2 : TO ≠ z
  a3 : TI ≠ TO
  a4 : TI ≠ i1
  a5 : TI ≠ i2
  a6 : z ≠ i1
  a7 : z ≠ i2
  a8 : TO ≠ i1
  a9 : TO ≠ i2
  b1 : i1 ≠ i2
def ItzK (K : PySem.W.Frag) (k l : SrcK) : It :=
  ⟨fun i H => (k.gd K H ∧ l.gd K H) ∧ i < k.n ∧ i < l.n, fun i H v H' => ∃ T x y, v = .ref T ∧ H T = none ∧ H' = upd H T (.tup [x, y]) ∧ k.get i = some x ∧ l.get i = some y, fun i H => (k.gd K H ∧ l.gd K H) ∧ i ≤ k.n ∧ i ≤ l.n ∧ (i = k.n ∨ i = l.n)⟩
def ZTn (k l : SrcK) (z TI TO i1 i2 : Addr) (i : Nat) (h : Heap) : Prop := IsZip h z TI TO .none ∧ IsTupOf2 h TI (.ref i1) (.ref i2) ∧ (∃ x y, IsTupOf2 h TO x y) ∧ k.tn i1 i h ∧ l.tn i2 i h
section
variable {X : Cx} {pins : List (Addr × Obj)} {σ : L2.St} {H : Hp} {s : Shared}
theorem zsep2 {z TI TO i1 i2 : Addr} {fp1 fp2 : List Addr} (D : ZSep z TI TO i1 i2) (I : Inv X pins σ H s) (hf : ∀ b ∈ [z, TI, TO, i1, i2], FpOk X pins H b)
    (m1 : i1 ∈ fp1) (m2 : i2 ∈ fp2) (h1 : ∀ q ∈ fp1, q = i1 ∨ ∃ o, s.heap.get? q = some o ∧ (o.cls = .type "list" ∨ o.cls = .type "tuple") ∧ ((H q).isSome = true ∨ X.K.lookup q = some o))
    (h2 : ∀ q ∈ fp2, q = i2 ∨ ∃ o, s.heap.get? q = some o ∧ (o.cls = .type "list" ∨ o.cls = .type "tuple") ∧ ((H q).isSome = true ∨ X.K.lookup q = some o)) : ZipSep2 z TI TO i1 i2 fp1 fp2 :=
  ⟨D.a1, D.a2, D.a3, D.a4, m1, fp_far I (hf z (by simp)) D.a6 h1, fp_far I (hf TO (by simp)) D.a8 h1, D.a5, m2, fp_far I (hf z (by simp)) D.a7 h2, fp_far I (hf TO (by simp)) D.a9 h2, fp_far I (hf i1 (by simp)) D.b1 h2, fp_far I (hf i2 (by simp)) (Ne.symm D.b1) h1⟩
end
theorem turn_zipK {P : Program} {w : World} {K : PySem.W.Frag} {elts : List Expr} {kk : Nat} {tpos : Pos} (k l : SrcK) {z TI TO i1 i2 : Addr} (D : ZSep z TI TO i1 i2) :
    Turn P w K (.Tuple elts kk tpos) (ItzK K k l) [z, TI, TO, i1, i2] z (ZTn k l z TI TO i1 i2) where
  mem := by simp
  obj := fun i h st c hc => by
    obtain ⟨hz, hTI, ⟨x, y, hTO⟩, t1, t2⟩ := st
    obtain ⟨o1, e1, d1, _⟩ := SrcK.tn_obj t1
    obtain ⟨o2, e2, d2, _⟩ := SrcK.tn_obj t2
    have e' : c = z ∨ c = TI ∨ c = TO ∨ c = i1 ∨ c = i2 := by simpa using hc
    rcases e' with q | q | q | q | q
    · rw [q]; exact ⟨_, hz, fun v q => nomatch q⟩
    · rw [q]; exact ⟨_, hTI, fun v q => nomatch q⟩
    · rw [q]; exact ⟨_, hTO, fun v q => nomatch q⟩
    · rw [q]; exact ⟨o1, e1, d1⟩
    · rw [q]; exact ⟨o2, e2, d2⟩
  keep := fun i h h' st q => by
    obtain ⟨hz, hTI, ⟨x, y, hTO⟩, t1, t2⟩ := st
    exact ⟨q z (by simp) _ hz, q TI (by simp) _ hTI, ⟨x, y, q TO (by simp) _ hTO⟩, SrcK.tn_keep t1 fun o e => q i1 (by simp) o e, SrcK.tn_keep t2 fun o e => q i2 (by simp) o e⟩
  item := by
    intro X hP hw hK hc i pins s σ H E I hf st hg
    subst hP hw hK
    obtain ⟨hz, hTI, ⟨x0, y0, hTO⟩, t1, t2⟩ := st
    obtain ⟨⟨g1, g2⟩, lt1, lt2⟩ := hg
    have hh : X.A.in1.handled = none := I.ok.hd hc
    obtain ⟨fp1, P1, S1, D1, st1, q1, m1, f1, p1⟩ := k.draws (A := X.A.in1) I g1 t1 hh
    obtain ⟨fp2, P2, S2, D2, st2, q2, m2, f2, p2⟩ := l.draws (A := X.A.in1) I g2 t2 hh
    have hzl : z < s.heap.objs.size := Heap.lt_size hz
    refine wpAny_pyNext_zipD2_item (zsep2 D I hf m1 m2 f1 f2) D1 D2 hz hTI hTO st1 st2 lt1 lt2 fun u u2 h' tk hp1 hp2 z' TO' st1' st2' hT hsz hk => ?_
    obtain ⟨x, hx, ru⟩ := p1 i u hp1
    obtain ⟨y, hy, ru2⟩ := p2 i u2 hp2
    refine ⟨_, rfl, wpAny_letOwnedTupleGo_zip (s := { s with heap := h', toks := tk }) z' fun h'' z'' sb => ?_⟩
    have hT2 : h''.get? s.heap.objs.size = some { cls := .type "tuple", data := .seq #[u, u2] } := (sb.2 _ (Nat.ne_of_gt hzl)).trans hT
    have new : ObjOk X.prog X.w (upd H s.heap.objs.size (.tup [x, y])) h'' s.heap.objs.size (.tup [x, y]) :=
      ⟨by show 2 ≤ sizeLine; decide, [u, u2], .cons ru (.cons ru2 .nil), ⟨_, hT2, rfl, _, rfl⟩⟩
    have I1 : Inv X pins σ (upd H s.heap.objs.size (.tup [x, y])) { s with heap := h'', toks := tk } :=
      I.turnedNew (t' := tk) (ch := [z, TI, TO, i1, i2]) (fun c o hb q => (sb.2 c (fun q' => hb (by simp [q']))).trans (hk c o (fun q' => hb (by simp [q'])) (fun q' => hb (by simp [q'])) (fun q' => hb (by simp [q'])) (fun q' => hb (by simp [q'])) q)) hf (Nat.le_refl _) new
    refine ⟨.ref s.heap.objs.size, _, I1, rfl, ⟨_, x, y, rfl, I.hok.fresh (Nat.le_refl _), rfl, hx, hy⟩, ⟨z'', ?_, ⟨u, u2, ?_⟩, ?_, ?_⟩, fun c hcm => ?_⟩
    · exact (sb.2 _ D.a1).trans (hk _ _ D.a1 D.a3 D.a4 D.a5 hTI)
    · exact (sb.2 _ D.a2).trans TO'
    · exact SrcK.tn_keep (q1 _ _ st1') fun o q => (sb.2 _ (Ne.symm D.a6)).trans q
    · exact SrcK.tn_keep (q2 _ _ st2') fun o q => (sb.2 _ (Ne.symm D.a7)).trans q
    · have hlt : c < s.heap.objs.size := by
        have e' : c = z ∨ c = TI ∨ c = TO ∨ c = i1 ∨ c = i2 := by simpa using hcm
        rcases e' with q | q | q | q | q
        · rw [q]; exact hzl
        · rw [q]; exact Heap.lt_size hTI
        · rw [q]; exact Heap.lt_size hTO
        · rw [q]; obtain ⟨_, e1, _⟩ := SrcK.tn_obj t1; exact Heap.lt_size e1
        · rw [q]; obtain ⟨_, e2, _⟩ := SrcK.tn_obj t2; exact Heap.lt_size e2
      rw [upd_ne (Nat.ne_of_lt hlt)]
      exact (hf c hcm).1
  done := by
    intro X hP hw hK hc i pins s σ H E I hf st hg
    subst hP hw hK
    obtain ⟨hz, hTI, ⟨x0, y0, hTO⟩, t1, t2⟩ := st
    obtain ⟨⟨g1, g2⟩, le1, le2, hend⟩ := hg
    have hh : X.A.in1.handled = none := I.ok.hd hc
    obtain ⟨fp1, P1, S1, D1, st1, q1, m1, f1, p1⟩ := k.draws (A := X.A.in1) I g1 t1 hh
    obtain ⟨fp2, P2, S2, D2, st2, q2, m2, f2, p2⟩ := l.draws (A := X.A.in1) I g2 t2 hh
    exact wpAny_pyNext_zipD2_end (zsep2 D I hf m1 m2 f1 f2) D1 D2 hz hTI hTO st1 st2 le1 le2 hend fun h' tk hk => ⟨rfl, I.turnedL (t' := tk) (ch := [z, TI, TO, i1, i2]) (fun c o hb q =>
      hk c o (fun q' => hb (by simp [q'])) (fun q' => hb (by simp [q'])) (fun q' => hb (by simp [q'])) (fun q' => hb (by simp [q'])) q) hf⟩
  self := fun A i s Q E st h => wpAny_pyIter_zip st.1 h
theorem walk_zipK {K : PySem.W.Frag} (k l : SrcK) : Walk (ItzK K k l) (min k.n l.n) (fun H => k.gd K H ∧ l.gd K H) (YPair k.get l.get) :=
  ⟨fun i _ hi q => ⟨q, by omega, by omega⟩, fun _ q => ⟨q, by omega, by omega, by omega⟩, fun i H v H' _ q y => y⟩
def iZipK (K : PySem.W.Frag) (ta : TA) : TI := fun σ H R => ta σ H fun vs H1 => ∃ k l : SrcK, vs = [k.v, l.v] ∧ (k.gd K H1 ∧ l.gd K H1) ∧ R (ItzK K k l) H1
theorem zsep_new {N : Nat} : ZSep (N + 4) (N + 2) (N + 3) N (N + 1) :=
  ⟨Nat.ne_of_lt (by omega), Nat.ne_of_lt (by omega), Nat.ne_of_lt (by omega), Nat.ne_of_gt (by omega), Nat.ne_of_gt (by omega), Nat.ne_of_gt (by omega), Nat.ne_of_gt (by omega), Nat.ne_of_gt (by omega), Nat.ne_of_gt (by omega), Nat.ne_of_lt (by omega)⟩
theorem pi_zipK {X : Cx} {e e2 : Expr} {ta : TA} {p pos tpos : Pos} {elts : List Expr} {kk : Nat} (hg : Gl X "zip") (hm : X.mg "zip" = none) (ha : PA X [e, e2] ta)
    (hs : starEach [e, e2] X.env = (false, eval e X.env) :: starEach [e2] X.env := by rfl) (hpl : (backTo pos (starEach [e2] X.env)).any (·.1) = false := by rfl) :
    PI X (.Tuple elts kk tpos) (.Call (.Name "zip" p) [e, e2] [] pos) (iZipK X.K ta) := by
  refine ⟨fun pins s σ H R I h => ?_⟩
  refine Call_ (ld_blt I hg hm PyProof.Rows.boot_zip (PyProof.Rows.callWith_type1 (thn (ha.run pos pins s σ H _ I h) fun us s1 ⟨vs, H1, I1, r1, q1⟩ => ?_) hs hpl))
  obtain ⟨k, l, ex, ⟨g1, g2⟩, q⟩ := q1
  subst ex
  cases r1 with
  | cons r rr =>
    cases rr with
    | cons r' rr =>
      cases rr
      obtain ⟨o1, B1, Bg1, hB1, tn1⟩ := k.begins I1 g1 r
      obtain ⟨o2, B2, Bg2, hB2, tn2⟩ := l.begins I1 g2 r'
      refine zip_begins2 Bg1 Bg2 hB1 hB2 fun h' hz hTI hTO h1 h2 hsz hk => wpAny_pyIter_zip hz ?_
      have I2 : Inv X pins σ H1 { s1 with heap := h' } := I1.kept (t' := s1.toks) hk
      refine ⟨s1.heap.objs.size + 4, [s1.heap.objs.size + 4, s1.heap.objs.size + 2, s1.heap.objs.size + 3, s1.heap.objs.size, s1.heap.objs.size + 1], _, _, H1, rfl, I2, turn_zipK k l zsep_new, ⟨hz, hTI, ⟨_, _, hTO⟩, tn1 _ _ h1, tn2 _ _ h2⟩, fun c hcm => ?_, q⟩
      have e' : c = s1.heap.objs.size + 4 ∨ c = s1.heap.objs.size + 2 ∨ c = s1.heap.objs.size + 3 ∨ c = s1.heap.objs.size ∨ c = s1.heap.objs.size + 1 := by simpa using hcm
      have hle : s1.heap.objs.size ≤ c := by
        rcases e' with z | z | z | z | z
        · rw [z]; exact Nat.le_add_right _ _
        · rw [z]; exact Nat.le_add_right _ _
        · rw [z]; exact Nat.le_add_right _ _
        · rw [z]; exact Nat.le_refl _
        · rw [z]; exact Nat.le_add_right _ _
      exact I1.fpOk hle (I1.hok.fresh hle)
end KD

set_option maxRecDepth 100000
set_option maxHeartbeats 4000000
/-! Kd5: walks as data, built-ins by name, isinstance, in, methods of built-in types, raise. -/
namespace KD
open PySem PySem.Spec PyProof.Rows L2
/-! ### sources -/
def signs (z : Str) : List D := z.cps.toList.map fun c => .str ⟨#[c]⟩
/-- the items of a datum that is walked -/
def itemsOf : D → Option (List D)
  | .lst xs => some xs
  | .tup xs => some xs
  | .str z => some (signs z)
  | .scr ns => some (ns.map .int)
  | _ => none
/-- how a datum is walked: its source, and its items stand for the source's -/
structure SrcD (K : PySem.W.Frag) (G : Hp) (v : V) (k : SrcK) (xs : List D) : Prop where
  v : k.v = v
  gd : ∀ H, Ex G H → k.gd K H
  n : k.n = xs.length
  get : ∀ i w, k.get i = some w → ∃ d, xs[i]? = some d ∧ Rep K G w d
section
variable {K : PySem.W.Frag} {G : Hp}
theorem src_of {v : V} {d : D} {xs : List D} (r : Rep K G v d) (h : itemsOf d = some xs) : ∃ k, SrcD K G v k xs := by
  cases d with
  | lst ys =>
    simp only [itemsOf, Option.some.injEq] at h; subst h
    cases r with
    | @lst a vs _ h1 h2 => exact ⟨.lst a vs, rfl, fun H e => .of (e _ _ h1), h2.length, fun i w hw => h2.get' hw⟩
  | tup ys =>
    simp only [itemsOf, Option.some.injEq] at h; subst h
    cases r with
    | @tup a vs _ h1 h2 => exact ⟨.tup a vs, rfl, fun H e => (h1.mono e).sq, h2.length, fun i w hw => h2.get' hw⟩
  | str z =>
    simp only [itemsOf, Option.some.injEq] at h; subst h
    cases r
    refine ⟨.str z, rfl, fun H e => trivial, by simp [SrcK.n, signs], fun i w hw => ?_⟩
    have hw : z.cps[i]?.map (fun c => V.str ⟨#[c]⟩) = some w := hw
    cases e : z.cps[i]? with
    | none => rw [e] at hw; cases hw
    | some c =>
      rw [e] at hw; cases hw
      refine ⟨.str ⟨#[c]⟩, ?_, .str _⟩
      unfold signs
      rw [List.getElem?_map, Array.getElem?_toList, e]; rfl
  | scr ns =>
    simp only [itemsOf, Option.some.injEq] at h; subst h
    cases r with
    | @scr a _ h1 =>
      refine ⟨.lst a (ns.map V.int), rfl, fun H e => Evl.ex_l e h1, by simp [SrcK.n], fun i w hw => ?_⟩
      have hw : (ns.map V.int)[i]? = some w := hw
      rw [List.getElem?_map] at hw
      cases e : ns[i]? with
      | none => rw [e] at hw; cases hw
      | some c =>
        rw [e] at hw; cases hw
        exact ⟨.int c, by rw [List.getElem?_map, e]; rfl, .int _⟩
  | _ => simp [itemsOf] at h
theorem src_mono {G' : Hp} {v : V} {k : SrcK} {xs : List D} (s : SrcD K G v k xs) (e : Ex G G') : SrcD K G' v k xs :=
  ⟨s.v, fun H e' => s.gd H (e.trans e'), s.n, fun i w h => let ⟨d, h1, h2⟩ := s.get i w h; ⟨d, h1, h2.mono e⟩⟩
theorem wlk_pair {H : Hp} {S : Sto} {J : It} {n : Nat} {Gd : Hp → Prop} {f g : Nat → Option V} {xs : List D} (wk : Walk J n Gd (YPair f g)) (hn : n = xs.length) (hG : ∀ H, Ex G H → Gd H)
    (hx : ∀ i a b, f i = some a → g i = some b → ∃ x y, xs[i]? = some (.tup [x, y]) ∧ Rep K G a x ∧ Rep K G b y) : Wlk K J xs G H S Gd (YPair f g) := by
  subst hn
  refine ⟨wk, fun G2 H2 S2 k2 f2 => hG H2 (f2.g.trans k2.ext), fun i G2 H2 S2 H3 v hi hY k2 f2 => ?_⟩
  obtain ⟨T, a, b, rfl, hT, rfl, ha, hb⟩ := hY
  obtain ⟨x, y, hxy, ra, rb⟩ := hx i a b ha hb
  obtain ⟨k3, f3⟩ := k2.newG (o := .tup [a, b]) hT
  exact ⟨_, _, hxy, k3, f3, .tup (.inl upd_same) (.cons (ra.mono (f2.trans f3).g) (.cons (rb.mono (f2.trans f3).g) .nil))⟩
/-- the walk of one source -/
def SrcK.J (K : PySem.W.Frag) : SrcK → It
  | .lst a _ => Itl K a | .tup a _ => Itt K a | .str z => Its z
theorem SrcK.walk (k : SrcK) : Walk (k.J K) k.n (fun H => k.gd K H) (fun i H x H' => H' = H ∧ k.get i = some x) := by
  cases k with
  | lst a vs => exact walk_list
  | tup a vs => exact walk_tup
  | str z =>
    exact (walk_str (z := z)).mono (fun _ _ => trivial) fun i H x H' _ _ ⟨h1, c, h2, h3⟩ => ⟨h1, by show z.cps[i]?.map _ = _; rw [h2, h3]; rfl⟩
theorem wlk_src {H : Hp} {S : Sto} {v : V} {k : SrcK} {xs : List D} (s : SrcD K G v k xs) : Wlk K (k.J K) xs G H S (fun H => k.gd K H) (fun i H x H' => H' = H ∧ k.get i = some x) := by
  refine ⟨by rw [← s.n]; exact k.walk, fun G2 H2 S2 k2 f2 => s.gd H2 (f2.g.trans k2.ext), fun i G2 H2 S2 H3 w hi hY k2 f2 => ?_⟩
  obtain ⟨rfl, hw⟩ := hY
  obtain ⟨d, h1, h2⟩ := s.get i w hw
  exact ⟨G2, d, h1, k2, .refl _ _ _, h2.mono f2.g⟩
end
section
variable {X : Cx} {W : WX} {K : PySem.W.Frag} {a b c e : Expr} {ra rb rc : DTE} {pos : Pos} {tg : Expr}
/-! ### walks -/
theorem pi_src {e : Expr} {tl : TE} (hl : PE X e tl) : PI X tg e (fun σ H R => tl σ H fun x H1 => ∃ k : SrcK, x = k.v ∧ k.gd X.K H1 ∧ R (k.J X.K) H1) := by
  refine ⟨fun pins s σ H R I h => ?_⟩
  refine thn (hl.run pins s σ H _ I h) fun v s1 ⟨x, H1, I1, r1, k, hx, hq, q⟩ => ?_
  subst hx
  cases k with
  | lst a vs =>
    obtain rfl : v = .ref a := r1
    obtain ⟨its, rv, p, hz⟩ := I1.list hq
    refine wpAny_pyIter_list p.isList ?_
    refine ⟨s1.heap.objs.size, [s1.heap.objs.size], _, _, H1, rfl, I1.kept (t' := s1.toks) fun b o e => Heap.get?_push_of_some _ e, turn_list a _, ⟨_, Heap.get?_push_size _ rfl, rfl, rfl⟩, fun b hb => ?_, q⟩
    have e : b = s1.heap.objs.size := by simpa using hb
    subst e
    exact I1.fpOk (Nat.le_refl _) (I1.hok.fresh (Nat.le_refl _))
  | tup a vs =>
    obtain rfl : v = .ref a := r1
    obtain ⟨its, rv, p, hz⟩ := I1.tuple hq
    refine wpAny_pyIter_tuple (show s1.heap.IsTuple a its.toArray from p) ?_
    refine ⟨s1.heap.objs.size, [s1.heap.objs.size], _, _, H1, rfl, I1.kept (t' := s1.toks) fun b o e => Heap.get?_push_of_some _ e, turn_tuple a _, ⟨_, Heap.get?_push_size _ rfl, rfl, rfl⟩, fun b hb => ?_, q⟩
    have e : b = s1.heap.objs.size := by simpa using hb
    subst e
    exact I1.fpOk (Nat.le_refl _) (I1.hok.fresh (Nat.le_refl _))
  | str z =>
    obtain ⟨t, rfl⟩ := r1
    cases ha : z.cps.all (· < 128)
    · exact wpAny_pyIter_wide ha (pi_one (tk := s1.toks) I1 _ (turn_str _ z t "str_iterator" (.inr rfl)) ⟨_, Heap.get?_push_size _ rfl, rfl, rfl⟩ q)
    · exact wpAny_pyIter_ascii ha (pi_one (tk := s1.toks) I1 _ (turn_str _ z t "str_ascii_iterator" (.inl rfl)) ⟨_, Heap.get?_push_size _ rfl, rfl, rfl⟩ q)
def dItems (r : DTE) : DTI := fun E σ S Q => r E σ S fun d S' => match itemsOf d with
  | some xs => Q xs S'
  | none => False
theorem di_seq (h : DE X W e ra) : DI X W tg e (dItems ra) := by
  obtain ⟨t, p, q⟩ := h
  refine ⟨_, pi_src p, ⟨fun E G H S σV σ Q R w k s h f => ?_⟩⟩
  refine q.run E G H S σV σ _ _ w k s h fun d S' G' H' v hd k' g r => ?_
  split at hd
  · rename_i xs hx
    obtain ⟨kk, sk⟩ := src_of r hx
    exact ⟨kk, sk.v.symm, sk.gd _ k'.ext, f xs S' G' H' _ _ _ hd k' g (wlk_src sk)⟩
  · exact hd.elim
def rangeD (lo : Int) (n : Nat) : List D := (List.range n).map fun i => .int (lo + (i : Nat))
theorem wlk_range {G H : Hp} {S : Sto} (lo : Int) (n : Nat) : Wlk K (Itr lo n) (rangeD lo n) G H S (fun _ => True) (YFn fun i => .int (lo + i)) := by
  refine ⟨by have := walk_range (lo := lo) (n := n); simpa [rangeD] using this, fun _ _ _ _ _ => trivial, fun i G2 H2 S2 H3 v hi hY k2 f2 => ?_⟩
  obtain ⟨rfl, rfl⟩ := hY
  refine ⟨G2, .int (lo + i), ?_, k2, .refl _ _ _, .int _⟩
  have hi : i < n := by simpa [rangeD] using hi
  simp [rangeD, hi]
def dRange1 (r : DTA) : DTI := fun E σ S Q => r E σ S fun ds S' => match ds with
  | [.int j] => -(2 ^ 62) ≤ j ∧ j < 2 ^ 62 ∧ Q (rangeD 0 j.toNat) S'
  | _ => False
theorem di_range1 {r : DTA} {p : Pos} (hg : Gl X "range") (hm : X.mg "range" = none) (ha : DA X W [a] r) (hs : starEach [a] X.env = [(false, eval a X.env)] := by rfl) : DI X W tg (.Call (.Name "range" p) [a] [] pos) (dRange1 r) := by
  obtain ⟨t, p, q⟩ := ha
  refine ⟨_, pi_range1 hg hm p hs, ⟨fun E G H S σV σ Q R w k s h f => ?_⟩⟩
  refine q.run E G H S σV σ _ _ w k s h fun ds S' G' H' vs hd k' g r => ?_
  match ds, vs, r, hd with
  | [.int j], _, .cons (.int _) .nil, hd => exact ⟨j, rfl, hd.1, hd.2.1, f _ S' G' H' _ _ _ hd.2.2 k' g (wlk_range 0 j.toNat)⟩
def dRange2 (r : DTA) : DTI := fun E σ S Q => r E σ S fun ds S' => match ds with
  | [.int i, .int j] => (-(2 ^ 62) ≤ i ∧ i < 2 ^ 62 ∧ -(2 ^ 62) ≤ j ∧ j < 2 ^ 62) ∧ Q (rangeD i (j - i).toNat) S'
  | _ => False
theorem di_range2 {r : DTA} {p : Pos} (hg : Gl X "range") (hm : X.mg "range" = none) (ha : DA X W [a, b] r) (hs : starEach [a, b] X.env = [(false, eval a X.env), (false, eval b X.env)] := by rfl) (hs2 : starEach [b] X.env = [(false, eval b X.env)] := by rfl) :
    DI X W tg (.Call (.Name "range" p) [a, b] [] pos) (dRange2 r) := by
  obtain ⟨t, p, q⟩ := ha
  refine ⟨_, pi_range2 hg hm p hs hs2, ⟨fun E G H S σV σ Q R w k s h f => ?_⟩⟩
  refine q.run E G H S σV σ _ _ w k s h fun ds S' G' H' vs hd k' g r => ?_
  match ds, vs, r, hd with
  | [.int i, .int j], _, .cons (.int _) (.cons (.int _) .nil), hd => exact ⟨i, j, rfl, hd.1, f _ S' G' H' _ _ _ hd.2 k' g (wlk_range i _)⟩
def enumD (xs : List D) : List D := (List.range xs.length).map fun i => .tup [.int (i : Nat), xs.getD i .non]
theorem enumD_get {xs : List D} {i : Nat} {d : D} (h : xs[i]? = some d) : (enumD xs)[i]? = some (.tup [.int (i : Nat), d]) := by
  obtain ⟨hi, e⟩ := List.getElem?_eq_some_iff.mp h
  simp [enumD, hi, e]
def dEnum (r : DTA) : DTI := fun E σ S Q => r E σ S fun ds S' => match ds with
  | [d] => match itemsOf d with
    | some xs => Q (enumD xs) S'
    | none => False
  | _ => False
theorem di_enum {r : DTA} {p tpos : Pos} {elts : List Expr} {kk : Nat} (hg : Gl X "enumerate") (hm : X.mg "enumerate" = none) (ha : DA X W [e] r) (hs : starEach [e] X.env = [(false, eval e X.env)] := by rfl) :
    DI X W (.Tuple elts kk tpos) (.Call (.Name "enumerate" p) [e] [] pos) (dEnum r) := by
  obtain ⟨t, p, q⟩ := ha
  refine ⟨_, pi_enumK hg hm p hs, ⟨fun E G H S σV σ Q R w k s h f => ?_⟩⟩
  refine q.run E G H S σV σ _ _ w k s h fun ds S' G' H' vs hd k' g r => ?_
  match ds, vs, r, hd with
  | [d], _, .cons r1 .nil, hd =>
    simp only at hd
    split at hd
    · rename_i xs hx
      obtain ⟨kk, sk⟩ := src_of r1 hx
      refine ⟨kk, by rw [sk.v], sk.gd _ k'.ext, f _ S' G' H' _ _ _ hd k' g (wlk_pair (walk_enumK kk) (by rw [sk.n]; simp [enumD]) sk.gd fun i a b ha hb => ?_)⟩
      cases ha
      obtain ⟨d, h1, h2⟩ := sk.get i b hb
      exact ⟨_, d, enumD_get h1, .int _, h2⟩
    · exact hd.elim
def zipD : List D → List D → List D
  | x :: xs, y :: ys => .tup [x, y] :: zipD xs ys
  | _, _ => []
theorem zipD_len : ∀ xs ys : List D, (zipD xs ys).length = min xs.length ys.length
  | [], _ => by simp [zipD]
  | _ :: _, [] => by simp [zipD]
  | x :: xs, y :: ys => by simp [zipD, zipD_len xs ys]
theorem zipD_get : ∀ {xs ys : List D} {i : Nat} {x y : D}, xs[i]? = some x → ys[i]? = some y → (zipD xs ys)[i]? = some (.tup [x, y])
  | [], _, i, _, _, h, _ => by simp at h
  | _ :: _, [], i, _, _, _, h => by simp at h
  | a :: xs, b :: ys, 0, _, _, h, h' => by simp at h h'; subst h h'; rfl
  | a :: xs, b :: ys, i + 1, _, _, h, h' => by
    have := zipD_get (xs := xs) (ys := ys) (i := i) (by simpa using h) (by simpa using h')
    simpa [zipD] using this
def dZip (r : DTA) : DTI := fun E σ S Q => r E σ S fun ds S' => match ds with
  | [d, d2] => match itemsOf d, itemsOf d2 with
    | some xs, some ys => Q (zipD xs ys) S'
    | _, _ => False
  | _ => False
theorem di_zip {r : DTA} {p tpos : Pos} {elts : List Expr} {kk : Nat} {e2 : Expr} (hg : Gl X "zip") (hm : X.mg "zip" = none) (ha : DA X W [e, e2] r)
    (hs : starEach [e, e2] X.env = (false, eval e X.env) :: starEach [e2] X.env := by rfl) (hpl : (backTo pos (starEach [e2] X.env)).any (·.1) = false := by rfl) :
    DI X W (.Tuple elts kk tpos) (.Call (.Name "zip" p) [e, e2] [] pos) (dZip r) := by
  obtain ⟨t, p, q⟩ := ha
  refine ⟨_, pi_zipK hg hm p hs hpl, ⟨fun E G H S σV σ Q R w k s h f => ?_⟩⟩
  refine q.run E G H S σV σ _ _ w k s h fun ds S' G' H' vs hd k' g r => ?_
  match ds, vs, r, hd with
  | [d, d2], _, .cons r1 (.cons r2 .nil), hd =>
    simp only at hd
    split at hd
    · rename_i xs ys hx hy
      obtain ⟨k1, s1⟩ := src_of r1 hx
      obtain ⟨k2, s2⟩ := src_of r2 hy
      refine ⟨k1, k2, by rw [s1.v, s2.v], ⟨s1.gd _ k'.ext, s2.gd _ k'.ext⟩, f _ S' G' H' _ _ _ hd k' g (wlk_pair (walk_zipK k1 k2) (by rw [s1.n, s2.n, zipD_len]) (fun H e => ⟨s1.gd H e, s2.gd H e⟩) fun i a b ha hb => ?_)⟩
      obtain ⟨x, h1, h2⟩ := s1.get i a ha
      obtain ⟨y, h3, h4⟩ := s2.get i b hb
      exact ⟨x, y, zipD_get h1 h3, h2, h4⟩
    · exact hd.elim
/-! ### built-ins by name -/
def dLen : List D → Sto → DK → Prop := fun ds S Q => match ds with
  | [d] => match vw S d with
    | .lst xs => Q (.int xs.length) S
    | .tup xs => Q (.int xs.length) S
    | .scr ns => Q (.int ns.length) S
    | .str z => z.length ≤ sizeLine ∧ Q (.int z.length) S
    | _ => False
  | _ => False
theorem one_of {G : Hp} {vs : List V} {d : D} (r : RepL K G vs [d]) : ∃ v, vs = [v] ∧ Rep K G v d := by
  match vs, r with
  | [v], .cons h .nil => exact ⟨v, rfl, h⟩
theorem dc_len : DC X (.builtin "len") dLen := ⟨_, call_len, ⟨fun G H S xs vs Q P k r h p => by
  unfold dLen at h
  split at h
  · rename_i d
    obtain ⟨v, rfl, r1⟩ := one_of r
    split at h
    · rename_i xs hx
      obtain ⟨a1, us, e1, q1, l1⟩ := seq_of k r1 hx
      refine ⟨v, xs.length, rfl, ?_, p _ S G H _ h k (.refl _ _ _) (.int _)⟩
      rw [e1]; exact .inl ⟨us, .of q1, l1.length.symm⟩
    · rename_i xs hx
      obtain ⟨a1, us, e1, q1, l1, _⟩ := tup_of k r1 hx
      refine ⟨v, xs.length, rfl, ?_, p _ S G H _ h k (.refl _ _ _) (.int _)⟩
      rw [e1]; exact .inr ⟨us, q1.sq, l1.length.symm⟩
    · rename_i ns hx
      obtain ⟨a1, e1, q1⟩ := scr_of r1 hx
      refine ⟨v, ns.length, rfl, ?_, p _ S G H _ h k (.refl _ _ _) (.int _)⟩
      rw [e1]; exact .inl ⟨_, Evl.ex_l k.ext q1, by simp⟩
    · rename_i z hx
      refine ⟨v, z.length, rfl, ?_, p _ S G H _ h.2 k (.refl _ _ _) (.int _)⟩
      rw [str_of r1 hx]; exact ⟨h.1, rfl⟩
    · exact h.elim
  · exact h.elim⟩⟩
/-- list(x): data -/
def dList1 : List D → Sto → DK → Prop := fun ds S Q => match ds with
  | [d] => match vw S d with
    | .lst xs => Q (.lst xs) S
    | .tup xs => Q (.lst xs) S
    | _ => False
  | _ => False
theorem dc_list : DC X (.type "list") dList1 := ⟨_, call_list_of, ⟨fun G H S xs vs Q P k r h p => by
  unfold dList1 at h
  split at h
  · rename_i d
    obtain ⟨v, rfl, r1⟩ := one_of r
    split at h
    · rename_i xs hx
      obtain ⟨a1, us, e1, q1, l1⟩ := seq_of k r1 hx
      refine ⟨a1, us, by rw [e1], .inl (.of q1), fun n hn => ?_⟩
      obtain ⟨k2, f2⟩ := k.newG (o := .lst us) hn
      exact p _ S _ _ _ h k2 f2 (.lst upd_same (l1.mono f2.g))
    · rename_i xs hx
      obtain ⟨a1, us, e1, q1, l1, _⟩ := tup_of k r1 hx
      refine ⟨a1, us, by rw [e1], .inr q1.sq, fun n hn => ?_⟩
      obtain ⟨k2, f2⟩ := k.newG (o := .lst us) hn
      exact p _ S _ _ _ h k2 f2 (.lst upd_same (l1.mono f2.g))
    · exact h.elim
  · exact h.elim⟩⟩
/-- list(x): it will change -/
def dListM : List D → Sto → DK → Prop := fun ds S Q => match ds with
  | [d] => match vw S d with
    | .lst xs => ∀ p, S p = none → Q (.ref p) (put S p (.lst xs))
    | .tup xs => ∀ p, S p = none → Q (.ref p) (put S p (.lst xs))
    | _ => False
  | _ => False
theorem dc_listM : DC X (.type "list") dListM := ⟨_, call_list_of, ⟨fun G H S xs vs Q P k r h p => by
  unfold dListM at h
  split at h
  · rename_i d
    obtain ⟨v, rfl, r1⟩ := one_of r
    split at h
    · rename_i xs hx
      obtain ⟨a1, us, e1, q1, l1⟩ := seq_of k r1 hx
      refine ⟨a1, us, by rw [e1], .inl (.of q1), fun n hn => ?_⟩
      obtain ⟨k2, f2⟩ := k.newS (o := .lst us) (m := .lst xs) hn ⟨us, upd_same, l1⟩
      exact p _ _ _ _ _ (h n (k.freeS hn)) k2 f2 (.ref n)
    · rename_i xs hx
      obtain ⟨a1, us, e1, q1, l1, _⟩ := tup_of k r1 hx
      refine ⟨a1, us, by rw [e1], .inr q1.sq, fun n hn => ?_⟩
      obtain ⟨k2, f2⟩ := k.newS (o := .lst us) (m := .lst xs) hn ⟨us, upd_same, l1⟩
      exact p _ _ _ _ _ (h n (k.freeS hn)) k2 f2 (.ref n)
    · exact h.elim
  · exact h.elim⟩⟩
def dTuple1 : List D → Sto → DK → Prop := fun ds S Q => match ds with
  | [d] => match vw S d with
    | .lst xs => Q (.tup xs) S
    | .tup xs => Q (.tup xs) S
    | _ => False
  | _ => False
theorem dc_tuple : DC X (.type "tuple") dTuple1 := ⟨_, call_tuple_of, ⟨fun G H S xs vs Q P k r h p => by
  unfold dTuple1 at h
  split at h
  · rename_i d
    obtain ⟨v, rfl, r1⟩ := one_of r
    split at h
    · rename_i xs hx
      obtain ⟨a1, us, e1, q1, l1⟩ := seq_of k r1 hx
      refine ⟨a1, us, by rw [e1], .inl ⟨.of q1, fun n hn => ?_⟩⟩
      obtain ⟨k2, f2⟩ := k.newG (o := .tup us) hn
      exact p _ S _ _ _ h k2 f2 (.tup (.inl upd_same) (l1.mono f2.g))
    · rename_i xs hx
      obtain ⟨a1, us, e1, q1, l1, g1⟩ := tup_of k r1 hx
      exact ⟨a1, us, by rw [e1], .inr ⟨q1.sq, p _ S G H _ h k (.refl _ _ _) (.tup g1 l1)⟩⟩
    · exact h.elim
  · exact h.elim⟩⟩
def dInt1 : List D → Sto → DK → Prop := fun ds S Q => match ds with
  | [.int i] => Q (.int i) S
  | [.bl b] => Q (.int (if b then 1 else 0)) S
  | _ => False
theorem dc_int : DC X (.type "int") dInt1 := ⟨_, call_int1, ⟨fun G H S xs vs Q P k r h p => by
  unfold dInt1 at h
  split at h
  · obtain ⟨v, rfl, r1⟩ := one_of r
    cases r1
    exact .inl ⟨_, rfl, p _ S G H _ h k (.refl _ _ _) (.int _)⟩
  · obtain ⟨v, rfl, r1⟩ := one_of r
    cases r1
    exact .inr ⟨_, rfl, p _ S G H _ h k (.refl _ _ _) (.int _)⟩
  · exact h.elim⟩⟩
theorem two_of {G : Hp} {vs : List V} {d d' : D} (r : RepL K G vs [d, d']) : ∃ v v', vs = [v, v'] ∧ Rep K G v d ∧ Rep K G v' d' := by
  match vs, r with
  | [v, v'], .cons h (.cons h' .nil) => exact ⟨v, v', rfl, h, h'⟩
def dMax2 : List D → Sto → DK → Prop := fun ds S Q => match ds with
  | [.int i, .int j] => Q (.int (if j > i then j else i)) S
  | _ => False
theorem dc_max2 (hc : X.calm = true) : DC X (.builtin "max") dMax2 := ⟨_, call_max2 hc, ⟨fun G H S xs vs Q P k r h p => by
  unfold dMax2 at h
  split at h
  · obtain ⟨v, v', rfl, r1, r2⟩ := two_of r
    cases r1; cases r2
    exact ⟨_, _, rfl, p _ S G H _ h k (.refl _ _ _) (.int _)⟩
  · exact h.elim⟩⟩
def dMin2 : List D → Sto → DK → Prop := fun ds S Q => match ds with
  | [.int i, .int j] => Q (.int (if j < i then j else i)) S
  | _ => False
theorem dc_min2 (hc : X.calm = true) : DC X (.builtin "min") dMin2 := ⟨_, call_min2 hc, ⟨fun G H S xs vs Q P k r h p => by
  unfold dMin2 at h
  split at h
  · obtain ⟨v, v', rfl, r1, r2⟩ := two_of r
    cases r1; cases r2
    exact ⟨_, _, rfl, p _ S G H _ h k (.refl _ _ _) (.int _)⟩
  · exact h.elim⟩⟩
/-- a list of ints, of bools -/
def intsOf : List D → Option (List Int)
  | [] => some []
  | .int i :: r => (intsOf r).map (i :: ·)
  | _ => none
theorem ints_rep {G : Hp} : ∀ {ds : List D} {ns : List Int} {vs : List V}, RepL K G vs ds → intsOf ds = some ns → vs = ns.map V.int
  | [], ns, _, r, h => by simp only [intsOf, Option.some.injEq] at h; subst h; cases r; rfl
  | d :: ds, ns, _, r, h => by
    cases r with
    | cons r1 r2 =>
      cases d <;> simp only [intsOf, reduceCtorEq, Option.map_eq_some_iff] at h
      obtain ⟨ms, h1, rfl⟩ := h
      cases r1
      rw [ints_rep r2 h1]; rfl
def blsOf : List D → Option (List Bool)
  | [] => some []
  | .bl i :: r => (blsOf r).map (i :: ·)
  | _ => none
theorem bls_rep {G : Hp} : ∀ {ds : List D} {ns : List Bool} {vs : List V}, RepL K G vs ds → blsOf ds = some ns → vs = ns.map V.bl
  | [], ns, _, r, h => by simp only [blsOf, Option.some.injEq] at h; subst h; cases r; rfl
  | d :: ds, ns, _, r, h => by
    cases r with
    | cons r1 r2 =>
      cases d <;> simp only [blsOf, reduceCtorEq, Option.map_eq_some_iff] at h
      obtain ⟨ms, h1, rfl⟩ := h
      cases r1
      rw [bls_rep r2 h1]; rfl
theorem sumT_raw {prog : Program} {w : World} {A : Around} {E : Value → Shared → Prop} {s : Shared} {l : Addr} {its : List Value} {ns : List Int} {Q : Value → Shared → Prop} (hh : A.handled = none) (hl : s.heap.IsTuple l its.toArray) (hi : IntsAre its ns)
    (h : ∀ h' tk t', (∀ b o, s.heap.get? b = some o → h'.get? b = some o) → Q (.int ns.sum t') { s with heap := h', toks := tk }) : wpAny (model prog w) A (call (.builtin "sum") [.ref l]) Q E s := by
  obtain ⟨xs, e⟩ := hi.allInts.items
  have hn : numsOf its.toArray.toList = ns := by rw [show its.toArray.toList = its from rfl, hi.numsOf]
  rw [show its.toArray = intItems xs from e] at hl hn
  rw [nums_intItems] at hn
  refine PySem.W.ktm_sumG hh hl fun h' tk t' hk => ?_
  have := h h' tk t' hk
  rw [preSum_eq, List.take_of_length_le (by simp), hn]
  exact this
def rSumB (K : PySem.W.Frag) : List V → Hp → VK → Prop := fun vs H Q => ∃ (a : Addr) (ns : List Int), vs = [V.ref a] ∧ (SqL K H a (ns.map V.int) ∨ SqT K H a (ns.map V.int)) ∧ Q (.int ns.sum) H
theorem cr_sumB (hc : X.calm = true) : CallR X (.builtin "sum") (rSumB X.K) := by
  intro pins s σ H vs us Q I r h
  obtain ⟨a, ns, rfl, hs | hs, q⟩ := h
  · exact cr_sum hc pins s σ H _ us Q I r ⟨a, ns, rfl, hs, q⟩
  · obtain ⟨its, rv, hl, _⟩ := I.tuple hs
    rw [Vals.ref1 r]
    exact sumT_raw (I.ok.hd hc) hl rv.ints fun h' tk t' hk => ⟨.int _, H, I.kept hk, ⟨_, rfl⟩, q⟩
def dSum : List D → Sto → DK → Prop := fun ds S Q => match ds with
  | [d] => match vw S d with
    | .lst xs => ∃ ns, intsOf xs = some ns ∧ Q (.int ns.sum) S
    | .tup xs => ∃ ns, intsOf xs = some ns ∧ Q (.int ns.sum) S
    | _ => False
  | _ => False
theorem dc_sum (hc : X.calm = true) : DC X (.builtin "sum") dSum := ⟨_, cr_sumB hc, ⟨fun G H S xs vs Q P k r h p => by
  unfold dSum at h
  split at h
  · obtain ⟨v, rfl, r1⟩ := one_of r
    split at h
    · rename_i xs hx
      obtain ⟨ns, h1, h2⟩ := h
      obtain ⟨a1, us, e1, q1, l1⟩ := seq_of k r1 hx
      refine ⟨a1, ns, by rw [e1], .inl ?_, p _ S G H _ h2 k (.refl _ _ _) (.int _)⟩
      rw [← ints_rep l1 h1]; exact .of q1
    · rename_i xs hx
      obtain ⟨ns, h1, h2⟩ := h
      obtain ⟨a1, us, e1, q1, l1, _⟩ := tup_of k r1 hx
      refine ⟨a1, ns, by rw [e1], .inr ?_, p _ S G H _ h2 k (.refl _ _ _) (.int _)⟩
      rw [← ints_rep l1 h1]; exact q1.sq
    · exact h.elim
  · exact h.elim⟩⟩
def dAllB (f : List Bool → Bool) : List D → Sto → DK → Prop := fun ds S Q => match ds with
  | [d] => match vw S d with
    | .lst xs => ∃ ns, blsOf xs = some ns ∧ Q (.bl (f ns)) S
    | _ => False
  | _ => False
def dAll := dAllB fun bs => bs.all id
def dAny := dAllB fun bs => bs.any id
theorem dc_all (hc : X.calm = true) : DC X (.builtin "all") dAll := ⟨_, cr_all hc, ⟨fun G H S xs vs Q P k r h p => by
  unfold dAll dAllB at h
  split at h
  · obtain ⟨v, rfl, r1⟩ := one_of r
    split at h
    · rename_i xs hx
      obtain ⟨ns, h1, h2⟩ := h
      obtain ⟨a1, us, e1, q1, l1⟩ := seq_of k r1 hx
      refine ⟨a1, ns, by rw [e1], ?_, p _ S G H _ h2 k (.refl _ _ _) (.bl _)⟩
      rw [← bls_rep l1 h1]; exact .of q1
    · exact h.elim
  · exact h.elim⟩⟩
theorem dc_any (hc : X.calm = true) : DC X (.builtin "any") dAny := ⟨_, cr_any hc, ⟨fun G H S xs vs Q P k r h p => by
  unfold dAny dAllB at h
  split at h
  · obtain ⟨v, rfl, r1⟩ := one_of r
    split at h
    · rename_i xs hx
      obtain ⟨ns, h1, h2⟩ := h
      obtain ⟨a1, us, e1, q1, l1⟩ := seq_of k r1 hx
      refine ⟨a1, ns, by rw [e1], ?_, p _ S G H _ h2 k (.refl _ _ _) (.bl _)⟩
      rw [← bls_rep l1 h1]; exact .of q1
    · exact h.elim
  · exact h.elim⟩⟩
def dOrd : List D → Sto → DK → Prop := fun ds S Q => match ds with
  | [.str x] => x.length = 1 ∧ Q (.int (x.cps.getD 0 0 : Nat)) S
  | _ => False
theorem dc_ord : DC X (.builtin "ord") dOrd := ⟨_, call_ord, ⟨fun G H S xs vs Q P k r h p => by
  unfold dOrd at h
  split at h
  · obtain ⟨v, rfl, r1⟩ := one_of r
    cases r1
    exact ⟨_, rfl, h.1, p _ S G H _ h.2 k (.refl _ _ _) (.int _)⟩
  · exact h.elim⟩⟩
/-! ### isinstance -/
def tyN : D → Option String
  | .non => some "NoneType" | .bl _ => some "bool" | .int _ => some "int" | .str _ => some "str"
  | .lst _ => some "list" | .tup _ => some "tuple" | .dic _ => some "dict"
  | _ => none
theorem ty_vw {G H : Hp} {S : Sto} {v : V} {d : D} {n : String} (k : Wok K G H S) (r : Rep K G v d) (h : tyN (vw S d) = some n) : TyX K H v (.type n) := by
  unfold vw at h
  split at h
  · split at h
    · rename_i p _ xs hs
      simp only [tyN, Option.some.injEq] at h; subst h
      cases r
      obtain ⟨_, vs, h1, _⟩ := k.sto _ _ hs
      exact .base (.lst h1)
    · rename_i p _ xs hs
      simp only [tyN, Option.some.injEq] at h; subst h
      cases r
      obtain ⟨_, vs, h1, _⟩ := k.sto _ _ hs
      exact .base (.dK h1)
    · simp [tyN] at h
    · simp [tyN] at h
  · cases r with
    | non => simp only [tyN, Option.some.injEq] at h; subst h; exact .base .non
    | bl b => simp only [tyN, Option.some.injEq] at h; subst h; exact .base (.bl b)
    | int i => simp only [tyN, Option.some.injEq] at h; subst h; exact .base (.int i)
    | str x => simp only [tyN, Option.some.injEq] at h; subst h; exact .base (.str x)
    | ref a => simp [tyN] at h
    | ty n => simp [tyN] at h
    | fn n => simp [tyN] at h
    | lst h1 _ => simp only [tyN, Option.some.injEq] at h; subst h; exact .base (.lst (k.ext _ _ h1))
    | tup h1 _ =>
      simp only [tyN, Option.some.injEq] at h; subst h
      rcases h1 with h1 | ⟨o, _, _, h1, h2, _⟩
      · exact .base (.tup (k.ext _ _ h1))
      · exact .kTuple h1 h2
    | scr h1 => simp [tyN] at h
    | dic h1 _ => simp only [tyN, Option.some.injEq] at h; subst h; exact .fDict (k.ext _ _ h1)
    | dit h1 _ => simp [tyN] at h
/-- isinstance of the built-in types that data have -/
def isaT (a b : String) : Option Bool :=
  if b = "int" then some (a = "int" || a = "bool") else if b = "bool" then some (a = "bool") else if b = "str" then some (a = "str") else if b = "list" then some (a = "list")
  else if b = "tuple" then some (a = "tuple") else if b = "dict" then some (a = "dict") else none
theorem isa_kit {d : D} {a b : String} {r : Bool} (ha : tyN d = some a) (h : isaT a b = some r) : PySem.W.kitOne K (.type a) (.type b) = some r := by
  refine kit_ty ?_
  have key : ∀ a ∈ ["NoneType", "bool", "int", "str", "list", "tuple", "dict"], ∀ b ∈ ["int", "bool", "str", "list", "tuple", "dict"], kitB a b = isaT a b := by decide +kernel
  have h1 : a ∈ ["NoneType", "bool", "int", "str", "list", "tuple", "dict"] := by
    cases d <;> simp only [tyN, reduceCtorEq, Option.some.injEq] at ha <;> (subst ha; decide)
  have h2 : b ∈ ["int", "bool", "str", "list", "tuple", "dict"] := by
    unfold isaT at h
    repeat' split at h
    all_goals first | (rename_i e; subst e; decide) | (rename_i e _; subst e; decide) | (cases h)
  rw [key a h1 b h2]; exact h
def isaAny (a : String) : List D → Option Bool
  | [] => some false
  | .ty b :: r => match isaT a b, isaAny a r with
    | some x, some y => some (x || y)
    | _, _ => none
  | _ => none
def dIsi : List D → Sto → DK → Prop := fun ds S Q => match ds with
  | [d, .ty b] => match tyN (vw S d) with
    | some a => match isaT a b with
      | some r => Q (.bl r) S
      | none => False
    | none => False
  | [d, .tup cs] => match tyN (vw S d) with
    | some a => match isaAny a cs with
      | some r => Q (.bl r) S
      | none => False
    | none => False
  | _ => False
theorem isa_any {d : D} {a : String} (ha : tyN d = some a) {G : Hp} : ∀ {cs : List D} {r : Bool} {vs : List V}, RepL K G vs cs → isaAny a cs = some r → ∃ us, Paired ClsV vs us ∧ PySem.W.kitAny K (.type a) us = some r
  | [], r, _, rp, h => by
    simp only [isaAny, Option.some.injEq] at h; subst h; cases rp
    exact ⟨[], .nil, kitAny_nil⟩
  | c :: cs, r, _, rp, h => by
    cases rp with
    | cons r1 r2 =>
      cases c with
      | ty b =>
        simp only [isaAny] at h
        split at h
        · rename_i x y hx hy
          simp only [Option.some.injEq] at h; subst h
          cases r1
          obtain ⟨us, h1, h2⟩ := isa_any ha r2 hy
          refine ⟨_ :: us, .cons (.ty b) h1, kitAny_cons (isa_kit ha hx) (fun e => ?_) fun e => ?_⟩
          · subst e; simpa using h2
          · subst e; rfl
        · cases h
      | _ => simp [isaAny] at h
theorem dc_isi : DC X (.builtin "isinstance") dIsi := ⟨_, call_isi.or (call_isiT.or call_isiK), ⟨fun G H S xs vs Q P k r h p => by
  unfold dIsi at h
  split at h
  · obtain ⟨v, v', rfl, r1, r2⟩ := two_of r
    split at h
    · rename_i a ha
      split at h
      · rename_i b hb
        cases r2
        exact .inl ⟨_, _, _, _, b, rfl, .ty _, ty_vw k r1 ha, isa_kit ha hb, p _ S G H _ h k (.refl _ _ _) (.bl _)⟩
      · exact h.elim
    · exact h.elim
  · obtain ⟨v, v', rfl, r1, r2⟩ := two_of r
    split at h
    · rename_i a ha
      split at h
      · rename_i b hb
        cases r2 with
        | tup h1 h2 =>
          obtain ⟨us, q1, q2⟩ := isa_any ha h2 hb
          rcases h1 with h1 | h1
          · exact .inr (.inl ⟨v, _, _, _, us, b, rfl, k.ext _ _ h1, q1, ty_vw k r1 ha, q2, p _ S G H _ h k (.refl _ _ _) (.bl _)⟩)
          · obtain ⟨⟨c, dd, dt, sl⟩, its, n, h3, h4, h5, _, h6⟩ := h1
            simp only at h4 h5
            subst h4 h5
            have e := ClsV.all q1 h6
            refine .inr (.inr ⟨v, _, dd, us, n, sl, _, b, rfl, ?_, ty_vw k r1 ha, q2, p _ S G H _ h k (.refl _ _ _) (.bl _)⟩)
            rw [h3, ← e]
      · exact h.elim
    · exact h.elim
  · exact h.elim⟩⟩
theorem de_ty {x : Str} {n : String} {pos : Pos} (hg : Gl X x) (hm : X.mg x = none) (hv : bootBuiltins x = some (.type n)) (hn : x ≠ "__name__" := by decide) (hd : (x == ("__debug__" : Str)) = false := by decide) : DE X W (.Name x pos) (dC (.ty n)) :=
  ⟨_, pe_bltn (v := .ty n) hg hm hv rfl hn hd, ev_c fun _ => .ty n⟩
end
end KD

set_option maxRecDepth 100000
set_option maxHeartbeats 4000000
/-! Kd6: in, methods of built-in types, raise of own errors. -/
namespace KD
open PySem PySem.Spec PyProof.Rows L2
section
variable {X : Cx} {W : WX} {K : PySem.W.Frag} {a b c e : Expr} {ra rb rc : DTE} {pos : Pos} {tg : Expr}
/-! ### in -/
def flatD : D → Bool
  | .non => true | .bl _ => true | .int _ => true | .str _ => true
  | _ => false
def eqF : D → D → Bool
  | .non, .non => true
  | .bl a, .bl b => a == b
  | .bl a, .int b => (if a then 1 else 0) == b
  | .int a, .bl b => a == (if b then 1 else 0)
  | .int a, .int b => a == b
  | .str a, .str b => a == b
  | _, _ => false
theorem flat_rep {G : Hp} {v : V} {d : D} (r : Rep K G v d) (h : flatD d = true) : flatV v = true := by cases r <;> first | rfl | (simp [flatD] at h)
theorem eqF_rep {G : Hp} {v w : V} {d f : D} (r : Rep K G v d) (q : Rep K G w f) (h : flatD d = true) (h' : flatD f = true) : eqV v w = eqF d f := by
  cases r <;> first | (simp [flatD] at h; done) | (cases q <;> first | rfl | (simp [flatD] at h'))
theorem flat_all {G : Hp} : ∀ {vs : List V} {xs : List D}, RepL K G vs xs → xs.all flatD = true → vs.all flatV = true
  | [], _, r, h => by cases r; rfl
  | v :: vs, _, r, h => by
    cases r with
    | cons r1 r2 =>
      simp only [List.all_cons, Bool.and_eq_true] at h ⊢
      exact ⟨flat_rep r1 h.1, flat_all r2 h.2⟩
def inF (x : D) (xs : List D) : Bool := xs.any fun y => eqF y x
theorem inF_rep {G : Hp} {v : V} {x : D} (rx : Rep K G v x) (hx : flatD x = true) : ∀ {vs : List V} {xs : List D}, RepL K G vs xs → xs.all flatD = true → inV v vs = inF x xs
  | [], _, r, h => by cases r; rfl
  | w :: vs, _, r, h => by
    cases r with
    | cons r1 r2 =>
      simp only [List.all_cons, Bool.and_eq_true] at h
      show (eqV w v || inV v vs) = (eqF _ x || inF x _)
      rw [eqF_rep r1 rx h.1 hx, inF_rep rx hx r2 h.2]
def inStr (x z : Str) : Bool := !(Builtin.Str.occurrences z x 0 z.length 1).isEmpty
def dInB (neg : Bool) : D → D → Sto → DK → Prop := fun x y S Q => match vw S y with
  | .lst xs => flatD x = true ∧ xs.all flatD = true ∧ Q (.bl (if neg then !inF x xs else inF x xs)) S
  | .tup xs => flatD x = true ∧ xs.all flatD = true ∧ Q (.bl (if neg then !inF x xs else inF x xs)) S
  | .str z => match x with
    | .str s => Q (.bl (if neg then !inStr s z else inStr s z)) S
    | _ => False
  | _ => False
def dIn := dInB false
def dNotIn := dInB true
theorem rv_in {neg : Bool} {r : R2} (h1 : ∀ x y H Q, rIn X.K neg x y H Q → r x y H Q) (h2 : ∀ i j H (Q : VK), Q (.bl (if neg then !inStr i j else inStr i j)) H → r (.str i) (.str j) H Q) : RvD X.K r (dInB neg) := ⟨fun G H S x y v u Q P k r1 r2 h p => by
  unfold dInB at h
  split at h
  · rename_i xs hx
    obtain ⟨a1, us, e1, q1, l1⟩ := seq_of k r2 hx
    refine h1 _ _ _ _ ⟨a1, us, e1, .inl (.of q1), flat_rep r1 h.1, flat_all l1 h.2.1, ?_⟩
    rw [inF_rep r1 h.1 l1 h.2.1]
    exact p _ S G H _ h.2.2 k (.refl _ _ _) (.bl _)
  · rename_i xs hx
    obtain ⟨a1, us, e1, q1, l1, _⟩ := tup_of k r2 hx
    refine h1 _ _ _ _ ⟨a1, us, e1, .inr q1.sq, flat_rep r1 h.1, flat_all l1 h.2.1, ?_⟩
    rw [inF_rep r1 h.1 l1 h.2.1]
    exact p _ S G H _ h.2.2 k (.refl _ _ _) (.bl _)
  · rename_i z hz
    split at h
    · cases r1
      rw [str_of r2 hz]
      exact h2 _ _ _ _ (p _ S G H _ h k (.refl _ _ _) (.bl _))
    · exact h.elim
  · exact h.elim⟩
theorem dop_in : DOp X (compareOp .In) dIn := ⟨_, op_in_seq.or op_in_str, rv_in (fun _ _ _ _ h => .inl h) fun i j H Q h => .inr ⟨i, j, rfl, rfl, h⟩⟩
theorem dop_notIn : DOp X (compareOp .NotIn) dNotIn := ⟨_, op_notIn_seq.or op_notIn_str, rv_in (fun _ _ _ _ h => .inl h) fun i j H Q h => .inr ⟨i, j, rfl, rfl, by simpa [inStr] using h⟩⟩
/-! ### methods of built-in types -/
structure RmD (K : PySem.W.Frag) (r : V → List V → Hp → VK → Prop) (q : D → List D → Sto → DK → Prop) : Prop where
  run : ∀ (G H : Hp) (S : Sto) (x : D) (ys : List D) (v : V) (vs : List V) (Q : DK) (P : VK), Wok K G H S → Rep K G v x → RepL K G vs ys → q x ys S Q →
    (∀ d S' G' H' z, Q d S' → Wok K G' H' S' → Fr G H S G' H' S' → Rep K G' z d → P z H') → r v vs H P
def DM1 (X : Cx) (id : String) (q : D → List D → Sto → DK → Prop) : Prop := ∃ r, MtR X id r ∧ RmD X.K r q
def isTy (T : String) : D → Bool
  | .lst _ => T == "list"
  | .str _ => T == "str"
  | _ => false
theorem tyV_of {G H : Hp} {S : Sto} {v : V} {d : D} {T : String} (k : Wok K G H S) (r : Rep K G v d) (h : isTy T (vw S d) = true) : tyV K T v H := by
  cases e : vw S d with
  | lst xs =>
    rw [e] at h
    obtain ⟨a1, us, e1, q1, l1⟩ := seq_of k r e
    rw [e1]
    exact .inl ⟨by simpa [isTy] using h, us, .of q1⟩
  | str z =>
    rw [e] at h
    rw [str_of r e]
    show T = "str"
    simpa [isTy] using h
  | _ => rw [e] at h; simp [isTy] at h
def dBM (T : String) (q : D → List D → Sto → DK → Prop) (ro : DTE) (r : DTA) : DTE := fun E σ S Q => ro E σ S fun x S1 => isTy T (vw S1 x) = true ∧ r E σ S1 fun ys S2 => q x ys S2 Q
def dBM0 (T : String) (q : D → List D → Sto → DK → Prop) (ro : DTE) : DTE := fun E σ S Q => ro E σ S fun x S1 => isTy T (vw S1 x) = true ∧ q x [] S1 Q
theorem de_bm {o : Expr} {es : List Expr} {ro : DTE} {r : DTA} {q : D → List D → Sto → DK → Prop} {name : Str} {apos cpos : Pos} {T id : String} (pa : PlainAttrs T) (slot : Slot T name id) (hty : typeOf (.builtin id) = pure (.type "method_descriptor")) (hm : DM1 X id q) (ho : DE X W o ro) (ha : DA X W (e :: es) r)
    (hbase : attributeBase o name X.env (eval o X.env) = eval o X.env := by rfl)
    (hfew : ((backTo cpos (starEach (e :: es) X.env)).all (fun x => !x.1) && (backToKw cpos (keywordEach [] X.env)).all (fun x => x.1.isSome)
      && decide ((e :: es).length + ([] : List Keyword).length + (if ([] : List Keyword).isEmpty then 0 else 1) < 30)) = true := by rfl)
    (hline : (apos.endLine == cpos.line) = true := by rfl) (hs : starEach (e :: es) X.env = (false, eval e X.env) :: starEach es X.env := by rfl) (hplain : (backTo cpos (starEach es X.env)).any (·.1) = false := by rfl) :
    DE X W (.Call (.Attribute o name apos) (e :: es) [] cpos) (dBM T q ro r) := by
  obtain ⟨to, po, eo⟩ := ho
  obtain ⟨t, p, ea⟩ := ha
  obtain ⟨rm, m, em⟩ := hm
  refine ⟨_, pe_bm pa slot hty m po p hbase hfew hline hs hplain, ⟨fun E G H S σV σ Q P w k s h f => ?_⟩⟩
  refine eo.run E G H S σV σ _ _ w k s h fun x S1 G1 H1 v h1 k1 f1 r1 => ⟨tyV_of k1 r1 h1.1, ?_⟩
  refine ea.run E G1 H1 S1 σV σ _ _ (w.mono f1) k1 (s.mono f1.g) h1.2 fun ys S2 G2 H2 vs h2 k2 f2 r2 => ?_
  exact em.run G2 H2 S2 x ys v vs Q P k2 (r1.mono f2.g) r2 h2 fun d S3 G3 H3 z h3 k3 f3 r3 => f d S3 G3 H3 z h3 k3 ((f1.trans f2).trans f3) r3
theorem de_bm0 {o : Expr} {ro : DTE} {q : D → List D → Sto → DK → Prop} {name : Str} {apos cpos : Pos} {T id : String} (pa : PlainAttrs T) (slot : Slot T name id) (hty : typeOf (.builtin id) = pure (.type "method_descriptor")) (hm : DM1 X id q) (ho : DE X W o ro)
    (hbase : attributeBase o name X.env (eval o X.env) = eval o X.env := by rfl) (hline : (apos.endLine == cpos.line) = true := by rfl) : DE X W (.Call (.Attribute o name apos) [] [] cpos) (dBM0 T q ro) := by
  obtain ⟨to, po, eo⟩ := ho
  obtain ⟨rm, m, em⟩ := hm
  refine ⟨_, pe_bm0 pa slot hty m po hbase hline, ⟨fun E G H S σV σ Q P w k s h f => ?_⟩⟩
  refine eo.run E G H S σV σ _ _ w k s h fun x S1 G1 H1 v h1 k1 f1 r1 => ⟨tyV_of k1 r1 h1.1, ?_⟩
  exact em.run G1 H1 S1 x [] v [] Q P k1 r1 .nil h1.2 fun d S3 G3 H3 z h3 k3 f3 r3 => f d S3 G3 H3 z h3 k3 (f1.trans f3) r3
def dAppend : D → List D → Sto → DK → Prop := fun x ys S Q => match x, ys with
  | .ref p, [y] => ∃ xs, S p = some (.lst xs) ∧ xs.length < sizeLine ∧ Q .non (put S p (.lst (xs ++ [y])))
  | _, _ => False
theorem dm_append : DM1 X "list.append" dAppend := ⟨_, mt_append, ⟨fun G H S x ys v vs Q P k r1 r2 h p => by
  unfold dAppend at h
  split at h
  · obtain ⟨xs, h1, h2, h3⟩ := h
    obtain ⟨y, rfl, ry⟩ := one_of r2
    cases r1
    obtain ⟨_, us, q1, q2⟩ := k.sto _ _ h1
    refine ⟨_, us, y, rfl, rfl, q1, by rw [q2.length]; exact h2, ?_⟩
    obtain ⟨k2, f2⟩ := k.chS (o := .lst (us ++ [y])) (m := .lst (xs ++ [_])) h1 ⟨_, upd_same, q2.append (.one ry)⟩
    exact p _ _ _ _ _ h3 k2 f2 .non
  · exact h.elim⟩⟩
/-- l.append(e) as the generator writes it -/
theorem de_append {o : Expr} {ro re : DTE} {apos cpos : Pos} (ho : DE X W o ro) (he : DE X W e re) (hbase : attributeBase o "append" X.env (eval o X.env) = eval o X.env := by rfl)
    (hfew : ((backTo cpos (starEach [e] X.env)).all (fun x => !x.1) && (backToKw cpos (keywordEach [] X.env)).all (fun x => x.1.isSome)
      && decide (([e] : List Expr).length + ([] : List Keyword).length + (if ([] : List Keyword).isEmpty then 0 else 1) < 30)) = true := by rfl)
    (hline : (apos.endLine == cpos.line) = true := by rfl) (hs : starEach [e] X.env = (false, eval e X.env) :: starEach [] X.env := by rfl) (hplain : (backTo cpos (starEach [] X.env)).any (·.1) = false := by rfl) :
    DE X W (.Call (.Attribute o "append" apos) [e] [] cpos) (dBM "list" dAppend ro (dCons re dNil)) :=
  de_bm PySem.F.plainAttrs_list PySem.F.slot_list_append PySem.F.type_list_append dm_append ho (da_cons he da_nil hs) hbase hfew hline hs hplain
end
/-! ### own errors -/
/-- what the module tells of an own error's class C whose __init__ at fI stores its arguments under the names ns -/
def spInit1 (K : PySem.W.Frag) (n : Str) : Sp := fun vs H Q _ => ∃ (a C : Addr) (y : V), vs = [.ref a, y] ∧ OexC K C ∧ PySem.W.findIn K (.ref C) n = some none ∧ H a = some (exo a C none) ∧ ∀ d, H d = none → d ≠ a → Q .non (upd (upd H d (exd d [(n, y)])) a (exo a C (some d)))
structure ErrC (K : PySem.W.Frag) (mg : Str → Option Value) (P : Program) (w : World) (base : Heap) (x : Str) (C : Addr) (n : Str) (ds : List Value) (dvs : List V) : Prop where
  gC : mg x = some (.ref C)
  oex : OexC K C
  hno : PySem.W.findIn K (.ref C) n = some none
  fn : ∃ (fI : Addr) (fd : FuncData) (ps : List Str), PySem.W.findIn K (.ref C) "__init__" = some (some (.ref fI)) ∧ PySem.W.typeIn K (.ref fI) = some (.type "function") ∧ FnOk P w K mg base (L2.CX P w) 1 fI fd ps (spInit1 K n) ∧ Binds K fd ps ds ∧ Vals dvs ds
section
variable {X : Cx} {W : WX} {K : PySem.W.Frag} {e : Expr} {re : DTE} {pos : Pos}
def dRaise1 (C : Addr) (n : Str) (r : DTA) : DTS := fun Z σ S => r (exOf Z σ) σ S fun ds S' => match ds with
  | [y] => ∀ d, S' d = none → Z.ex C d σ (put S' d (.xd [(n, y)]))
  | _ => False
/-- raise C(e) -/
theorem ds_raise1 {x : Str} {C : Addr} {n : Str} {p p2 : Pos} {r : DTA} (hc : X.calm = true) (tk : Takes X W) (E : ErrC X.K X.mg X.prog X.w X.base x C n [] []) (hr : Room 2 X.A) (hg : Gl X x) (ha : DA X W [e] r) (hdb : (x == ("__debug__" : Str)) = false := by decide)
    (he : starEach [e] X.env = (false, eval e X.env) :: starEach [] X.env := by rfl) (hpl : (backTo pos (starEach [] X.env)).any (·.1) = false := by rfl) :
    DS X W (.Raise (some (.Call (.Name x p) [e] [] pos)) none p2) (dRaise1 C n r) := by
  obtain ⟨t, pa, ea⟩ := ha
  obtain ⟨fI, fd, ps, h1, h2, F1, hb, hv⟩ := E.fn
  cases hv
  refine ⟨_, ps_raise hc tk (pmk_oex E.oex h1 h2 F1 hr hb .nil passL hg E.gC pa hdb he hpl), ⟨fun Dd G H S σV σ Dh eo k s h => ?_⟩⟩
  refine ea.run _ G H S σV σ _ _ (eo.wok s) k s h fun ds S' G' H' vs hd k' f r => ?_
  match ds, vs, r, hd with
  | [y], [v], .cons r1 .nil, hd =>
    refine ⟨by show 1 ≤ 1000; decide, fun a ha => ?_⟩
    refine ⟨a, C, v, rfl, E.oex, E.hno, upd_same, fun d hd' hne => ⟨rfl, d, [(n, v)], upd_same, ?_, ?_, ?_⟩⟩
    · rw [upd_ne hne, upd_same]
    · rw [upd_ne hne] at hd'; exact hd'
    · rw [upd_ne hne] at hd'
      have e : upd (del (upd (upd (upd H' a (exo a C none)) d (exd d [(n, v)])) a (exo a C (some d))) a) d (.xd [(n, v)]) = upd H' d (.xd [(n, v)]) := by
        funext b
        by_cases h1 : b = d
        · subst h1; rw [upd_same, upd_same]
        · rw [upd_ne h1, upd_ne h1]
          by_cases h2 : b = a
          · subst h2; rw [del_same, ha]
          · rw [del_ne h2, upd_ne h2, upd_ne h1, upd_ne h2]
      rw [e]
      obtain ⟨k2, f2⟩ := k'.newS (o := .xd [(n, v)]) (m := .xd [(n, y)]) hd' ⟨_, upd_same, .cons ⟨rfl, r1⟩ .nil⟩
      exact eo.ex C d σ _ _ _ σV (hd d (k'.freeS hd')) k2 (f.trans f2) (s.mono (f.trans f2).g)
end
end KD

set_option maxRecDepth 100000
set_option maxHeartbeats 4000000
/-! Kd7: joined operators, calls of defs by what they have, own errors' __init__, a law's end. -/
namespace KD
open PySem PySem.Spec PyProof.Rows L2
section
variable {X : Cx} {W : WX} {K : PySem.W.Frag} {a b c e : Expr} {ra rb rc : DTE} {pos : Pos} {tg : Expr}
/-! ### * of anything, - of one, == of anything -/
def dMul : D → D → Sto → DK → Prop := fun x y S Q => match vw S x, y with
  | .int i, .int j => IntMulOk i j ∧ Q (.int (i * j)) S
  | .lst xs, .int k => -(2 ^ 63) ≤ k ∧ k < 2 ^ 63 ∧ xs.length * k.toNat ≤ sizeLine ∧ Q (.lst (List.replicate k.toNat xs).flatten) S
  | .tup xs, .int k => xs ≠ [] ∧ 2 ≤ k ∧ k ≤ 1000 ∧ xs.length ≤ 1000 ∧ Q (.tup (List.replicate k.toNat xs).flatten) S
  | _, _ => False
theorem rvd_or {r r' : R2} {q q' q2 : D → D → Sto → DK → Prop} (h : RvD K r q) (h' : RvD K r' q') (hq : ∀ x y S Q, q2 x y S Q → q x y S Q ∨ q' x y S Q) : RvD K (fun x y H Q => r x y H Q ∨ r' x y H Q) q2 := ⟨fun G H S x y v u Q P k r1 r2 z p => by
  rcases hq x y S Q z with z | z
  · exact .inl (h.run G H S x y v u Q P k r1 r2 z p)
  · exact .inr (h'.run G H S x y v u Q P k r1 r2 z p)⟩
theorem DOp.or {f : Value → Value → Sem Value} {q q' q2 : D → D → Sto → DK → Prop} (h : DOp X f q) (h' : DOp X f q') (hq : ∀ x y S Q, q2 x y S Q → q x y S Q ∨ q' x y S Q) : DOp X f q2 := by
  obtain ⟨r, o, e⟩ := h
  obtain ⟨r', o', e'⟩ := h'
  exact ⟨_, o.or o', rvd_or e e' hq⟩
theorem vw_int {S : Sto} {d : D} {i : Int} (h : vw S d = .int i) : d = .int i := by
  unfold vw at h
  split at h
  · split at h <;> cases h
  · exact h
theorem dop_mul : DOp X (binaryOp .Mult) dMul := dop_mulI.or dop_rep fun x y S Q h => by
  unfold dMul at h
  split at h
  · rename_i h1
    rw [vw_int h1]
    exact .inl h
  · rename_i h1
    refine .inr ?_
    unfold dRep
    rw [h1]; exact h
  · rename_i h1
    refine .inr ?_
    unfold dRep
    rw [h1]; exact h
  · exact h.elim
def dUn (g : Int → Int) (ra : DTE) : DTE := fun E σ S Q => ra E σ S fun d S' => match d with
  | .int i => Q (.int (g i)) S'
  | _ => False
theorem de_neg (ha : DE X W a ra) : DE X W (.UnaryOp .USub a pos) (dUn (fun i => -i) ra) := by
  obtain ⟨t, p, q⟩ := ha
  refine ⟨_, pe_un un_neg p, ⟨fun E G H S σV σ Q P w k s h f => q.run E G H S σV σ _ _ w k s h fun d S' G' H' v hd k' g r => ?_⟩⟩
  cases d with
  | int i => cases r; exact ⟨i, rfl, f _ S' G' H' _ hd k' g (.int _)⟩
  | _ => exact hd.elim
theorem flat_py {d : D} (h : flatD d = true) : ∃ p, toPy d = some p ∧ SeqAt.EqAt = SeqAt.EqAt := by cases d <;> first | (simp [flatD] at h; done) | exact ⟨_, rfl, rfl⟩
/-- == of lists that lengths decide -/
def dEqLen (neg : Bool) : D → D → Sto → DK → Prop := fun x y S Q => ∃ xs ys, vw S x = .lst xs ∧ vw S y = .lst ys ∧ ((xs.length ≠ ys.length ∧ Q (.bl neg) S) ∨ (xs = [] ∧ ys = [] ∧ Q (.bl (!neg)) S))
def rEqLen (K : PySem.W.Frag) (neg : Bool) : R2 := fun x y H Q => ∃ a b vs us, x = .ref a ∧ y = .ref b ∧ SqL K H a vs ∧ SqL K H b us ∧ ((vs.length ≠ us.length ∧ Q (.bl neg) H) ∨ (vs = [] ∧ us = [] ∧ Q (.bl (!neg)) H))
theorem rv_eqLen {neg : Bool} : RvD K (rEqLen K neg) (dEqLen neg) := ⟨fun G H S x y v u Q P k r1 r2 h p => by
  obtain ⟨xs, ys, h1, h2, h3⟩ := h
  obtain ⟨a, vs, rfl, q1, l1⟩ := seq_of k r1 h1
  obtain ⟨b, us, rfl, q2, l2⟩ := seq_of k r2 h2
  refine ⟨a, b, vs, us, rfl, rfl, .of q1, .of q2, ?_⟩
  rcases h3 with ⟨e, q⟩ | ⟨e1, e2, q⟩
  · exact .inl ⟨by rw [l1.length, l2.length]; exact e, p _ S G H _ q k (.refl _ _ _) (.bl _)⟩
  · subst e1 e2
    cases l1; cases l2
    exact .inr ⟨rfl, rfl, p _ S G H _ q k (.refl _ _ _) (.bl _)⟩⟩
theorem dop_eqLen (hu : X.A.units + 64 < cLine) : DOp X (compareOp .Eq) (dEqLen false) := ⟨_, fun pins s σ H x y v u Q I rx ry h => by
  obtain ⟨a, b, vs, us, rfl, rfl, h1, h2, h3⟩ := h
  obtain rfl : v = Value.ref a := rx
  obtain rfl : u = Value.ref b := ry
  obtain ⟨its, rv, pl, hz⟩ := I.list h1
  obtain ⟨its2, rv2, pl2, hz2⟩ := I.list h2
  rcases h3 with ⟨e, q⟩ | ⟨e1, e2, q⟩
  · exact SeqAt.eq_list_lengthsAt pl.isList pl2.isList (by simp only [List.size_toArray, bne_iff_ne, ne_eq]; rw [← rv.length, ← rv2.length]; exact e) (by omega) ⟨.bl false, H, I, rfl, q⟩
  · subst e1 e2
    cases rv; cases rv2
    exact SeqAt.eq_listAt (e := fun _ => true) pl.isList pl2.isList rfl (by omega) (fun j h1 => absurd h1 (by simp)) ⟨.bl true, H, I, rfl, q⟩, rv_eqLen⟩
theorem dop_neLen (hu : X.A.units + 64 < cLine) : DOp X (compareOp .NotEq) (dEqLen true) := ⟨_, fun pins s σ H x y v u Q I rx ry h => by
  obtain ⟨a, b, vs, us, rfl, rfl, h1, h2, h3⟩ := h
  obtain rfl : v = Value.ref a := rx
  obtain rfl : u = Value.ref b := ry
  obtain ⟨its, rv, pl, hz⟩ := I.list h1
  obtain ⟨its2, rv2, pl2, hz2⟩ := I.list h2
  rcases h3 with ⟨e, q⟩ | ⟨e1, e2, q⟩
  · exact SeqAt.RcNeAt.lists_lengths pl.isList pl2.isList (by simp only [List.size_toArray, bne_iff_ne, ne_eq]; rw [← rv.length, ← rv2.length]; exact e) (by omega) _ _ _ _ ⟨.bl true, H, I, rfl, q⟩
  · subst e1 e2
    cases rv; cases rv2
    exact SeqAt.RcNeAt.lists (e := fun _ => true) pl.isList pl2.isList rfl (by omega) (fun j h1 => absurd h1 (by simp)) _ _ _ _ ⟨.bl false, H, I, rfl, q⟩, rv_eqLen⟩
/-- == of scalars by eqF, of others by data -/
def dEqG : D → D → Sto → DK → Prop := fun x y S Q => match flatD x, flatD y with
  | true, true => Q (.bl (eqF x y)) S
  | _, _ => dEq x y S Q ∨ dEqLen false x y S Q
def dNeG : D → D → Sto → DK → Prop := fun x y S Q => match flatD x, flatD y with
  | true, true => Q (.bl (!eqF x y)) S
  | _, _ => dNe x y S Q ∨ dEqLen true x y S Q
theorem eqF_sc {x y : D} {s t : Sc} (hx : scOf x = some s) (hy : scOf y = some t) (h : scal s.v t.v = true) : decide (s = t) = eqF x y := by
  cases x <;> simp only [scOf, reduceCtorEq, Option.some.injEq] at hx <;> cases y <;> simp only [scOf, reduceCtorEq, Option.some.injEq] at hy <;> subst hx hy <;> first | (simp [Sc.v, scal] at h; done) | (rw [Bool.eq_iff_iff]; simp [eqF]; done)
theorem flat_sc {x : D} (h : flatD x = true) : ∃ s, scOf x = some s := by cases x <;> first | exact ⟨_, rfl⟩ | (simp [flatD] at h)
theorem eqF_bi {x y : D} {s t : Sc} (hx : scOf x = some s) (hy : scOf y = some t) (h : ¬ scal s.v t.v = true) : ∃ p q, toPy x = some p ∧ toPy y = some q ∧ SeqAt.shaped p = true ∧ SeqAt.shaped q = true ∧ PyData.eqv p q = eqF x y := by
  cases x <;> simp only [scOf, reduceCtorEq, Option.some.injEq] at hx <;> cases y <;> simp only [scOf, reduceCtorEq, Option.some.injEq] at hy <;> subst hx hy <;> first
    | (simp [Sc.v, scal] at h; done)
    | exact ⟨_, _, rfl, rfl, by simp [SeqAt.shaped, PyData.canLay0, PyData.depth], by simp [SeqAt.shaped, PyData.canLay0, PyData.depth], rfl⟩
theorem vw_flat {S : Sto} {x : D} (h : flatD x = true) : vw S x = x := by cases x <;> first | rfl | (simp [flatD] at h)
theorem dop_eqG (hu : X.A.units + 64 < cLine) : DOp X (compareOp .Eq) dEqG := (dop_eqS).or ((dop_eq hu).or (dop_eqLen hu) (q2 := fun x y S Q => dEq x y S Q ∨ dEqLen false x y S Q) fun _ _ _ _ h => h) fun x y S Q h => by
  unfold dEqG at h
  split at h
  · rename_i h1 h2
    obtain ⟨s, hs⟩ := flat_sc h1
    obtain ⟨t, ht⟩ := flat_sc h2
    by_cases c : scal s.v t.v = true
    · refine .inl ?_
      unfold dEqS
      rw [hs, ht]
      refine ⟨c, ?_⟩
      rw [eqF_sc hs ht c]; exact h
    · refine .inr (.inl ?_)
      obtain ⟨p, q, a1, a2, a3, a4, a5⟩ := eqF_bi hs ht c
      exact ⟨p, q, by rw [vw_flat h1]; exact a1, by rw [vw_flat h2]; exact a2, a3, a4, by rw [a5]; exact h⟩
  · exact .inr h
theorem dop_neG (hu : X.A.units + 64 < cLine) : DOp X (compareOp .NotEq) dNeG := (dop_neS).or ((dop_ne hu).or (dop_neLen hu) (q2 := fun x y S Q => dNe x y S Q ∨ dEqLen true x y S Q) fun _ _ _ _ h => h) fun x y S Q h => by
  unfold dNeG at h
  split at h
  · rename_i h1 h2
    obtain ⟨s, hs⟩ := flat_sc h1
    obtain ⟨t, ht⟩ := flat_sc h2
    by_cases c : scal s.v t.v = true
    · refine .inl ?_
      unfold dNeS
      rw [hs, ht]
      refine ⟨c, ?_⟩
      rw [eqF_sc hs ht c]; exact h
    · refine .inr (.inl ?_)
      obtain ⟨p, q, a1, a2, a3, a4, a5⟩ := eqF_bi hs ht c
      exact ⟨p, q, by rw [vw_flat h1]; exact a1, by rw [vw_flat h2]; exact a2, a3, a4, by rw [a5]; exact h⟩
  · exact .inr h
/-! ### a chain as a test -/
theorem ev_chain {ta tb tc : TE} {r r' : R2} {q q' : D → D → Sto → DK → Prop} (ea : EvD K W ta ra) (eb : EvD K W tb rb) (ec : EvD K W tc rc) (eo : RvD K r q) (eo' : RvD K r' q') : EvD K W (tChain r r' ta tb tc) (dChain q q' ra rb rc) := by
  refine ⟨fun E G H S σV σ Q P w k s h p => ?_⟩
  refine ea.run E G H S σV σ _ _ w k s h fun x S1 G1 H1 v h1 k1 f1 r1 => ?_
  refine eb.run E G1 H1 S1 σV σ _ _ (w.mono f1) k1 (s.mono f1.g) h1 fun y S2 G2 H2 u h2 k2 f2 r2 => ?_
  have f12 := f1.trans f2
  refine eo.run G2 H2 S2 x y v u _ _ k2 (r1.mono f2.g) r2 h2 fun d S3 G3 H3 z h3 k3 f3 r3 => ?_
  have f13 := f12.trans f3
  cases d with
  | bl m =>
    cases r3
    refine ⟨m, rfl, ?_⟩
    cases m with
    | true =>
      rw [if_pos rfl]
      have h3 : rc E σ S3 fun z S4 => q' y z S4 Q := h3
      refine ec.run E G3 H3 S3 σV σ _ _ (w.mono f13) k3 (s.mono f13.g) h3 fun z S4 G4 H4 t h4 k4 f4 r4 => ?_
      exact eo'.run G4 H4 S4 y z u t _ _ k4 (r2.mono (f3.trans f4).g) r4 h4 fun d' S5 G5 H5 z' h5 k5 f5 r5 => p d' S5 G5 H5 z' h5 k5 ((f13.trans f4).trans f5) r5
    | false =>
      rw [if_neg Bool.false_ne_true]
      exact p _ S3 G3 H3 _ h3 k3 f13 (.bl _)
  | _ => exact h3.elim
theorem dt_chain {op op' : CmpOp} {q q' : D → D → Sto → DK → Prop} (ho : DOp X (compareOp op) q) (ho' : DOp X (compareOp op') q') (ha : DE X W a ra) (hb : DE X W b rb) (hc : DE X W c rc)
    (hm : lastMarks [op, op'] [b, c] = false := by with_unfolding_all rfl) : DT X W (.Compare a [op, op'] [b, c] pos) (dTest (dChain q q' ra rb rc)) := by
  obtain ⟨ta, pa, ea⟩ := ha
  obtain ⟨tb, pb, eb⟩ := hb
  obtain ⟨tc, pc, ec⟩ := hc
  obtain ⟨r, o, eo⟩ := ho
  obtain ⟨r', o', eo'⟩ := ho'
  exact ⟨_, pt_chain o o' pa pb pc hm, evt_test (ev_chain ea eb ec eo eo')⟩
theorem de_chain' {op op' : CmpOp} {q q' : D → D → Sto → DK → Prop} (ho : DOp X (compareOp op) q) (ho' : DOp X (compareOp op') q') (ha : DE X W a ra) (hb : DE X W b rb) (hc : DE X W c rc)
    (hm : lastMarks [op, op'] [b, c] = false := by with_unfolding_all rfl) : DE X W (.Compare a [op, op'] [b, c] pos) (dChain q q' ra rb rc) := by
  obtain ⟨ta, pa, ea⟩ := ha
  obtain ⟨tb, pb, eb⟩ := hb
  obtain ⟨tc, pc, ec⟩ := hc
  obtain ⟨r, o, eo⟩ := ho
  obtain ⟨r', o', eo'⟩ := ho'
  exact ⟨_, pe_chain o o' pa pb pc hm, ev_chain ea eb ec eo eo'⟩
/-! ### a, b, c = x, y, z -/
def dPar3 (i j l : Nat) (r : DTA) : DTS := fun Z σ S => r (exOf Z σ) σ S fun ds S' => match ds with
  | [x, y, z] => Z.nx (((σ.set i (some x)).set j (some y)).set l (some z)) S'
  | _ => False
theorem ds_par3 {i j l : Nat} {x y z : Str} {r : DTA} {px py pz pt : Pos} {kt k2 pt2} (hc : X.calm = true) (hN : X.N.Nodup) (hi : X.N[i]? = some x) (hj : X.N[j]? = some y) (hl : X.N[l]? = some z) (hij : i ≠ j) (hil : i ≠ l) (hjl : j ≠ l)
    (hx : X.env.scope.names.lookup x = some .local) (hy : X.env.scope.names.lookup y = some .local) (hz : X.env.scope.names.lookup z = some .local) (ha : DA X W [a, b, c] r)
    (hw : swappedStores [.Tuple [.Name x px, .Name y py, .Name z pz] kt pt] (.Tuple [a, b, c] k2 pt2) X.env = pure (some [x, y, z]) := by rfl)
    (hs : swapsWithSole [.Tuple [.Name x px, .Name y py, .Name z pz] kt pt] (.Tuple [a, b, c] k2 pt2) pos.line X.env = pure false := by rfl) :
    DS X W (.Assign [.Tuple [.Name x px, .Name y py, .Name z pz] kt pt] (.Tuple [a, b, c] k2 pt2) pos) (dPar3 i j l r) := by
  obtain ⟨t, p, q⟩ := ha
  refine ⟨_, ps_par3 hc hN hi hj hl hij hil hjl hx hy hz p hw hs, ⟨fun Dd G H S σV σ Dh eo k s h => ?_⟩⟩
  refine q.run _ G H S σV σ _ _ (eo.wok s) k s h fun ds S' G' H' vs hd k' f r => ?_
  match ds, vs, r, hd with
  | [d1, d2, d3], [v1, v2, v3], .cons r1 (.cons r2 (.cons r3 .nil)), hd => exact ⟨v1, v2, v3, rfl, eo.nx.go _ S' G' H' _ hd k' f ((((s.mono f.g).set i r1).set j r2).set l r3)⟩
/-! ### x op= e by operators of ints -/
theorem dip_add : DIp X .Add dAddI := ⟨_, ip_add, ⟨fun G H S x y v u Q P k r1 r2 h p => by
  unfold dAddI dI0 at h
  split at h
  · cases r1; cases r2
    exact ⟨_, _, rfl, rfl, p _ S G H _ h k (.refl _ _ _) (.int _)⟩
  · exact h.elim⟩⟩
theorem dip_sub : DIp X .Sub dSub := ⟨_, ip_sub, ⟨fun G H S x y v u Q P k r1 r2 h p => by
  unfold dSub dI0 at h
  split at h
  · cases r1; cases r2
    exact ⟨_, _, rfl, rfl, p _ S G H _ h k (.refl _ _ _) (.int _)⟩
  · exact h.elim⟩⟩
/-! ### tuples that the module has written -/
theorem de_globT {x : Str} {p : Addr} {o : Obj} {its : Array Value} {n : Nat} {vs : List V} {ds : List D} (hg : Gl X x) (hm : X.mg x = some (.ref p)) (hk : X.K.lookup p = some o) (hc : o.cls = .type "tuple") (hd : o.data = .seq its n) (hz : its.size ≤ sizeLine) (hv : Vals vs its.toList) (hr : ∀ G, RepL X.K G vs ds)
    (hdb : (x == ("__debug__" : Str)) = false := by decide) : DE X W (.Name x pos) (dC (.tup ds)) :=
  ⟨_, pe_glob (v := .ref p) hg hm rfl hdb, ev_c fun G => .tup (.inr ⟨o, its, n, hk, hc, hd, hz, hv⟩) (hr G)⟩
end
/-! ### defs that are there -/
structure Has (P : Program) (w : World) (K : PySem.W.Frag) (mg : Str → Option Value) (base : Heap) (k : Nat) (x : Str) (ps : List Str) (sp : DSp) : Prop where
  ex : ∃ (f : Addr) (fd : FuncData), mg x = some (.ref f) ∧ PySem.W.keepIn K (.ref f) = true ∧ Binds K fd ps [] ∧ FnOk P w K mg base (L2.CX P w) k f fd ps (lift K sp)
/-- where the def's text stands -/
structure At (K : PySem.W.Frag) (mg : Str → Option Value) (x : Str) (st : Stmt) (ps : List Str) : Prop where
  ex : ∃ (f : Addr) (fd : FuncData), mg x = some (.ref f) ∧ Fun K x x st f fd ∧ Binds K fd ps []
section
variable {X : Cx} {W : WX} {e : Expr} {pos : Pos}
theorem de_has {k : Nat} {ps : List Str} {sp : DSp} {x : Str} {p : Pos} {es : List Expr} {r : DTA} (tk : Takes X W) (F : Has X.prog X.w X.K X.mg X.base k x ps sp) (hr : Room k X.A) (hg : Gl X x) (ha : DA X W (e :: es) r) (hd : (x == ("__debug__" : Str)) = false := by decide)
    (hs : starEach (e :: es) X.env = (false, eval e X.env) :: starEach es X.env := by rfl) (hpl : (backTo pos (starEach es X.env)).any (·.1) = false := by rfl) :
    DE X W (.Call (.Name x p) (e :: es) [] pos) (dFn sp r) := by
  obtain ⟨f, fd, hm, hk, hb, F⟩ := F.ex
  exact de_fn tk F hr hg hm hk hb ha hd hs hpl
end
section
variable {P : Program} {w : World} {K : PySem.W.Frag} {mg : Str → Option Value} {base : Heap}
theorem okH {x : Str} {st : Stmt} {N ps : List Str} {k : Nat} {sp : DSp} (A : At K mg x st ps) (Sc : FnScope N ps (defScope st)) (len : ∀ ds S Q E, sp ds S Q E → ds.length = ps.length)
    (hbody : ∀ (f : Addr) (cdv : Value) (A : Around) (outer : List Env) (s : Shared) (H : Hp) (E : XK), Room k (A.deeper (envOfC x (defScope st) s.heap.objs.size f cdv)) →
      ∃ r, DSs (cxOf (L2.CX P w) P w K mg base N x (defScope st) f cdv A outer s H E) (fun cls d _ H' => E cls d H') (defBody st) r ∧ ∀ ds S Q E', sp ds S Q E' → r (dends Q E') (dstart N ds) S) :
    Has P w K mg base (k + 1) x ps sp := by
  obtain ⟨f, fd, g, F, b⟩ := A.ex
  exact ⟨f, fd, g, F.kp, b, okD F Sc len fun cdv A outer s H E hr => hbody f cdv A outer s H E hr⟩
theorem Has.imp {k : Nat} {x : Str} {ps : List Str} {sp sp' : DSp} (F : Has P w K mg base k x ps sp) (h : ∀ ds S Q E, sp' ds S Q E → sp ds S Q E) : Has P w K mg base k x ps sp' := by
  obtain ⟨f, fd, g, kp, b, F⟩ := F.ex
  exact ⟨f, fd, g, kp, b, F.imp fun vs H Q E ⟨G, S, ds, Qd, Ed, k1, r1, hs, hQ, hE⟩ => ⟨G, S, ds, Qd, Ed, k1, r1, h _ _ _ _ hs, hQ, hE⟩⟩
theorem at_mk {x : Str} {st : Stmt} {ps : List Str} {h : Heap} {f : Addr} {oc : Value} {od an : Option Addr} {osl : Array (Option Value)} {kV doc pm cdv ct : Value} (X : K.In h) (G : h.Ns mainGlobals mg) (a : PySem.W.nsIn K mainGlobals x = some (some (.ref f)))
    (l : K.lookup f = some ⟨oc, od, .func (PySem.W.fnOf x x (defArgs st) (defBody st) (defScope st) .none kV doc pm an cdv ct), osl⟩) (c : PySem.W.codeIn K cdv x = true) (k : PySem.W.keepIn K (.ref f) = true)
    (hb : ∀ (kV doc pm : Value) (an : Option Addr) (cdv ct : Value) (us : List Value), us.length = ps.length → bindArgs (PySem.W.fnOf x x (defArgs st) (defBody st) (defScope st) .none kV doc pm an cdv ct) ⟨us, []⟩ = pure (ps.zip us)) : At K mg x st ps :=
  ⟨f, _, PySem.W.mg_of X G a, fun_mk l c k, (fun_mk (st := st) l c k).binds hb⟩
end
/-! ### a law's end -/
def spLaw : DSp := fun ds S Q _ => ∃ ns : List Int, ds = [.scr ns] ∧ ns.length ≤ 63 ∧ S = (fun _ => none) ∧ ∀ S', Q (.bl true) S'
/-- all but tables -/
def noT (H : Hp) : Hp := fun b => match H b with
  | some (.tbl _) => none
  | o => o
theorem noT_get {H : Hp} {b : Addr} {o : HO} (h : noT H b = some o) : H b = some o ∧ ∀ ps, o ≠ .tbl ps := by
  unfold noT at h
  split at h
  · cases h
  · rename_i n
    exact ⟨h, fun ps z => n ps (by rw [h, z])⟩
theorem noT_keep {H : Hp} {b : Addr} {o : HO} (h : H b = some o) (n : ∀ ps, o ≠ .tbl ps) : noT H b = some o := by
  unfold noT
  rw [h]
  cases o <;> first | rfl | exact absurd rfl (n _)
theorem noT_sq {K : PySem.W.Frag} {H : Hp} {a : Addr} {xs : List V} (h : SqL K H a xs) : SqL K (noT H) a xs := by
  rcases h with (h | ⟨o, h⟩) | h
  · exact .inl (.inl (noT_keep h nofun))
  · exact .inl (.inr ⟨o, noT_keep h nofun⟩)
  · exact .inr h
theorem noT_ok {K : PySem.W.Frag} {H : Hp} : Wok K (noT H) H (fun _ => none) := ⟨fun _ _ h => (noT_get h).1, (fun _ _ h => nomatch h), fun _ ps h => (noT_get h).2 ps rfl, fun _ _ _ _ _ _ h => nomatch h⟩
theorem walkD {l : PySem.W.OpenLaw} {k : Nat} {q : Program} {loose : List Str} {XP : (Str → Option Value) → Heap → Prop} {YP : World → Heap → Prop} {d : DefRec} {K : Params → PySem.W.Frag}
    (hn : l.most = some 63) (hdf : d.params.defaults = []) (hr : Room k callerA) (hdn : d.name = "law")
    (hY : ∀ (w : World) (h : Heap), YP w h → (K w.params).In h)
    (F : ∀ (w : World) (mg : Str → Option Value) (h : Heap), (K w.params).In h → h.Ns mainGlobals mg →
      ∃ (f : Addr) (fd : FuncData), mg "law" = some (.ref f) ∧ (∀ (s : Shared) (u : Value), BindsTo s fd ⟨[u], []⟩ [("script", u)]) ∧ ∀ base : Heap, (K w.params).In base → base.Ns mainGlobals mg → FnOk l.prog w (K w.params) mg base (L2.CX l.prog w) k f fd ["script"] (lift (K w.params) spLaw)) :
    PySem.W.WalkO q loose XP YP l.row.toRowW d [] (fun f vs => PySem.call f vs) := by
  refine L2.walk_of (n := 63) (k := k) (x := "script") (CX := fun w => L2.CX l.prog w) (sp := fun w => lift (K w.params) spLaw) hn (by decide) hdf hr hY (fun w mg fa h KX G hmg => ?_) (fun w H a ns hl _ hS => ?_) fun w H s e s' h => ?_
  · obtain ⟨f, fd, h1, h2, h3⟩ := F w mg h KX G
    rw [hdn] at hmg
    rw [h1] at hmg
    cases hmg
    exact ⟨fd, h2, h3⟩
  · exact ⟨noT H, fun _ => none, [.scr ns], fun d _ => d = .bl true, fun _ _ _ => False, noT_ok, .cons (.scr (noT_sq hS)) .nil, ⟨ns, rfl, hl, rfl, fun _ => rfl⟩, fun d S' G' H' v e _ _ r => by subst e; cases r; rfl, fun _ _ _ _ _ h => h.elim⟩
  · obtain ⟨_, _, _, _, _, _, _, _, _, _, _, _, z⟩ := h
    exact z
/-! ### fresh lists that will change -/
section
variable {X : Cx} {W : WX} {K : PySem.W.Frag} {e : Expr} {ra : DTE} {pos : Pos}
def dAddM : D → D → Sto → DK → Prop := fun x y S Q => match vw S x, vw S y with
  | .lst xs, .lst ys => xs.length + ys.length ≤ sizeLine ∧ ∀ p, S p = none → Q (.ref p) (put S p (.lst (xs ++ ys)))
  | _, _ => False
theorem dop_addM : DOp X (binaryOp .Add) dAddM := ⟨_, op_cat, ⟨fun G H S x y v u Q P k r1 r2 h p => by
  unfold dAddM at h
  split at h
  · rename_i h1 h2
    obtain ⟨a1, vs, e1, q1, l1⟩ := seq_of k r1 h1
    obtain ⟨a2, us, e2, q2, l2⟩ := seq_of k r2 h2
    refine ⟨a1, a2, vs, us, e1, e2, q1, q2, by rw [l1.length, l2.length]; exact h.1, fun q hq => ?_⟩
    obtain ⟨k2, f2⟩ := k.newS (o := .lst (vs ++ us)) (m := .lst _) hq ⟨_, upd_same, l1.append l2⟩
    exact p _ _ _ _ _ (h.2 q (k.freeS hq)) k2 f2 (.ref q)
  · exact h.elim⟩⟩
def dSlM (re : DTE) (rl rh : DTO) : DTE := fun E σ S Q => re E σ S fun x S1 => rl E σ S1 fun l S2 => rh E σ S2 fun u S3 => match vw S3 x with
  | .lst xs => ∀ p, S3 p = none → Q (.ref p) (put S3 p (.lst (cutD xs l u)))
  | _ => False
theorem de_sliceM {lo hi : Option Expr} {rl rh : DTO} {p2 : Pos} (he : DE X W e ra) (hl : DO X W lo rl) (hh : DO X W hi rh) : DE X W (.Subscript e (.Slice lo hi none p2) pos) (dSlM ra rl rh) := by
  obtain ⟨t, p, q⟩ := he
  obtain ⟨tl, pl, ql⟩ := hl
  obtain ⟨th, ph, qh⟩ := hh
  refine ⟨_, pe_slice sl_list p pl ph, ⟨fun E G H S σV σ Q P w k s h f => ?_⟩⟩
  refine q.run E G H S σV σ _ _ w k s h fun x S1 G1 H1 v h1 k1 f1 r1 => ?_
  refine ql.run E G1 H1 S1 σV σ _ _ (w.mono f1) k1 (s.mono f1.g) h1 fun l S2 G2 H2 h2 k2 f2 => ?_
  have f12 := f1.trans f2
  refine qh.run E G2 H2 S2 σV σ _ _ (w.mono f12) k2 (s.mono f12.g) h2 fun u S3 G3 H3 h3 k3 f3 => ?_
  have f13 := f12.trans f3
  have r3 := r1.mono (f2.trans f3).g
  split at h3
  · rename_i xs hx
    obtain ⟨a1, vs, e1, q1, l1⟩ := seq_of k3 r3 hx
    refine ⟨a1, vs, e1, .of q1, fun n hn => ?_⟩
    obtain ⟨k4, f4⟩ := k3.newS (o := .lst (cutV vs l u)) (m := .lst (cutD xs l u)) hn ⟨_, upd_same, cut_rep l1 l u⟩
    exact f _ _ _ _ _ (h3 n (k3.freeS hn)) k4 (f13.trans f4) (.ref n)
  · exact h3.elim
/-! ### constants that are tuples -/
structure TupC (K : PySem.W.Frag) (mg : Str → Option Value) (x : Str) (ds : List D) : Prop where
  ex : ∃ (p : Addr) (o : Obj) (its : Array Value) (n : Nat) (vs : List V), mg x = some (.ref p) ∧ K.lookup p = some o ∧ o.cls = .type "tuple" ∧ o.data = .seq its n ∧ its.size ≤ sizeLine ∧ Vals vs its.toList ∧ ∀ G, RepL K G vs ds
theorem de_globC {x : Str} {ds : List D} (hg : Gl X x) (c : TupC X.K X.mg x ds) (hdb : (x == ("__debug__" : Str)) = false := by decide) : DE X W (.Name x pos) (dC (.tup ds)) := by
  obtain ⟨p, o, its, n, vs, h1, h2, h3, h4, h5, h6, h7⟩ := c.ex
  exact de_globT hg h1 h2 h3 h4 h5 h6 h7 hdb
end
/-! ### own errors -/
section
variable {P : Program} {w : World} {K : PySem.W.Frag} {mg : Str → Option Value} {base : Heap}
/-- __init__(self, value=..): self.value = value -/
theorem ok_init1 {n q : Str} {args : Arguments} {body : List Stmt} {sc : Scope} {dvs : List V} {f : Addr} {fd : FuncData} {p1 p2 p3 p4 : Pos} (F : FunD K "__init__" q args body sc dvs [] f fd) (Sc : FnScope ["self", n] ["self", n] sc) (hb : body = [.Assign [.Attribute (.Name "self" p1) n p2] (.Name n p3) p4])
    (h1 : sc.names.lookup ("self" : Str) = some NameKind.local) (h2 : sc.names.lookup n = some NameKind.local) (hd : (n == ("__debug__" : Str)) = false) (hcd : (n == ("__classdict__" : Str)) = false) :
    FnOk P w K mg base (L2.CX P w) 1 f fd ["self", n] (spInit1 K n) := by
  refine F.ok Sc (fun vs H Q E h => ?_) fun cdv A outer s H vs Q E hr h => ?_
  · obtain ⟨a, C, y, rfl, _⟩ := h
    rfl
  · obtain ⟨a, C, y, rfl, hC, hn, ha, q⟩ := h
    refine ⟨tOst K n (tVar 0) (tVar 1), ?_, ?_⟩
    · rw [hb]
      exact pss_one (ps_ost (pe_var (i := 0) rfl (.inl h1)) (pe_var (i := 1) rfl (.inl h2) hd hcd))
    · exact ⟨y, rfl, .ref a, rfl, a, C, rfl, hC, hn, .inl ⟨ha, fun dx h3 h4 => q dx h3 h4⟩⟩
/-- what the module tells of HouseError.__init__, for all its classes -/
structure InitC (P : Program) (w : World) (K : PySem.W.Frag) (mg : Str → Option Value) (base : Heap) (n : Str) (fI : Addr) : Prop where
  ty : PySem.W.typeIn K (.ref fI) = some (.type "function")
  fn : ∃ (fd : FuncData) (ps : List Str), FnOk P w K mg base (L2.CX P w) 1 fI fd ps (spInit1 K n) ∧ Binds K fd ps []
theorem init_mk {n q : Str} {args : Arguments} {body : List Stmt} {sc : Scope} {fI T : Addr} {oc ocT kV doc pm cd ct : Value} {od odT an : Option Addr} {sl slT : Array (Option Value)} {nT : Nat} {p1 p2 p3 p4 : Pos}
    (l : K.lookup fI = some ⟨oc, od, .func (PySem.W.fnOf "__init__" q args body sc (.ref T) kV doc pm an cd ct), sl⟩) (c : PySem.W.codeIn K cd q = true) (k : PySem.W.keepIn K (.ref fI) = true) (t : PySem.W.typeIn K (.ref fI) = some (.type "function"))
    (lT : K.lookup T = some ⟨ocT, odT, .seq #[.none] nT, slT⟩) (Sc : FnScope ["self", n] ["self", n] sc) (hb : body = [.Assign [.Attribute (.Name "self" p1) n p2] (.Name n p3) p4])
    (h1 : sc.names.lookup ("self" : Str) = some NameKind.local) (h2 : sc.names.lookup n = some NameKind.local) (hd : (n == ("__debug__" : Str)) = false) (hcd : (n == ("__classdict__" : Str)) = false)
    (hbind : ∀ (T : Addr) (kV doc pm : Value) (an : Option Addr) (cdv ct : Value) (us its : List Value), us.length = 2 → its.length = 1 →
      ∃ k, bindArgs (PySem.W.fnOf "__init__" q args body sc (.ref T) kV doc pm an cdv ct) ⟨us, []⟩ = seqItems? (.ref T) >>= k ∧ k (some its.toArray) = pure ((["self", n] : List Str).zip (us ++ its.drop 1))) : InitC P w K mg base n fI := by
  have F : FunD K "__init__" q args body sc [.non] [] fI (PySem.W.fnOf "__init__" q args body sc (.ref T) kV doc pm an cd ct) :=
    ⟨⟨oc, od, _, kV, doc, pm, an, cd, ct, sl, rfl, l, c, .inr ⟨by simp, T, _, [.none], nT, rfl, lT, rfl, .cons rfl .nil⟩, .inl rfl⟩, k⟩
  obtain ⟨ds, h3, h4⟩ := F.binds1 (ps := ["self", n]) 2 1 (by simp) rfl hbind
  cases h3
  exact ⟨t, _, _, ok_init1 F Sc hb h1 h2 hd hcd, h4⟩
theorem err_mk {h : Heap} {x n : Str} {C fI : Addr} (X : K.In h) (G : h.Ns mainGlobals mg) (I : InitC P w K mg base n fI) (a : PySem.W.nsIn K mainGlobals x = some (some (.ref C)))
    {nm : Str} {q : Str} {N : Addr} {bs bm : List Value} {sn : List Str} {sub ab col dd k0 k1 k2 k3 k5 : _} (cls : K.lookup C = some (excClassObj nm q C N bs bm true sn sub ab col dd k0 k1 k2 k3 k5 "ValueError.__new__")) (rv : PySem.HandSPX.refsVE bm = true)
    (sa : PySem.W.findIn K (.ref C) "__setattr__" = some (some (.builtin "object.__setattr__"))) (exC : PySem.W.subIn K (.ref C) (.type "BaseException") = some true) (tyC : PySem.W.typeIn K (.ref C) = some (.type "type")) (kC : PySem.W.keepIn K (.ref C) = true)
    (hno : PySem.W.findIn K (.ref C) n = some none) (hi : PySem.W.findIn K (.ref C) "__init__" = some (some (.ref fI))) : ErrC K mg P w base x C n [] [] := by
  obtain ⟨fd, ps, h1, h2⟩ := I.fn
  exact ⟨PySem.W.mg_of X G a, ⟨⟨nm, q, N, bs, bm, sn, sub, ab, col, dd, k0, k1, k2, k3, k5, cls, rv⟩, sa, exC, tyC, kC⟩, hno, fI, fd, ps, hi, I.ty, h1, h2, .nil⟩
end
end KD

set_option maxRecDepth 100000
set_option maxHeartbeats 4000000
/-! KdT: tuple * int, also of the empty tuple and by 1. -/
namespace KD
open PySem PySem.Spec PyProof.Rows L2
theorem tuple_mul_same (l : Addr) (items : Array Value) (n : Nat) (dd : Option Addr) (sl : Array (Option Value)) (x : Int) (u : Tok) (c0 : (decide (x < -(2 ^ 63)) || decide (x ≥ 2 ^ 63)) = false) (c1 : (items.isEmpty || x == 1) = true) :
    Meets (Builtin.«tuple.__mul__» ⟨[.ref l, .int x u], []⟩) (fun _ R s => s.heap.get? l = some { cls := .type "tuple", dict := dd, data := .seq items n, slots := sl } ∧ R (.ok (.ret (Value.ref l))) s) :=
  .of_wp fun prog w A R s h => by
    obtain ⟨hp, g, d, tk, os⟩ := s
    obtain ⟨hl, h⟩ := h
    have f1 := AutoSeq1.idx_int
    wp_walk using wpAny_loadPart' hl
    repeat (first
      | (refine wpAny_ite_false (decide_eq_false (by rw [c0]; exact Bool.false_ne_true)) ?_; wp_walk using wpAny_loadPart' hl)
      | (refine wpAny_ite_true (decide_eq_true c1) ?_; wp_walk using wpAny_loadPart' hl))
    exact ⟨_, rfl, h⟩
def rRepT0 (K : PySem.W.Frag) : R2 := fun x y H Q => ∃ l k xs, x = .ref l ∧ y = .int k ∧ SqT K H l xs ∧ (xs = [] ∨ k = 1) ∧ -(2 ^ 63) ≤ k ∧ k < 2 ^ 63 ∧ Q (.ref l) H
section
variable {X : Cx} {K : PySem.W.Frag}
theorem op_repT0 : OpR X (binaryOp .Mult) (rRepT0 X.K) := by
  intro pins s σ H x y v u Q I rx ry h
  obtain ⟨l, k, xs, rfl, rfl, hT, hc1, h1, h2, q⟩ := h
  cases rx
  obtain ⟨t, rfl⟩ := ry
  obtain ⟨its, r, ⟨⟨cls, dd, data, sl⟩, ho, hc, n, hd⟩, hs⟩ := I.tuple hT
  simp only at hc hd
  subst hc hd
  have c0 : (decide (k < -(2 ^ 63)) || decide (k ≥ 2 ^ 63)) = false := by
    rw [decide_eq_false (by omega), decide_eq_false (by omega)] <;> rfl
  have c1 : (its.toArray.isEmpty || k == 1) = true := by
    rcases hc1 with e | e
    · subst e; cases r; rfl
    · subst e; simp
  refine wpAny_binaryOp_repeat_ref (T := "tuple") (U := "int") (by decide) ⟨_, ho, rfl⟩ (fun s' => typeIs_int s' k t) noFill_tuple_mul F.fills_int_mul F.slot_int_rmul repeat_tuple F.slot_int_index.lookup
    (call_meets F.slot_int_rmul (typeIs_int s k t) F.entry_int_rmul (F.args_int_rmul_2 _ _) (int_rmul_tuple k t l its.toArray n dd sl)
      ⟨ho, rfl, ⟨_, ho, rfl⟩, call_meets F.slot_tuple_mul ⟨_, ho, rfl⟩ F.entry_tuple_mul (F.args_tuple_mul_2 _ _) (tuple_mul_same l its.toArray n dd sl k t c0 c1) ⟨ho, ?_⟩⟩)
  exact ⟨.ref l, H, I, rfl, q⟩
def dRepT : D → D → Sto → DK → Prop := fun x y S Q => match vw S x, y with
  | .tup xs, .int k => 1 ≤ k ∧ k ≤ 1000 ∧ xs.length ≤ 1000 ∧ Q (.tup (List.replicate k.toNat xs).flatten) S
  | _, _ => False
theorem rep_nil {α : Type} : ∀ n : Nat, (List.replicate n ([] : List α)).flatten = []
  | 0 => rfl
  | n + 1 => by rw [List.replicate_succ, List.flatten_cons, rep_nil n]; rfl
theorem dop_repT : DOp X (binaryOp .Mult) dRepT := ⟨_, op_repT.or op_repT0, ⟨fun G H S x y v u Q P k r1 r2 h p => by
  unfold dRepT at h
  split at h
  · rename_i xs n h1
    cases r2
    obtain ⟨a1, vs, e1, q1, l1, g1⟩ := tup_of k r1 h1
    obtain ⟨z2, z3, z4, z5⟩ := h
    by_cases c : xs = [] ∨ n = 1
    · refine .inr ⟨a1, _, vs, e1, rfl, q1.sq, ?_, by omega, by omega, ?_⟩
      · rcases c with c | c
        · subst c; cases l1; exact .inl rfl
        · exact .inr c
      · have e : (List.replicate n.toNat xs).flatten = xs := by
          rcases c with c | c
          · subst c; exact rep_nil _
          · subst c; simp
        rw [e] at z5
        exact p _ S G H _ z5 k (.refl _ _ _) (.tup g1 l1)
    · have c1 : xs ≠ [] := fun e => c (.inl e)
      have c2 : n ≠ 1 := fun e => c (.inr e)
      refine .inl ⟨a1, _, vs, e1, rfl, q1.sq, fun z => ?_, by omega, z3, by rw [l1.length]; exact z4, fun q hq => ?_⟩
      · subst z; cases l1; exact c1 rfl
      · obtain ⟨k2, f2⟩ := k.newG (o := .tup (List.replicate _ vs).flatten) hq
        exact p _ S _ _ _ z5 k2 f2 (.tup (.inl upd_same) ((repl_rep l1 _).mono f2.g))
  · exact h.elim⟩⟩
def dMulG : D → D → Sto → DK → Prop := fun x y S Q => match vw S x, y with
  | .int i, .int j => IntMulOk i j ∧ Q (.int (i * j)) S
  | .lst xs, .int k => -(2 ^ 63) ≤ k ∧ k < 2 ^ 63 ∧ xs.length * k.toNat ≤ sizeLine ∧ Q (.lst (List.replicate k.toNat xs).flatten) S
  | .tup xs, .int k => 1 ≤ k ∧ k ≤ 1000 ∧ xs.length ≤ 1000 ∧ Q (.tup (List.replicate k.toNat xs).flatten) S
  | _, _ => False
theorem dop_mulG : DOp X (binaryOp .Mult) dMulG := dop_mul.or dop_repT fun x y S Q h => by
  unfold dMulG at h
  split at h
  · rename_i h1
    refine .inl ?_
    unfold dMul
    rw [h1]; exact h
  · rename_i h1
    refine .inl ?_
    unfold dMul
    rw [h1]; exact h
  · rename_i h1
    refine .inr ?_
    unfold dRepT
    rw [h1]; exact h
  · exact h.elim
end
end KD

set_option maxRecDepth 100000
set_option maxHeartbeats 4000000
/-! KdL: loops and comprehensions by an invariant, a step at a time. -/
namespace KD
open PySem PySem.Spec PyProof.Rows L2
theorem loop_inv {g : DTG} {rb : DTS} {Z : DEnds} (I : Nat → DSt → Sto → Prop) : ∀ (xs : List D) (k : Nat) (σ : DSt) (S : Sto), I k σ S →
    (∀ i x σ S, xs[i]? = some x → I (k + i) σ S → ∀ N : DSt → Sto → Prop, (∀ σ' S', I (k + i + 1) σ' S' → N σ' S') → g x σ S fun σ' S' => rb { Z with nx := N, ct := N, bk := Z.nx } σ' S') →
    (∀ σ S, I (k + xs.length) σ S → Z.nx σ S) → dLoop g rb Z xs σ S
  | [], k, σ, S, h0, _, hd => hd σ S h0
  | x :: xs, k, σ, S, h0, hs, hd => by
    refine hs 0 x σ S rfl h0 _ fun σ' S' h1 => loop_inv I xs (k + 1) σ' S' h1 (fun i y σ S hy hi N hN => ?_) fun σ S h => ?_
    · refine hs (i + 1) y σ S hy (by rw [show k + (i + 1) = k + 1 + i by omega]; exact hi) N fun σ' S' h => hN σ' S' ?_
      rw [show k + 1 + i + 1 = k + (i + 1) + 1 by omega]; exact h
    · refine hd σ S ?_
      rw [List.length_cons, show k + (xs.length + 1) = k + 1 + xs.length by omega]; exact h
theorem loop0 {g : DTG} {rb : DTS} {Z : DEnds} {xs : List D} {σ : DSt} {S : Sto} (I : Nat → DSt → Sto → Prop) (h0 : I 0 σ S)
    (hs : ∀ i x σ S, xs[i]? = some x → I i σ S → ∀ N : DSt → Sto → Prop, (∀ σ' S', I (i + 1) σ' S' → N σ' S') → g x σ S fun σ' S' => rb { Z with nx := N, ct := N, bk := Z.nx } σ' S')
    (hd : ∀ σ S, I xs.length σ S → Z.nx σ S) : dLoop g rb Z xs σ S :=
  loop_inv I xs 0 σ S h0 (fun i x σ S hx hi N hN => hs i x σ S hx (by rw [Nat.zero_add] at hi; exact hi) N fun σ' S' h => hN σ' S' (by rw [Nat.zero_add]; exact h)) fun σ S h => hd σ S (by rw [Nat.zero_add] at h; exact h)
/-- a comprehension that changes nothing: f of the items that p keeps -/
theorem lc_pure {g : DTG} {rt : DTT} {re : DTE} {σ : DSt} {Q : List D → Sto → Prop} {S : Sto} (f : D → D) (p : D → Bool) : ∀ (xs acc : List D),
    (∀ x ∈ xs, ∀ (R : DK) (R' : Sto → Prop), (p x = true → R (f x) S) → (p x = false → R' S) → g x σ S fun σ2 S2 => rt DE0 σ2 S2 fun b S3 => if b = true then re DE0 σ2 S3 R else R' S3) →
    acc.length + xs.length ≤ sizeLine → Q (acc ++ (xs.filter p).map f) S → dLcGo g rt re σ Q xs S acc
  | [], acc, _, _, h => by
    have h : Q (acc ++ []) S := h
    rw [List.append_nil] at h; exact h
  | x :: xs, acc, hs, hl, h => by
    have hl' : acc.length + (xs.length + 1) ≤ sizeLine := hl
    refine hs x List.mem_cons_self (fun y S4 => acc.length < sizeLine ∧ dLcGo g rt re σ Q xs S4 (acc ++ [y])) (fun S3 => dLcGo g rt re σ Q xs S3 acc) (fun e => ⟨by omega, ?_⟩) fun e => ?_
    · refine lc_pure f p xs _ (fun y hy => hs y (List.mem_cons_of_mem _ hy)) (by simp; omega) ?_
      simpa [List.filter_cons, e] using h
    · refine lc_pure f p xs _ (fun y hy => hs y (List.mem_cons_of_mem _ hy)) (by omega) ?_
      simpa [List.filter_cons, e] using h
theorem lc_map {g : DTG} {re : DTE} {σ : DSt} {Q : List D → Sto → Prop} {S : Sto} (f : D → D) (xs : List D)
    (hs : ∀ x ∈ xs, ∀ (R : DK), R (f x) S → g x σ S fun σ2 S2 => re DE0 σ2 S2 R) (hl : xs.length ≤ sizeLine) (h : Q (xs.map f) S) : dLcGo g dYes re σ Q xs S [] := by
  refine lc_pure f (fun _ => true) xs [] (fun x hx R R' h1 _ => ?_) (by simpa using hl) (by rw [List.nil_append, List.filter_eq_self.mpr (fun _ _ => rfl)]; exact h)
  have := hs x hx R (h1 rfl)
  simpa [dYes] using this
/-- a comprehension whose steps change the store: I of the list so far -/
theorem lc_eff {g : DTG} {rt : DTT} {re : DTE} {σ : DSt} {Q : List D → Sto → Prop} (I : List D → Sto → Prop) : ∀ (xs acc : List D) (S : Sto),
    (∀ x ∈ xs, ∀ acc S, I acc S → ∀ (R : DK) (R' : Sto → Prop), (∀ y S4, I (acc ++ [y]) S4 → R y S4) → (∀ S4, I acc S4 → R' S4) → g x σ S fun σ2 S2 => rt DE0 σ2 S2 fun b S3 => if b = true then re DE0 σ2 S3 R else R' S3) →
    acc.length + xs.length ≤ sizeLine → I acc S → (∀ acc S, I acc S → Q acc S) → dLcGo g rt re σ Q xs S acc
  | [], acc, S, _, _, h0, h => h acc S h0
  | x :: xs, acc, S, hs, hl, h0, h => by
    have hl' : acc.length + (xs.length + 1) ≤ sizeLine := hl
    refine hs x List.mem_cons_self acc S h0 (fun y S4 => acc.length < sizeLine ∧ dLcGo g rt re σ Q xs S4 (acc ++ [y])) (fun S3 => dLcGo g rt re σ Q xs S3 acc) (fun y S4 hi => ⟨by omega, ?_⟩) fun S4 hi => ?_
    · exact lc_eff I xs _ S4 (fun y hy => hs y (List.mem_cons_of_mem _ hy)) (by simp; omega) hi h
    · exact lc_eff I xs _ S4 (fun y hy => hs y (List.mem_cons_of_mem _ hy)) (by omega) hi h
/-- the same without a test, the items counted -/
theorem lc_draw {g : DTG} {re : DTE} {σ : DSt} {Q : List D → Sto → Prop} {xs : List D} {S : Sto} (I : Nat → List D → Sto → Prop)
    (hs : ∀ i x acc S, xs[i]? = some x → I i acc S → ∀ (R : DK), (∀ y S4, I (i + 1) (acc ++ [y]) S4 → R y S4) → g x σ S fun σ2 S2 => re DE0 σ2 S2 R) (hl : xs.length ≤ sizeLine) (h0 : I 0 [] S) (h : ∀ acc S, I xs.length acc S → Q acc S) : dLcGo g dYes re σ Q xs S [] := by
  have key : ∀ (ys : List D) (k : Nat) (acc : List D) (S : Sto), (∀ i, ys[i]? = xs[k + i]?) → k + ys.length = xs.length → acc.length = k → I k acc S → dLcGo g dYes re σ Q ys S acc := by
    intro ys
    induction ys with
    | nil => intro k acc S _ e _ hi; have e : k = xs.length := by simpa using e
             subst e; exact h acc S hi
    | cons y ys ih =>
      intro k acc S he e ha hi
      have hy : xs[k]? = some y := by have := he 0; simpa using this.symm
      have : g y σ S fun σ2 S2 => re DE0 σ2 S2 fun y S4 => acc.length < sizeLine ∧ dLcGo g dYes re σ Q ys S4 (acc ++ [y]) := by
        refine hs k y acc S hy hi _ fun z S4 hz => ⟨?_, ih (k + 1) _ S4 (fun i => ?_) ?_ ?_ hz⟩
        · rw [ha]; have : k < xs.length := (List.getElem?_eq_some_iff.mp hy).1; omega
        · have := he (i + 1); rw [show k + 1 + i = k + (i + 1) by omega, ← this]; simp
        · simp only [List.length_cons] at e; omega
        · simp [ha]
      show g y σ S fun σ2 S2 => dYes DE0 σ2 S2 fun b S3 => if b = true then re DE0 σ2 S3 fun y S4 => acc.length < sizeLine ∧ dLcGo g dYes re σ Q ys S4 (acc ++ [y]) else dLcGo g dYes re σ Q ys S3 acc
      simpa [dYes] using this
  exact key xs 0 [] S (fun i => by rw [Nat.zero_add]) (by simp) rfl h0
/-- while by an invariant and a measure -/
theorem while_inv {rc : DTT} {rb : DTS} {Z : DEnds} {σ : DSt} {S : Sto} (I : DSt → Sto → Prop) (μ : DSt → Sto → Nat) (h0 : I σ S)
    (hs : ∀ σ S, I σ S → ∀ N : DSt → Sto → Prop, (∀ σ' S', I σ' S' → μ σ' S' < μ σ S → N σ' S') → rc (exOf Z σ) σ S fun b S1 => if b = true then rb { Z with nx := N, ct := N, bk := Z.nx } σ S1 else Z.nx σ S1)
    (mono : ∀ E σ S Q Q', (∀ b S1, Q b S1 → Q' b S1) → rc E σ S Q → rc E σ S Q') : dWhile rc rb Z σ S := by
  refine ⟨fun m σ S => m = μ σ S ∧ I σ S, ⟨_, rfl, h0⟩, ?_⟩
  rintro m σ S ⟨rfl, hi⟩
  refine mono _ _ _ _ _ (fun b S1 q => ?_) (hs σ S hi (fun σ' S' => I σ' S' ∧ μ σ' S' < μ σ S) fun σ' S' h1 h2 => ⟨h1, h2⟩)
  cases b with
  | true =>
    rw [if_pos rfl] at q ⊢
    exact ⟨_, fun σ' S' ⟨h1, h2⟩ => ⟨_, h2, rfl, h1⟩, q⟩
  | false =>
    rw [if_neg Bool.false_ne_true] at q ⊢
    exact q
section
variable {X : Cx} {W : WX} {a : Expr} {ra : DTE} {pos : Pos}
theorem dt_isN {j pos'} (ha : DE X W a ra) : DT X W (.Compare a [.Is] [.Constant .none j pos'] pos) (dTest (dIsN ra)) := by
  obtain ⟨t, p, q⟩ := ha
  refine ⟨_, pt_cmp (pc_isN p), evt_B ⟨fun E G H S σV σ Q P w k s h f => q.run E G H S σV σ _ _ w k s h fun d S' G' H' v hd k' g r => ?_⟩⟩
  rw [non_rep r]; exact f _ S' G' H' _ hd k' g (.bl _)
theorem dt_notN {j pos'} (ha : DE X W a ra) : DT X W (.Compare a [.IsNot] [.Constant .none j pos'] pos) (dTest (dNotN ra)) := by
  obtain ⟨t, p, q⟩ := ha
  refine ⟨_, pt_cmp (pc_notN p), evt_B ⟨fun E G H S σV σ Q P w k s h f => q.run E G H S σV σ _ _ w k s h fun d S' G' H' v hd k' g r => ?_⟩⟩
  rw [non_rep r]; exact f _ S' G' H' _ hd k' g (.bl _)
end
/-! ### of lists that may change: told by what must stand in the store -/
theorem RvD.imp {K : PySem.W.Frag} {r : R2} {q q' : D → D → Sto → DK → Prop} (h : RvD K r q) (i : ∀ x y S Q, q' x y S Q → q x y S Q) : RvD K r q' :=
  ⟨fun G H S x y v u Q P k r1 r2 g p => h.run G H S x y v u Q P k r1 r2 (i _ _ _ _ g) p⟩
theorem RcD.imp {K : PySem.W.Frag} {r : List V → Hp → VK → Prop} {q q' : List D → Sto → DK → Prop} (h : RcD K r q) (i : ∀ xs S Q, q' xs S Q → q xs S Q) : RcD K r q' :=
  ⟨fun G H S xs vs Q P k r1 g p => h.run G H S xs vs Q P k r1 (i _ _ _ g) p⟩
def dIxM : D → D → Sto → DK → Prop := fun x y S Q => ∃ (p : Addr) (xs : List D) (i : Int) (d : D), x = .ref p ∧ y = .int i ∧ S p = some (.lst xs) ∧ atI xs i = some d ∧ Q d S
theorem dix_mut {X : Cx} : DIx X dIxM := let ⟨r, o, e⟩ := dix_seq (X := X); ⟨r, o, e.imp fun x y S Q ⟨p, xs, i, d, h1, h2, h3, h4, h5⟩ => by
  subst h1 h2
  have e : vw S (.ref p) = .lst xs := by simp [vw, h3]
  unfold dIxS
  rw [e]
  exact ⟨d, h4, h5⟩⟩
def dLenM : List D → Sto → DK → Prop := fun ds S Q => ∃ (p : Addr) (xs : List D), ds = [.ref p] ∧ S p = some (.lst xs) ∧ Q (.int xs.length) S
theorem dc_lenM {X : Cx} : DC X (.builtin "len") dLenM := let ⟨r, o, e⟩ := dc_len (X := X); ⟨r, o, e.imp fun ds S Q ⟨p, xs, h1, h2, h3⟩ => by
  subst h1
  have e : vw S (.ref p) = .lst xs := by simp [vw, h2]
  show match vw S (.ref p) with | .lst xs => Q (.int xs.length) S | .tup xs => Q (.int xs.length) S | .scr ns => Q (.int ns.length) S | .str z => z.length ≤ sizeLine ∧ Q (.int z.length) S | _ => False
  rw [e]
  exact h3⟩
def dNeD : D → D → Sto → DK → Prop := fun x y S Q => ∃ p q, toPy x = some p ∧ toPy y = some q ∧ SeqAt.shaped p = true ∧ SeqAt.shaped q = true ∧ Q (.bl (!PyData.eqv p q)) S
end KD

set_option maxRecDepth 100000
set_option maxHeartbeats 4000000
/-! Kd8: texts turned round, texts joined. -/
namespace KD
open PySem PySem.Spec PyProof.Rows L2
section
variable {X : Cx} {W : WX} {e : Expr} {re : DTE} {pos : Pos}
def revStr (z : Str) : Str := ⟨z.cps.toList.reverse.toArray⟩
theorem revStr_pick (z : Str) : ((Builtin.Str.strSliceIndices none none (-1) z.length).filterMap (z.cps[·]?)).toArray = z.cps.toList.reverse.toArray := by
  show ((sliceRange ((z.cps.size : Int) - 1) (-1) (-1)).filterMap (z.cps[·]?)).toArray = _
  rw [PySem.W.krv_sliceRange, PySem.W.krv_range, List.filterMap_reverse, PySem.W.krv_all]
/-- the text whose signs a walk from the end finds -/
def tRevS (te : TE) : TE := fun σ H Q => te σ H fun x H1 => ∃ z : Str, x = .str z ∧ z.length ≤ sizeLine ∧ Q (.str (revStr z)) H1
theorem pe_revS {te : TE} {k : Nat} {p1 p2 p3 : Pos} (he : PE X e te) : PE X (.Subscript e (.Slice none none (some (.UnaryOp .USub (.Constant (.int 1) k p1) p2)) p3) pos) (tRevS te) := by
  constructor
  intro pins s σ H Q I h
  refine Subscript_ (thn (he.run pins s σ H _ I h) fun v s1 ⟨x, H1, I1, r1, z, ez, hz, q⟩ => ?_)
  subst ez
  obtain ⟨tz, rfl⟩ := r1
  have hm : PO X (some (.UnaryOp .USub (.Constant (.int 1) k p1) p2)) (tPart (tUn (rU fun i => .int (-i)) (tC (.int 1)))) := po_some (pe_un un_neg pe_int)
  have nopart : ∀ {t : Shared} {G : Hp}, Inv X pins σ G t → wpAny (model X.prog X.w) X.A (evalPart none X.env) (fun v t' => v = .none ∧ Inv X pins σ G t') X.xe t := fun {t G} J =>
    thn (po_none.run pins t σ G (fun o G' => o = none ∧ G' = G) J ⟨rfl, rfl⟩) fun v t' ⟨o, G', J', po, e1, e2⟩ => by
      subst e1 e2
      obtain ⟨l, rfl, hl⟩ := IsPart.raw po
      cases l with
      | none => exact ⟨rfl, J'⟩
      | some l => cases hl
  refine wpAny_Slice (thn (nopart I1) fun vl s2 ⟨e2, I2⟩ => ?_)
  subst e2
  refine thn (nopart I2) fun vu s3 ⟨e3, I3⟩ => ?_
  subst e3
  refine thn (hm.run pins s3 σ H1 (fun o G => o = some (-1) ∧ G = H1) I3 ⟨1, rfl, -1, rfl, rfl, rfl⟩) fun vs s4 ⟨o, G, I4, po, e4, e5⟩ => ?_
  subst e4 e5
  obtain ⟨st, rfl, hst⟩ := IsPart.raw po
  obtain ⟨m, rfl⟩ : ∃ m, st = some m := by cases st with
    | none => cases hst
    | some m => exact ⟨m, rfl⟩
  obtain ⟨mi, mt⟩ := m
  simp only [Option.map_some, Option.some.injEq] at hst
  subst hst
  have I5 : Inv X pins σ G { s4 with heap := s4.heap.push { cls := .type "slice", data := .fields #[.none, .none, partValue (some (-1, mt))] } } := I4.kept (t' := s4.toks) fun b ob q => Heap.get?_push_of_some _ q
  refine tail_any (ops := [.str z tz, .ref s4.heap.objs.size]) (typeIs_str _ z tz) F.slot_str_getitem.lookup ?_ (by with_unfolding_all rfl)
  refine wpAny_getItem_str_slice (l := none) (u := none) (st := some (-1, mt)) ⟨_, Heap.get?_push_size _ rfl, rfl, rfl⟩ rfl ?_
  unfold sliceMade
  have e : (((Option.map (·.1) (some ((-1 : Int), mt))).getD 1 == 1 && (slicePicked z none none (some (-1, mt))).length == z.length) = true) = False := by
    simp
  rw [if_neg (by rw [e]; exact id)]
  have e2 : ((slicePicked z none none (some (-1, mt))).filterMap (z.cps[·]?)).toArray = z.cps.toList.reverse.toArray := revStr_pick z
  rw [e2]
  refine ⟨?_, .str _, G, I5.tok _, ⟨_, rfl⟩, q⟩
  have e3 : (z.cps.toList.reverse.toArray).size = z.length := by simp [Str.length]
  show (z.cps.toList.reverse.toArray).size ≤ sizeLine
  rw [e3]; exact hz
def dRevS (r : DTE) : DTE := fun E σ S Q => r E σ S fun d S' => match d with
  | .str z => z.length ≤ sizeLine ∧ Q (.str (revStr z)) S'
  | _ => False
theorem de_revS {k : Nat} {p1 p2 p3 : Pos} (he : DE X W e re) : DE X W (.Subscript e (.Slice none none (some (.UnaryOp .USub (.Constant (.int 1) k p1) p2)) p3) pos) (dRevS re) := by
  obtain ⟨t, p, q⟩ := he
  refine ⟨_, pe_revS p, ⟨fun E G H S σV σ Q P w k s h f => ?_⟩⟩
  refine q.run E G H S σV σ _ _ w k s h fun d S' G' H' v hd k' g r => ?_
  cases d with
  | str z => cases r; exact ⟨z, rfl, hd.1, f _ S' G' H' _ hd.2 k' g (.str _)⟩
  | _ => exact hd.elim
/-! ### sep.join(texts) -/
def strsOf : List D → Option (List Str)
  | [] => some []
  | .str z :: r => (strsOf r).map (z :: ·)
  | _ => none
theorem strs_rep {K : PySem.W.Frag} {G : Hp} : ∀ {vs : List V} {xs : List D} {ys : List Str}, RepL K G vs xs → strsOf xs = some ys → vs = ys.map V.str
  | [], _, ys, r, h => by cases r; simp only [strsOf, Option.some.injEq] at h; subst h; rfl
  | v :: vs, _, ys, r, h => by
    cases r with
    | @cons _ _ d ds r1 r2 =>
      cases d <;> simp only [strsOf, reduceCtorEq, Option.map_eq_some_iff] at h
      obtain ⟨zs, h1, rfl⟩ := h
      cases r1
      rw [strs_rep r2 h1]; rfl
def dJoin : D → List D → Sto → DK → Prop := fun x ys S Q => match x, ys with
  | .str a, [d] => ∃ xs zs, (vw S d = .lst xs ∨ vw S d = .tup xs) ∧ strsOf xs = some zs ∧ (zs.map (·.length)).sum + zs.length * a.length ≤ 16777216 ∧ Q (.str (Txt.join a zs)) S
  | _, _ => False
theorem dm_join : DM1 X "str.join" dJoin := ⟨_, mt_join, ⟨fun G H S x ys v vs Q P k r1 r2 h p => by
  unfold dJoin at h
  split at h
  · rename_i a d
    obtain ⟨xs, zs, hd, hz, hl, hq⟩ := h
    obtain ⟨u, rfl, ru⟩ := one_of r2
    cases r1
    rcases hd with hd | hd
    · obtain ⟨a1, us, e1, q1, l1⟩ := seq_of k ru hd
      rw [strs_rep l1 hz] at q1
      exact ⟨a, a1, zs, rfl, by rw [e1], .inl (.of q1), hl, p _ S G H _ hq k (.refl _ _ _) (.str _)⟩
    · obtain ⟨a1, us, e1, q1, l1, _⟩ := tup_of k ru hd
      rw [strs_rep l1 hz] at q1
      exact ⟨a, a1, zs, rfl, by rw [e1], .inr q1.sq, hl, p _ S G H _ hq k (.refl _ _ _) (.str _)⟩
  · exact h.elim⟩⟩
theorem de_join {o : Expr} {ro : DTE} {apos cpos : Pos} (ho : DE X W o ro) (he : DE X W e re) (hbase : attributeBase o "join" X.env (eval o X.env) = eval o X.env := by rfl)
    (hfew : ((backTo cpos (starEach [e] X.env)).all (fun x => !x.1) && (backToKw cpos (keywordEach [] X.env)).all (fun x => x.1.isSome)
      && decide (([e] : List Expr).length + ([] : List Keyword).length + (if ([] : List Keyword).isEmpty then 0 else 1) < 30)) = true := by rfl)
    (hline : (apos.endLine == cpos.line) = true := by rfl) (hs : starEach [e] X.env = (false, eval e X.env) :: starEach [] X.env := by rfl) (hplain : (backTo cpos (starEach [] X.env)).any (·.1) = false := by rfl) :
    DE X W (.Call (.Attribute o "join" apos) [e] [] cpos) (dBM "str" dJoin ro (dCons re dNil)) :=
  de_bm PySem.F.plainAttrs_str PySem.F.slot_str_join PySem.F.type_str_join dm_join ho (da_cons he da_nil hs) hbase hfew hline hs hplain
end
end KD

set_option maxRecDepth 100000
set_option maxHeartbeats 4000000
/-! KdY: a caught error's fields and kind, as data. -/
namespace KD
open PySem PySem.Spec PyProof.Rows L2
/-- what isinstance is asked of a caught error: the error at a, its class D, a class of the module or a built-in one -/
def rIsX (K : PySem.W.Frag) (D a : Addr) : List V → Hp → VK → Prop := fun xs H Q => match xs with
  | [x, c] => x = .ref a ∧ ∃ (cv : Value) (b : Bool), (∀ u, RelV c u → u = cv) ∧ PySem.W.kitOne K (.ref D) cv = some b ∧ Q (.bl b) H
  | _ => False
theorem call_isX {X : Cx} {a D dd : Addr} {oe : Obj} {pn : List (Addr × Obj)} {fs : List (Str × V)} (C : ExcC X.K D) (hz : Zc (.ref D) (some dd) oe) (hf : ∃ vs, oe.data = .fields vs) :
    CallR (X.suite a ((a, oe) :: pn)) (.builtin "isinstance") (fun xs H Q => H dd = some (.xd fs) ∧ rIsX X.K D a xs H Q) := fun pins s σ H xs us Q I r h => by
  match xs, us, r, h with
  | [_, c], [w, u], .cons rx (.cons rt .nil), ⟨hdd, e0, cv, b, hcv, e, q⟩ =>
    subst e0
    obtain rfl : w = .ref a := rx
    have hu := hcv u rt
    subst hu
    have own := (I.pin (a, oe) (by simp)).1
    obtain ⟨_, hns, _⟩ := I.hok dd _ hdd
    obtain ⟨od, ho, _⟩ := lookIn_ns hns
    obtain ⟨vs, hv⟩ := hf
    have at_ : PySem.W.InstAt s.heap a oe D (some od) := by
      refine ⟨own, hz.1, ?_, by rw [hz.2]; exact ho⟩
      rw [PySem.W.notCls, hv] <;> first | rfl | trivial
    refine PySem.W.kia_one (PySem.W.kitx_exc ?_ C.hg C.hk C.hs C.ha C.hn C.ht C.hm) I.kIn at_ e (by intro z; cases z) fun tk => ?_
    · have z := C.hd
      unfold PySem.W.hasDictIn at z
      cases y : PySem.W.clsIn X.K D with
      | none => rw [y] at z; cases z
      | some _ => rfl
    · exact ⟨.bl b, H, I.kept (t' := tk) (fun _ _ z => z), rfl, q⟩
/-! ### over data -/
def subN (x y : Str) : Bool := x == y || y == ("HouseError" : Str)
/-- what the module tells of its errors: T those that may be raised, U those that are named -/
structure ErrT (K : PySem.W.Frag) (mg : Str → Option Value) (C : Str → Addr) (T U : List Str) : Prop where
  cls : ∀ x ∈ T, ExcC K (C x) ∧ XfC K (C x)
  fld : ∀ x ∈ T, PySem.W.findIn K (.ref (C x)) "value" = some none
  two : ∀ x ∈ T, ∀ y ∈ U, PySem.W.exmOne K (.ref (C x)) (.ref (C y)) = some (subN x y) ∧ PySem.W.kitOne K (.ref (C x)) (.ref (C y)) = some (subN x y)
  val : ∀ x ∈ T, PySem.W.kitOne K (.ref (C x)) (.type "ValueError") = some true
  glb : ∀ y ∈ U, mg y = some (.ref (C y)) ∧ PySem.W.keepIn K (.ref (C y)) = true
theorem repF_lookup {K : PySem.W.Frag} {G : Hp} {n : Str} {d : D} : ∀ {vs : List (Str × V)} {fs : List (Str × D)}, RepF K G vs fs → fs.lookup n = some d → ∃ v, vs.lookup n = some v ∧ Rep K G v d
  | [], _, h, e => by cases h; simp at e
  | (k, v) :: vs, (k', d') :: fs, h, e => by
    cases h with
    | cons h1 h2 =>
      obtain ⟨e1, r⟩ := h1
      dsimp only at e1 r
      subst e1
      by_cases c : (n == k) = true
      · rw [List.lookup_cons, c] at e
        cases e
        exact ⟨v, by rw [List.lookup_cons, c], r⟩
      · have c : (n == k) = false := by simpa using c
        rw [List.lookup_cons, c] at e
        obtain ⟨w, h3, h4⟩ := repF_lookup h2 e
        exact ⟨w, by rw [List.lookup_cons, c]; exact h3, h4⟩
def hS (K : PySem.W.Frag) (W : WX) (r : DTS) : TS := fun Dh σV H => ∃ (Dd : DEnds) (G : Hp) (S : Sto) (σ : DSt), EndsOk K W Dd G H S Dh ∧ Wok K G H S ∧ Sl K G σV σ ∧ r Dd σ S
theorem DSs.can {X : Cx} {W : WX} {sts : List Stmt} {r : DTS} (h : DSs X W sts r) : PSs X sts (hS X.K W r) := by
  obtain ⟨t, p, q⟩ := h
  exact ⟨fun pins s σ H D I ⟨Dd, G, S, σ', e, k, sl, hr⟩ => p.run pins s σ H D I (q.run Dd G H S σ σ' D e k sl hr)⟩
theorem Fr.drop {G H G' H' : Hp} {S S' : Sto} {p : Addr} (f : Fr G H S G' H' S') : Fr G H S G' H' (rem S' p) := ⟨f.g, fun a o h g s n => by
  obtain ⟨h1, h2, h3⟩ := f.fr a o h g s n
  refine ⟨h1, h2, ?_⟩
  unfold rem; split <;> first | rfl | exact h3⟩
section
variable {X : Cx} {W : WX} {C : Str → Addr} {T U : List Str} {a dd : Addr} {x : Str} {oe : Obj} {pn : List (Addr × Obj)}
/-- e.n, e the caught error -/
def kXf (a dd : Addr) (n : Str) (Q : DK) (d : D) (S : Sto) : Prop := d = .ref a ∧ ∃ fs v, S dd = some (.xd fs) ∧ fs.lookup n = some v ∧ Q v S
def dXf (a dd : Addr) (i : Nat) (n : Str) : DTE := fun E σ S Q => dVar i E σ S fun d S' => kXf a dd n Q d S'
theorem de_xf {i : Nat} {al n : Str} {p pos : Pos} (E : ErrT X.K X.mg C T U) (hx : x ∈ T) (hno : PySem.W.findIn X.K (.ref (C x)) n = some none) (hz : Zc (.ref (C x)) (some dd) oe) (hf : ∃ vs, oe.data = .fields vs)
    (hN : X.N[i]? = some al) (hv : Vis X.env.scope al) (hd : (al == ("__debug__" : Str)) = false := by decide) (hcd : (al == ("__classdict__" : Str)) = false := by decide) (hb : attributeBase (.Name al p) n X.env (eval (.Name al p) X.env) = eval (.Name al p) X.env := by rfl) :
    DE (X.suite a ((a, oe) :: pn)) W (.Attribute (.Name al p) n pos) (dXf a dd i n) := by
  refine ⟨_, pe_xf (X := X) (E.cls x hx).2 hno hz hf (pe_var (X := X.suite a ((a, oe) :: pn)) (i := i) hN hv hd hcd) hb, ⟨fun E G H S σV σ Q P w k s h q => ?_⟩⟩
  unfold dXf dVar at h
  split at h
  rotate_left
  · exact h.elim
  rename_i d h1
  obtain ⟨rfl, fs, v, h2, h3, h4⟩ := h
  obtain ⟨u, h5, h6⟩ := s.at_ i _ h1
  cases h6
  obtain ⟨_, vs, h7, h8⟩ := k.sto dd _ h2
  obtain ⟨u, h9, r⟩ := repF_lookup h8 h3
  exact ⟨.ref a, h5, rfl, rfl, dd, vs, u, rfl, h7, h9, q v S G H u h4 k (.refl _ _ _) r⟩
/-- isinstance(e, y), y an own error or ValueError -/
def kIsX (a dd : Addr) (b : Bool) (Q : DK) (d : D) (S : Sto) : Prop := d = .ref a ∧ (∃ fs, S dd = some (.xd fs)) ∧ Q (.bl b) S
def dIsX (a dd : Addr) (i : Nat) (b : Bool) : DTE := fun E σ S Q => dVar i E σ S fun d S' => kIsX a dd b Q d S'
theorem de_isXv {i : Nat} {al y : Str} {v : V} {cv : Value} {b : Bool} {p p2 p3 pos : Pos} (E : ErrT X.K X.mg C T U) (hx : x ∈ T) (hz : Zc (.ref (C x)) (some dd) oe) (hf : ∃ vs, oe.data = .fields vs)
    (hg : Gl X "isinstance") (hm : X.mg "isinstance" = none) (hN : X.N[i]? = some al) (hv : Vis X.env.scope al) (hy : PE (X.suite a ((a, oe) :: pn)) (.Name y p3) (tC v)) (hc : ∀ u, RelV v u → u = cv) (hk : PySem.W.kitOne X.K (.ref (C x)) cv = some b)
    (hd : (al == ("__debug__" : Str)) = false := by decide) (hcd : (al == ("__classdict__" : Str)) = false := by decide)
    (hs : starEach [.Name al p2, .Name y p3] X.env = (false, eval (.Name al p2) X.env) :: starEach [.Name y p3] X.env := by rfl) (hs2 : starEach [.Name y p3] X.env = (false, eval (.Name y p3) X.env) :: starEach [] X.env := by rfl) (hpl : (backTo pos (starEach [.Name y p3] X.env)).any (·.1) = false := by rfl) :
    DE (X.suite a ((a, oe) :: pn)) W (.Call (.Name "isinstance" p) [.Name al p2, .Name y p3] [] pos) (dIsX a dd i b) := by
  have pa : PA (X.suite a ((a, oe) :: pn)) [.Name al p2, .Name y p3] _ := pa_cons (pe_var (X := X.suite a ((a, oe) :: pn)) (i := i) hN hv hd hcd) (pa_cons hy pa_nil hs2) hs
  have key : ∀ fs : List (Str × V), PE (X.suite a ((a, oe) :: pn)) (.Call (.Name "isinstance" p) [.Name al p2, .Name y p3] [] pos) _ := fun fs => pe_callB (X := X.suite a ((a, oe) :: pn)) (call_isX (fs := fs) (E.cls x hx).1 hz hf) hg hm (by decide +kernel) pa (by decide) (by decide) hs hpl
  refine ⟨fun σV H Q => ∃ fs, σV[i]? = some (some (.ref a)) ∧ H dd = some (.xd fs) ∧ Q (.bl b) H, ⟨fun pins s σ H Q I ⟨fs, h1, h2, h3⟩ => (key fs).run pins s σ H Q I ?_⟩, ⟨fun E G H S σV σ Q P w k s h q => ?_⟩⟩
  · exact ⟨.ref a, h1, h2, rfl, cv, b, hc, hk, h3⟩
  · unfold dIsX dVar at h
    split at h
    rotate_left
    · exact h.elim
    rename_i d h1
    obtain ⟨rfl, ⟨fs, h2⟩, h3⟩ := h
    obtain ⟨u, h5, h6⟩ := s.at_ i _ h1
    cases h6
    obtain ⟨_, vs, h7, h8⟩ := k.sto dd _ h2
    exact ⟨vs, h5, h7, q _ S G H _ h3 k (.refl _ _ _) (.bl _)⟩
theorem de_isX {i : Nat} {al y : Str} {p p2 p3 pos : Pos} (E : ErrT X.K X.mg C T U) (hx : x ∈ T) (hz : Zc (.ref (C x)) (some dd) oe) (hf : ∃ vs, oe.data = .fields vs) (hy : y ∈ U)
    (hg : Gl X "isinstance") (hm : X.mg "isinstance" = none) (hN : X.N[i]? = some al) (hv : Vis X.env.scope al) (hgy : Gl X y) (hdy : (y == ("__debug__" : Str)) = false := by decide)
    (hd : (al == ("__debug__" : Str)) = false := by decide) (hcd : (al == ("__classdict__" : Str)) = false := by decide)
    (hs : starEach [.Name al p2, .Name y p3] X.env = (false, eval (.Name al p2) X.env) :: starEach [.Name y p3] X.env := by rfl) (hs2 : starEach [.Name y p3] X.env = (false, eval (.Name y p3) X.env) :: starEach [] X.env := by rfl) (hpl : (backTo pos (starEach [.Name y p3] X.env)).any (·.1) = false := by rfl) :
    DE (X.suite a ((a, oe) :: pn)) W (.Call (.Name "isinstance" p) [.Name al p2, .Name y p3] [] pos) (dIsX a dd i (subN x y)) :=
  de_isXv E hx hz hf hg hm hN hv (pe_glob (X := X.suite a ((a, oe) :: pn)) (v := .ref (C y)) hgy (E.glb y hy).1 rfl hdy) (fun u r => r) (E.two x hx y hy).2 hd hcd hs hs2 hpl
theorem de_isXV {i : Nat} {al : Str} {p p2 p3 pos : Pos} (E : ErrT X.K X.mg C T U) (hx : x ∈ T) (hz : Zc (.ref (C x)) (some dd) oe) (hf : ∃ vs, oe.data = .fields vs)
    (hg : Gl X "isinstance") (hm : X.mg "isinstance" = none) (hN : X.N[i]? = some al) (hv : Vis X.env.scope al) (hgy : Gl X "ValueError") (hmy : X.mg "ValueError" = none)
    (hd : (al == ("__debug__" : Str)) = false := by decide) (hcd : (al == ("__classdict__" : Str)) = false := by decide)
    (hs : starEach [.Name al p2, .Name "ValueError" p3] X.env = (false, eval (.Name al p2) X.env) :: starEach [.Name "ValueError" p3] X.env := by rfl) (hs2 : starEach [.Name "ValueError" p3] X.env = (false, eval (.Name "ValueError" p3) X.env) :: starEach [] X.env := by rfl) (hpl : (backTo pos (starEach [.Name "ValueError" p3] X.env)).any (·.1) = false := by rfl) :
    DE (X.suite a ((a, oe) :: pn)) W (.Call (.Name "isinstance" p) [.Name al p2, .Name "ValueError" p3] [] pos) (dIsX a dd i true) :=
  de_isXv E hx hz hf hg hm hN hv (pe_bltn (X := X.suite a ((a, oe) :: pn)) (v := .ty "ValueError") hgy hmy (by decide +kernel) rfl) (fun u r => r) (E.val x hx) hd hcd hs hs2 hpl
end
end KD

set_option maxRecDepth 100000
set_option maxHeartbeats 4000000
/-! KdD: dicts as data. -/
namespace KD
open PySem PySem.Spec PyProof.Rows L2
def keyOf : D → Option Key
  | .int i => some (.inl i)
  | .str x => some (.inr x)
  | _ => none
def kD : Key → D
  | .inl i => .int i
  | .inr x => .str x
def valD {κ : Type} [DecidableEq κ] (kvs : List (κ × D)) (k : κ) : Option D := (kvs.find? fun kv => decide (kv.1 = k)).map (·.2)
def putD {κ : Type} [DecidableEq κ] (kvs : List (κ × D)) (k : κ) (v : D) : List (κ × D) :=
  if kvs.any (fun kv => decide (kv.1 = k)) then kvs.map fun kv => if kv.1 = k then (kv.1, v) else kv else kvs ++ [(k, v)]
def dropD {κ : Type} [DecidableEq κ] (kvs : List (κ × D)) (k : κ) : List (κ × D) := kvs.filter fun kv => decide (kv.1 ≠ k)
def mergeD (kvs more : List (Key × D)) : List (Key × D) := more.foldl (fun acc kv => putD acc kv.1 kv.2) kvs
section
variable {K : PySem.W.Frag} {G : Hp}
theorem key_rep {v : V} {d : D} {k : Key} (r : Rep K G v d) (h : keyOf d = some k) : v = kV k := by
  cases r <;> simp only [keyOf, reduceCtorEq, Option.some.injEq] at h <;> subst h <;> rfl
theorem kV_rep (k : Key) : Rep K G (kV k) (kD k) := by cases k; exact .int _; exact .str _
theorem repK_find (k : Key) : ∀ {vs : List (Key × V)} {ds : List (Key × D)}, RepK K G vs ds → (valD ds k = none → valV vs k = none) ∧ ∀ d, valD ds k = some d → ∃ v, valV vs k = some v ∧ Rep K G v d
  | [], _, h => by cases h; exact ⟨fun _ => rfl, fun d e => by cases e⟩
  | (k', v) :: vs, _, h => by
    cases h with
    | @cons _ _ _ d ds h1 h2 =>
      by_cases c : k' = k
      · have e1 : valD ((k', d) :: ds) k = some d := by simp [valD, c]
        have e2 : valV ((k', v) :: vs) k = some v := valV_pos c
        rw [e1, e2]
        refine ⟨fun z => ?_, fun d' z => ?_⟩
        · cases z
        · cases z; exact ⟨v, rfl, h1⟩
      · have e1 : valD ((k', d) :: ds) k = valD ds k := by simp [valD, List.find?_cons, c]
        have e2 : valV ((k', v) :: vs) k = valV vs k := valV_neg c
        rw [e1, e2]
        exact repK_find k h2
theorem RepK.length : ∀ {vs : List (Key × V)} {ds : List (Key × D)}, RepK K G vs ds → vs.length = ds.length
  | [], _, h => by cases h; rfl
  | _ :: vs, _, h => by
    cases h with
    | cons h1 h2 => simp [RepK.length h2]
theorem RepK.keys : ∀ {vs : List (Key × V)} {ds : List (Key × D)}, RepK K G vs ds → vs.map (·.1) = ds.map (·.1)
  | [], _, h => by cases h; rfl
  | _ :: vs, _, h => by
    cases h with
    | cons h1 h2 => simp [RepK.keys h2]
theorem RepK.keysL {vs : List (Key × V)} {ds : List (Key × D)} (h : RepK K G vs ds) : RepL K G (vs.map fun kv => kV kv.1) (ds.map fun kv => kD kv.1) := by
  induction vs generalizing ds with
  | nil => cases h; exact .nil
  | cons p vs ih =>
    cases h with
    | cons h1 h2 => exact .cons (kV_rep _) (ih h2)
theorem RepK.any (k : Key) : ∀ {vs : List (Key × V)} {ds : List (Key × D)}, RepK K G vs ds → (vs.any fun kv => decide (kv.1 = k)) = ds.any fun kv => decide (kv.1 = k)
  | [], _, h => by cases h; rfl
  | _ :: vs, _, h => by
    cases h with
    | cons h1 h2 => simp only [List.any_cons, RepK.any k h2]
theorem RepK.repl {k : Key} {v : V} {d : D} (r : Rep K G v d) : ∀ {vs : List (Key × V)} {ds : List (Key × D)}, RepK K G vs ds → RepK K G (vs.map fun kv => if kv.1 = k then (kv.1, v) else kv) (ds.map fun kv => if kv.1 = k then (kv.1, d) else kv)
  | [], _, h => by cases h; exact .nil
  | (k', v') :: vs, _, h => by
    cases h with
    | @cons _ _ _ d' ds h1 h2 =>
      simp only [List.map_cons]
      by_cases c : k' = k
      · rw [if_pos c, if_pos c]; exact .cons r (RepK.repl r h2)
      · rw [if_neg c, if_neg c]; exact .cons h1 (RepK.repl r h2)
theorem RepK.snoc {k : Key} {v : V} {d : D} (r : Rep K G v d) : ∀ {vs : List (Key × V)} {ds : List (Key × D)}, RepK K G vs ds → RepK K G (vs ++ [(k, v)]) (ds ++ [(k, d)])
  | [], _, h => by cases h; exact .cons r .nil
  | _ :: vs, _, h => by
    cases h with
    | cons h1 h2 => exact .cons h1 (RepK.snoc r h2)
theorem RepK.put {k : Key} {v : V} {d : D} {vs : List (Key × V)} {ds : List (Key × D)} (h : RepK K G vs ds) (r : Rep K G v d) : RepK K G (putK vs k v) (putD ds k d) := by
  unfold putK putD
  rw [h.any k]
  split
  · exact h.repl r
  · exact h.snoc r
theorem RepK.merge : ∀ {ms : List (Key × V)} {md : List (Key × D)} {vs : List (Key × V)} {ds : List (Key × D)}, RepK K G ms md → RepK K G vs ds → RepK K G (mergeK vs ms) (mergeD ds md)
  | [], _, _, _, h, q => by cases h; exact q
  | (ky, v) :: ms, _, vs, ds0, h, q => by
    cases h with
    | @cons _ _ _ d ds h1 h2 => exact RepK.merge (vs := putK vs ky v) (ds := putD ds0 ky d) h2 (q.put h1)
theorem RepK.drop (k : Key) : ∀ {vs : List (Key × V)} {ds : List (Key × D)}, RepK K G vs ds → RepK K G (dropK vs k) (dropD ds k)
  | [], _, h => by cases h; exact .nil
  | (k', v) :: vs, _, h => by
    cases h with
    | @cons _ _ _ d ds h1 h2 =>
      unfold dropK dropD
      simp only [List.filter_cons]
      by_cases c : k' = k
      · simp only [c, ne_eq, not_true, decide_false, Bool.false_eq_true, if_false]
        exact RepK.drop k h2
      · simp only [c, ne_eq, not_false_eq_true, decide_true, if_true]
        exact .cons h1 (RepK.drop k h2)
/-- a dict of data, locked or in the store -/
theorem dic_of {H : Hp} {S : Sto} {v : V} {d : D} {xs : List (Key × D)} (k : Wok K G H S) (r : Rep K G v d) (h : vw S d = .dic xs) : ∃ a vs, v = .ref a ∧ Rd H a (.dK vs) ∧ RepK K G vs xs := by
  unfold vw at h
  split at h
  · rename_i p
    cases r
    split at h
    · cases h
    · rename_i ys hp
      cases h
      obtain ⟨_, vs, q1, q2⟩ := k.sto p _ hp
      exact ⟨p, vs, rfl, .inl q1, q2⟩
    · cases h
    · cases h
  · subst h
    cases r with
    | dic h1 h2 => exact ⟨_, _, rfl, .inr ⟨_, k.ext _ _ h1⟩, h2⟩
/-- what was made here becomes data that never changes -/
theorem Wok.lockN {H0 G1 H1 : Hp} {S0 S1 : Sto} {G0 : Hp} {p : Addr} {o : HO} (w0 : Wok K G0 H0 S0) (n : H0 p = none) (w : Wok K G1 H1 S1) (f : Fr G0 H0 S0 G1 H1 S1) (g : G1 p = none) (s : S1 p = none) (ho : ∀ ps, o ≠ .tbl ps := by nofun) :
    Wok K (upd G1 p o) (upd H1 p o) S1 ∧ Fr G0 H0 S0 (upd G1 p o) (upd H1 p o) S1 := by
  refine ⟨(w.hid g s).show upd_same s ho, ⟨f.g.trans (Evl.Ex.new g), fun a u e ga sa z => ?_⟩⟩
  have c : a ≠ p := fun c => by subst c; rw [n] at e; cases e
  obtain ⟨h1, h2, h3⟩ := f.fr a u e ga sa z
  exact ⟨by rw [upd_ne c]; exact h1, by rw [upd_ne c]; exact h2, h3⟩
end
section
variable {X : Cx} {W : WX} {K : PySem.W.Frag} {e : Expr} {ra : DTE} {pos : Pos}
/-! ### locking -/
theorem pe_lock {t : TE} (h : PE X e t) : PE X e (fun σ H Q => t σ H fun v H1 => ∃ d u, v = .ref d ∧ H1 d = some u ∧ Mut (some u) ∧ ∀ od, Q v (upd H1 d (.frz od u))) := by
  refine ⟨fun pins s σ H Q I q => thn (h.run pins s σ H _ I q) fun u s1 ⟨v, H1, I1, rv, d, o, ev, hd, mu, q1⟩ => ?_⟩
  obtain ⟨od, I2⟩ := I1.lock hd mu
  exact ⟨v, _, I2, rv, q1 od⟩
/-! ### displays -/
def dPairs : List (DTE × DTE) → DEr → DSt → Sto → (List (D × D) → Sto → Prop) → Prop
  | [], _, _, S, Q => Q [] S
  | (a, b) :: r, E, σ, S, Q => a E σ S fun x S1 => b E σ S1 fun y S2 => dPairs r E σ S2 fun ps S3 => Q ((x, y) :: ps) S3
def pairsK : List (D × D) → Option (List (Key × D))
  | [] => some []
  | (x, y) :: r => match keyOf x, pairsK r with
    | some k, some l => some ((k, y) :: l)
    | _, _ => none
inductive RepP (K : PySem.W.Frag) (G : Hp) : List (V × V) → List (D × D) → Prop
  | nil : RepP K G [] []
  | cons {x y : V} {a b : D} {vs : List (V × V)} {ds : List (D × D)} : Rep K G x a → Rep K G y b → RepP K G vs ds → RepP K G ((x, y) :: vs) ((a, b) :: ds)
theorem repP_K {G : Hp} : ∀ {vs : List (V × V)} {ds : List (D × D)} {kvs : List (Key × D)}, RepP K G vs ds → pairsK ds = some kvs → ∃ us, vs = us.map (fun kv => (kV kv.1, kv.2)) ∧ RepK K G us kvs
  | [], _, _, h, e => by cases h; simp only [pairsK, Option.some.injEq] at e; subst e; exact ⟨[], rfl, .nil⟩
  | (x, y) :: vs, _, _, h, e => by
    cases h with
    | @cons _ _ a b _ ds h1 h2 h3 =>
      simp only [pairsK] at e
      split at e
      · rename_i k l hk hl
        cases e
        obtain ⟨us, rfl, h4⟩ := repP_K h3 hl
        exact ⟨(k, y) :: us, by rw [key_rep h1 hk]; rfl, .cons h2 h4⟩
      · cases e
inductive EvPs (K : PySem.W.Frag) (W : WX) : List (TE × TE) → List (DTE × DTE) → Prop
  | nil : EvPs K W [] []
  | cons {a b : TE} {ra rb : DTE} {l : List (TE × TE)} {m : List (DTE × DTE)} : EvD K W a ra → EvD K W b rb → EvPs K W l m → EvPs K W ((a, b) :: l) ((ra, rb) :: m)
theorem evps_run {l : List (TE × TE)} {m : List (DTE × DTE)} (h : EvPs K W l m) : ∀ (E : DEr) (G H : Hp) (S : Sto) (σV : L2.St) (σ : DSt) (Q : List (D × D) → Sto → Prop) (P : List (V × V) → Hp → Prop), WOk K W E σV G H S → Wok K G H S → Sl K G σV σ → dPairs m E σ S Q →
    (∀ ds S' G' H' vs, Q ds S' → Wok K G' H' S' → Fr G H S G' H' S' → RepP K G' vs ds → P vs H') → tPairs l σV H P := by
  induction h with
  | nil => exact fun E G H S σV σ Q P w k s hr p => p [] S G H [] hr k (.refl _ _ _) .nil
  | cons ea eb _ ih =>
    intro E G H S σV σ Q P w k s hr p
    refine ea.run E G H S σV σ _ _ w k s hr fun x S1 G1 H1 v h1 k1 f1 r1 => ?_
    refine eb.run E G1 H1 S1 σV σ _ _ (w.mono f1) k1 (s.mono f1.g) h1 fun y S2 G2 H2 u h2 k2 f2 r2 => ?_
    refine ih E G2 H2 S2 σV σ _ _ (w.mono (f1.trans f2)) k2 (s.mono (f1.trans f2).g) h2 fun ps S3 G3 H3 vs h3 k3 f3 r3 => ?_
    exact p _ S3 G3 H3 _ h3 k3 ((f1.trans f2).trans f3) (.cons (r1.mono (f2.trans f3).g) (r2.mono f3.g) r3)
def DPPs (X : Cx) (W : WX) (pos : Pos) (keys : List (Option Expr)) (values : List Expr) (m : List (DTE × DTE)) : Prop := ∃ l, PPs X pos keys values l ∧ EvPs X.K W l m
theorem dpps_nil : DPPs X W pos [] [] [] := ⟨_, pps_nil, .nil⟩
theorem dpps_cons {k v : Expr} {ks : List (Option Expr)} {vs : List Expr} {rk rv : DTE} {m : List (DTE × DTE)} (hk : DE X W k rk) (hv : DE X W v rv) (hr : DPPs X W pos ks vs m) : DPPs X W pos (some k :: ks) (v :: vs) ((rk, rv) :: m) := by
  obtain ⟨tk, pk, ek⟩ := hk
  obtain ⟨tv, pv, ev⟩ := hv
  obtain ⟨l, pl, el⟩ := hr
  exact ⟨_, pps_cons pk pv pl, .cons ek ev el⟩
def dDisp (m : List (DTE × DTE)) : DTE := fun E σ S Q => dPairs m E σ S fun ps S' => ∃ kvs, pairsK ps = some kvs ∧ kvs.length ≤ 15 ∧ Q (.dic (mergeD [] kvs)) S'
/-- a dict that will change -/
def dDispM (m : List (DTE × DTE)) : DTE := fun E σ S Q => dPairs m E σ S fun ps S' => ∃ kvs, pairsK ps = some kvs ∧ kvs.length ≤ 15 ∧ ∀ p, S' p = none → Q (.ref p) (put S' p (.dic (mergeD [] kvs)))
theorem de_disp {keys : List (Option Expr)} {values : List Expr} {m : List (DTE × DTE)} (h : DPPs X W pos keys values m) (hall : keys.all (·.isSome) = true) (hl : keys.length = values.length) (h0 : keys ≠ []) (hn : keys.length ≤ 15) : DE X W (.Dict keys values pos) (dDisp m) := by
  obtain ⟨l, p, q⟩ := h
  refine ⟨_, pe_lock (pe_disp p hall hl h0 hn), ⟨fun E G H S σV σ Q P w k s hr f => ?_⟩⟩
  intro b hb
  obtain ⟨k1, f1⟩ := k.newH (o := .dK []) hb
  refine evps_run q E _ _ S σV σ _ _ (w.mono f1) k1 (s.mono f1.g) hr fun ds S2 G2 H2 vs hq k2 f2 r2 => ?_
  obtain ⟨kvs, e1, e2, hq⟩ := hq
  obtain ⟨us, rfl, ru⟩ := repP_K r2 e1
  have gb := k.freeG hb
  have sb := k.freeS hb
  obtain ⟨h3, g3, s3⟩ := f2.fr b _ upd_same gb sb trivial
  refine ⟨h3, us, rfl, by rw [ru.length]; exact e2, b, _, rfl, upd_same, trivial, fun od => ?_⟩
  obtain ⟨k4, f4⟩ := Wok.lockN (o := .frz od (.dK (mergeK [] us))) k hb k2 (f1.trans f2) g3 s3
  have e : upd (upd H2 b (.dK (mergeK [] us))) b (.frz od (.dK (mergeK [] us))) = upd H2 b (.frz od (.dK (mergeK [] us))) := by
    funext x; unfold upd; split <;> rfl
  rw [e]
  exact f _ _ _ _ _ hq k4 f4 (.dic upd_same ((ru.merge .nil).mono (Evl.Ex.new g3)))
def dDict0 : DTE := fun _ _ S Q => Q (.dic []) S
theorem de_dict0 : DE X W (.Dict [] [] pos) dDict0 := by
  refine ⟨_, pe_lock pe_dnewK, ⟨fun E G H S σV σ Q P w k s hr f => ?_⟩⟩
  intro b hb
  refine ⟨b, _, rfl, upd_same, trivial, fun od => ?_⟩
  have e : upd (upd H b (.dK [])) b (.frz od (.dK [])) = upd H b (.frz od (.dK [])) := by
    funext x; unfold upd; split <;> rfl
  rw [e]
  obtain ⟨k4, f4⟩ := k.newG (o := .frz od (.dK [])) hb
  exact f _ _ _ _ _ hr k4 f4 (.dic upd_same .nil)
def dDict0M : DTE := fun _ _ S Q => ∀ p, S p = none → Q (.ref p) (put S p (.dic []))
theorem de_dict0M : DE X W (.Dict [] [] pos) dDict0M := by
  refine ⟨_, pe_dnewK, ⟨fun E G H S σV σ Q P w k s hr f => ?_⟩⟩
  intro b hb
  obtain ⟨k2, f2⟩ := k.newS (o := .dK []) (m := .dic []) hb ⟨[], upd_same, .nil⟩
  exact f _ _ _ _ _ (hr b (k.freeS hb)) k2 f2 (.ref b)
/-! ### d[k] -/
theorem ix_dict (hu : X.A.units + 1 < cLine) : IxR X (fun x y H Q => ∃ a v, x = .ref a ∧ DGet H a y (some v) ∧ Q v H) := by
  intro value slice pins s σ H x y v u Q I rx ry h hs
  obtain ⟨a, z, ex, g, q⟩ := h
  subst ex
  obtain rfl : v = Value.ref a := rx
  have hT := dict_typeIs I g
  unfold subscriptTail
  refine wpAny_bind ?_
  rw [getitemInPython_of_ne hT.not_modules]
  refine wpAny_bind (wpAny_specialOf hT PySem.F.slot_dict_getitem.lookup ?_)
  have fin : wpAny (model X.prog X.w) X.A (subscripted slice false (.ref a) u) (fun r s₃ => wpAny (model X.prog X.w) X.A (letTemporaryGo value (.ref a) r >>= fun _ => pure r) (EP X pins σ Q) X.xe s₃) X.xe s := by
    rw [hs]
    exact wpAny_operating (wpAny_mono (d_getItem hu I g ry fun w' s3 I3 rw' => (show EP X pins σ Q w' s3 from ⟨z, H, I3, rw', q⟩)) (fun r s₃ h₃ => wpAny_bind (wpAny_letTemporaryGo (wpAny_pure h₃))) fun _ _ x => x)
  first
    | exact wpAny_pure (wpAny_bind fin)
    | exact wpAny_bind (wpAny_pure (wpAny_bind fin))
    | exact wpAny_bind fin
def dIxD : D → D → Sto → DK → Prop := fun x y S Q => ∃ kvs k d, vw S x = .dic kvs ∧ keyOf y = some k ∧ valD kvs k = some d ∧ Q d S
theorem dix_dict (hu : X.A.units + 64 < cLine) : DIx X dIxD := ⟨_, ix_dict (by omega), ⟨fun G H S x y v u Q P k r1 r2 h p => by
  obtain ⟨kvs, ky, d, h1, h2, h3, h4⟩ := h
  obtain ⟨a, vs, rfl, hr, rk⟩ := dic_of k r1 h1
  obtain ⟨z, hz, rz⟩ := (repK_find ky rk).2 d h3
  exact ⟨a, z, rfl, .inl ⟨vs, ky, hr, key_rep r2 h2, hz.symm⟩, p d S G H z h4 k (.refl _ _ _) rz⟩⟩⟩
theorem DIx.or {q q' q2 : D → D → Sto → DK → Prop} (h : DIx X q) (h' : DIx X q') (hq : ∀ x y S Q, q2 x y S Q → q x y S Q ∨ q' x y S Q) : DIx X q2 := by
  obtain ⟨r, o, e⟩ := h
  obtain ⟨r', o', e'⟩ := h'
  exact ⟨_, o.or o', rvd_or e e' hq⟩
/-- x[y] of a sequence or a dict -/
def dIxG : D → D → Sto → DK → Prop := fun x y S Q => match vw S x with
  | .dic kvs => ∃ k d, keyOf y = some k ∧ valD kvs k = some d ∧ Q d S
  | .lst xs => match y with
    | .int i => ∃ d, atI xs i = some d ∧ Q d S
    | _ => False
  | .tup xs => match y with
    | .int i => ∃ d, atI xs i = some d ∧ Q d S
    | _ => False
  | .scr ns => match y with
    | .int i => ∃ n, atI ns i = some n ∧ Q (.int n) S
    | _ => False
  | .str z => match y with
    | .int i => z.length ≤ sizeLine ∧ ∃ c, atI z.cps.toList i = some c ∧ Q (.str ⟨#[c]⟩) S
    | _ => False
  | _ => False
theorem dix_G (hu : X.A.units + 64 < cLine) : DIx X dIxG := dix_seq.or (dix_dict hu) fun x y S Q h => by
  unfold dIxG at h
  split at h
  · rename_i kvs e; obtain ⟨k, d, h1, h2, h3⟩ := h; exact .inr ⟨kvs, k, d, e, h1, h2, h3⟩
  all_goals first
    | exact h.elim
    | (rename_i e
       split at h
       · refine .inl ?_
         unfold dIxS; rw [e]; exact h
       · exact h.elim)
/-! ### walks -/
theorem pi_srcD {tg e : Expr} {tl : TE} (hl : PE X e tl) : PI X tg e (fun σ H R => tl σ H fun x H1 => (∃ k : SrcK, x = k.v ∧ k.gd X.K H1 ∧ R (k.J X.K) H1) ∨ ∃ d o kvs, x = .ref d ∧ H1 d = some (.frz o (.dK kvs)) ∧ R (Itk d o kvs) H1) := by
  refine ⟨fun pins s σ H R I h => ?_⟩
  refine thn (hl.run pins s σ H _ I h) fun v s1 ⟨x, H1, I1, r1, hh⟩ => ?_
  rcases hh with ⟨k, hx, hq, q⟩ | ⟨d, o, kvs, hx, hd, q⟩
  · subst hx
    cases k with
    | lst a vs =>
      obtain rfl : v = .ref a := r1
      obtain ⟨its, rv, p, hz⟩ := I1.list hq
      refine wpAny_pyIter_list p.isList ?_
      refine ⟨s1.heap.objs.size, [s1.heap.objs.size], _, _, H1, rfl, I1.kept (t' := s1.toks) fun b o e => Heap.get?_push_of_some _ e, turn_list a _, ⟨_, Heap.get?_push_size _ rfl, rfl, rfl⟩, fun b hb => ?_, q⟩
      have e : b = s1.heap.objs.size := by simpa using hb
      subst e
      exact I1.fpOk (Nat.le_refl _) (I1.hok.fresh (Nat.le_refl _))
    | tup a vs =>
      obtain rfl : v = .ref a := r1
      obtain ⟨its, rv, p, hz⟩ := I1.tuple hq
      refine wpAny_pyIter_tuple (show s1.heap.IsTuple a its.toArray from p) ?_
      refine ⟨s1.heap.objs.size, [s1.heap.objs.size], _, _, H1, rfl, I1.kept (t' := s1.toks) fun b o e => Heap.get?_push_of_some _ e, turn_tuple a _, ⟨_, Heap.get?_push_size _ rfl, rfl, rfl⟩, fun b hb => ?_, q⟩
      have e : b = s1.heap.objs.size := by simpa using hb
      subst e
      exact I1.fpOk (Nat.le_refl _) (I1.hok.fresh (Nat.le_refl _))
    | str z =>
      obtain ⟨t, rfl⟩ := r1
      cases ha : z.cps.all (· < 128)
      · exact wpAny_pyIter_wide ha (pi_one (tk := s1.toks) I1 _ (turn_str _ z t "str_iterator" (.inr rfl)) ⟨_, Heap.get?_push_size _ rfl, rfl, rfl⟩ q)
      · exact wpAny_pyIter_ascii ha (pi_one (tk := s1.toks) I1 _ (turn_str _ z t "str_ascii_iterator" (.inl rfl)) ⟨_, Heap.get?_push_size _ rfl, rfl, rfl⟩ q)
  · subst hx
    obtain rfl : v = Value.ref d := r1
    obtain ⟨hs, hgd, hx, es, ep, vs, hdt, hsz, kv, hm⟩ := I1.frzK hd
    refine iter_keys hs hgd hx hdt (pi_one (tk := s1.toks) I1 _ (turn_keys _ hdt) ⟨_, Heap.get?_push_size _ rfl, rfl, ?_⟩ q)
    rw [hsz] <;> rfl
/-- what a walk of a datum finds -/
def iterOf : D → Option (List D)
  | .dic kvs => some (kvs.map fun kv => kD kv.1)
  | d => itemsOf d
def kItG (I : List D → Sto → Prop) (d : D) (S : Sto) : Prop := match d with
  | .lst xs => I xs S
  | .tup xs => I xs S
  | .str z => I (signs z) S
  | .scr ns => I (ns.map .int) S
  | .dic kvs => I (kvs.map fun kv => kD kv.1) S
  | _ => False
theorem kIt_of {I : List D → Sto → Prop} {d : D} {S : Sto} (h : kItG I d S) : ∃ xs, iterOf d = some xs ∧ I xs S := by
  cases d <;> first | exact h.elim | exact ⟨_, rfl, h⟩
def dItG (r : DTE) : DTI := fun E σ S Q => r E σ S fun d S' => kItG Q d S'
theorem di_any {tg : Expr} (h : DE X W e ra) : DI X W tg e (dItG ra) := by
  obtain ⟨t, p, q⟩ := h
  refine ⟨_, pi_srcD p, ⟨fun E G H S σV σ Q R w k s h f => ?_⟩⟩
  refine q.run E G H S σV σ _ _ w k s h fun d S' G' H' v hd k' g r => ?_
  obtain ⟨xs, hx, hd⟩ := kIt_of hd
  by_cases c : ∃ kvs, d = .dic kvs
  · obtain ⟨kvs, rfl⟩ := c
    simp only [iterOf, Option.some.injEq] at hx
    subst hx
    cases r with
    | @dic a o vs _ h1 h2 =>
      refine .inr ⟨a, o, vs, rfl, k'.ext _ _ h1, f _ S' G' H' _ (fun H => H a = some (.frz o (.dK vs))) (fun i H x H' => H' = H ∧ ∃ k v, vs[i]? = some (k, v) ∧ x = kV k) hd k' g ⟨?_, fun G2 H2 S2 k2 f2 => k2.ext _ _ (f2.g _ _ h1), fun i G2 H2 S2 H3 w hi hY k2 f2 => ?_⟩⟩
      · have := walk_keys (d := a) (o := o) (kvs := vs)
        rw [show vs.length = (kvs.map fun kv => kD kv.1).length by rw [List.length_map, h2.length]] at this
        exact this
      · obtain ⟨rfl, ky, v, h3, rfl⟩ := hY
        refine ⟨G2, kD ky, ?_, k2, .refl _ _ _, kV_rep _⟩
        have e := congrArg (·[i]?) h2.keys
        simp only [List.getElem?_map, h3, Option.map_some] at e
        rw [List.getElem?_map]
        cases q : kvs[i]? with
        | none => rw [q] at e; cases e
        | some kv => rw [q] at e; simp only [Option.map_some, Option.some.injEq] at e; simp [e]
  · have hx : itemsOf d = some xs := by
      cases d <;> first | exact hx | exact absurd ⟨_, rfl⟩ c
    obtain ⟨kk, sk⟩ := src_of r hx
    exact .inl ⟨kk, sk.v.symm, sk.gd _ k'.ext, f xs S' G' H' _ _ _ hd k' g (wlk_src sk)⟩
/-! ### list(d), len(d) -/
def dListD : List D → Sto → DK → Prop := fun ds S Q => ∃ d kvs, ds = [d] ∧ vw S d = .dic kvs ∧ Q (.lst (kvs.map fun kv => kD kv.1)) S
theorem dc_listD (hc : X.calm = true) : DC X (.type "list") dListD := ⟨_, call_listD hc, ⟨fun G H S xs vs Q P k r h p => by
  obtain ⟨d, kvs, rfl, h1, h2⟩ := h
  obtain ⟨v, rfl, r1⟩ := one_of r
  obtain ⟨a, us, rfl, hr, rk⟩ := dic_of k r1 h1
  refine ⟨a, us, rfl, hr, fun q hq => ?_⟩
  obtain ⟨k2, f2⟩ := k.newG (o := .lst (us.map fun kv => kV kv.1)) hq
  exact p _ _ _ _ _ h2 k2 f2 (.lst upd_same (rk.keysL.mono f2.g))⟩⟩
theorem DC.or {f : Value} {q q' q2 : List D → Sto → DK → Prop} (h : DC X f q) (h' : DC X f q') (hq : ∀ ds S Q, q2 ds S Q → q ds S Q ∨ q' ds S Q) : DC X f q2 := by
  obtain ⟨r, o, e⟩ := h
  obtain ⟨r', o', e'⟩ := h'
  refine ⟨fun xs H Q => r xs H Q ∨ r' xs H Q, fun pins s σ H xs us Q I rx z => ?_, ⟨fun G H S xs vs Q P k rx z p => ?_⟩⟩
  · rcases z with z | z
    · exact o pins s σ H xs us Q I rx z
    · exact o' pins s σ H xs us Q I rx z
  · rcases hq _ _ _ z with z | z
    · exact .inl (e.run G H S xs vs Q P k rx z p)
    · exact .inr (e'.run G H S xs vs Q P k rx z p)
/-- list(x) of a sequence or a dict -/
def dListG : List D → Sto → DK → Prop := fun ds S Q => match ds with
  | [d] => match vw S d with
    | .lst xs => Q (.lst xs) S
    | .tup xs => Q (.lst xs) S
    | .dic kvs => Q (.lst (kvs.map fun kv => kD kv.1)) S
    | _ => False
  | _ => False
theorem dc_listG (hc : X.calm = true) : DC X (.type "list") dListG := dc_list.or (dc_listD hc) fun ds S Q h => by
  unfold dListG at h
  split at h
  · split at h
    · rename_i e; refine .inl ?_; unfold dList1; simp only [e]; exact h
    · rename_i e; refine .inl ?_; unfold dList1; simp only [e]; exact h
    · rename_i e; exact .inr ⟨_, _, rfl, e, h⟩
    · exact h.elim
  · exact h.elim
def dLenD : List D → Sto → DK → Prop := fun ds S Q => ∃ d kvs, ds = [d] ∧ vw S d = .dic kvs ∧ Q (.int kvs.length) S
theorem dc_lenD : DC X (.builtin "len") dLenD := ⟨fun xs H Q => ∃ a kvs, xs = [.ref a] ∧ Rd H a (.dK kvs) ∧ Q (.int kvs.length) H, fun pins s σ H xs us Q I r ⟨a, kvs, ex, hd, q⟩ => by
    subst ex
    obtain ⟨u, eu, rx⟩ := vals1 r
    subst eu
    cases rx
    exact d_len I hd fun t s' I' => ⟨.int kvs.length, H, I', ⟨_, rfl⟩, q⟩, ⟨fun G H S xs vs Q P k r h p => by
  obtain ⟨d, kvs, rfl, h1, h2⟩ := h
  obtain ⟨v, rfl, r1⟩ := one_of r
  obtain ⟨a, us, rfl, hr, rk⟩ := dic_of k r1 h1
  exact ⟨a, us, rfl, hr, by rw [rk.length]; exact p _ S G H _ h2 k (.refl _ _ _) (.int _)⟩⟩⟩
def dLenG : List D → Sto → DK → Prop := fun ds S Q => match ds with
  | [d] => match vw S d with
    | .lst xs => Q (.int xs.length) S
    | .tup xs => Q (.int xs.length) S
    | .scr ns => Q (.int ns.length) S
    | .str z => z.length ≤ sizeLine ∧ Q (.int z.length) S
    | .dic kvs => Q (.int kvs.length) S
    | _ => False
  | _ => False
theorem dc_lenG : DC X (.builtin "len") dLenG := dc_len.or dc_lenD fun ds S Q h => by
  unfold dLenG at h
  split at h
  · split at h
    all_goals first
      | exact h.elim
      | (rename_i e; refine .inl ?_; unfold dLen; simp only [e]; exact h)
      | (rename_i e; exact .inr ⟨_, _, rfl, e, h⟩)
  · exact h.elim
/-! ### k in d -/
def dInD : D → D → Sto → DK → Prop := fun x y S Q => ∃ kvs k, vw S y = .dic kvs ∧ keyOf x = some k ∧ Q (.bl (valD kvs k).isSome) S
def dNotInD : D → D → Sto → DK → Prop := fun x y S Q => ∃ kvs k, vw S y = .dic kvs ∧ keyOf x = some k ∧ Q (.bl (!(valD kvs k).isSome)) S
theorem valD_some {G : Hp} {ky : Key} {vs : List (Key × V)} {ds : List (Key × D)} (rk : RepK K G vs ds) : (valV vs ky).isSome = (valD ds ky).isSome := by
  obtain ⟨h1, h2⟩ := repK_find ky rk
  cases e : valD ds ky with
  | none => rw [h1 e]; rfl
  | some d => obtain ⟨v, hv, _⟩ := h2 d e; rw [hv]; rfl
theorem dop_inD (hu : X.A.units + 64 < cLine) : DOp X (compareOp .In) dInD := ⟨fun x y H Q => ∃ a o, y = .ref a ∧ DGet H a x o ∧ Q (.bl o.isSome) H, fun pins s σ H x y v u Q I rx ry ⟨a, o, ey, g, q⟩ => by
    subst ey
    obtain rfl : u = Value.ref a := ry
    exact d_in (by omega) I g rx fun s3 I3 => ⟨.bl o.isSome, H, I3, rfl, q⟩, ⟨fun G H S x y v u Q P k r1 r2 h p => by
  obtain ⟨kvs, ky, h1, h2, h3⟩ := h
  obtain ⟨a, vs, rfl, hr, rk⟩ := dic_of k r2 h1
  exact ⟨a, _, rfl, .inl ⟨vs, ky, hr, key_rep r1 h2, rfl⟩, by rw [valD_some rk]; exact p _ S G H _ h3 k (.refl _ _ _) (.bl _)⟩⟩⟩
theorem dop_notInD (hu : X.A.units + 64 < cLine) : DOp X (compareOp .NotIn) dNotInD := ⟨fun x y H Q => ∃ a o, y = .ref a ∧ DGet H a x o ∧ Q (.bl (!o.isSome)) H, fun pins s σ H x y v u Q I rx ry ⟨a, o, ey, g, q⟩ => by
    subst ey
    obtain rfl : u = Value.ref a := ry
    exact d_notIn (by omega) I g rx fun s3 I3 => ⟨.bl (!o.isSome), H, I3, rfl, q⟩, ⟨fun G H S x y v u Q P k r1 r2 h p => by
  obtain ⟨kvs, ky, h1, h2, h3⟩ := h
  obtain ⟨a, vs, rfl, hr, rk⟩ := dic_of k r2 h1
  exact ⟨a, _, rfl, .inl ⟨vs, ky, hr, key_rep r1 h2, rfl⟩, by rw [valD_some rk]; exact p _ S G H _ h3 k (.refl _ _ _) (.bl _)⟩⟩⟩
def dInGB (neg : Bool) : D → D → Sto → DK → Prop := fun x y S Q => match vw S y with
  | .lst xs => flatD x = true ∧ xs.all flatD = true ∧ Q (.bl (if neg then !inF x xs else inF x xs)) S
  | .tup xs => flatD x = true ∧ xs.all flatD = true ∧ Q (.bl (if neg then !inF x xs else inF x xs)) S
  | .str z => match x with
    | .str s => Q (.bl (if neg then !inStr s z else inStr s z)) S
    | _ => False
  | .dic kvs => ∃ k, keyOf x = some k ∧ Q (.bl (if neg then !(valD kvs k).isSome else (valD kvs k).isSome)) S
  | _ => False
def dInG := dInGB false
def dNotInG := dInGB true
theorem dop_inG (hu : X.A.units + 64 < cLine) : DOp X (compareOp .In) dInG := dop_in.or (dop_inD hu) fun x y S Q h => by
  unfold dInG dInGB at h
  split at h
  · rename_i e; refine .inl ?_; unfold dIn dInB; rw [e]; exact h
  · rename_i e; refine .inl ?_; unfold dIn dInB; rw [e]; exact h
  · rename_i e
    split at h
    · refine .inl ?_; unfold dIn dInB; rw [e]; exact h
    · exact h.elim
  · rename_i e; obtain ⟨k, h1, h2⟩ := h; exact .inr ⟨_, k, e, h1, h2⟩
  · exact h.elim
theorem dop_notInG (hu : X.A.units + 64 < cLine) : DOp X (compareOp .NotIn) dNotInG := dop_notIn.or (dop_notInD hu) fun x y S Q h => by
  unfold dNotInG dInGB at h
  split at h
  · rename_i e; refine .inl ?_; unfold dNotIn dInB; rw [e]; exact h
  · rename_i e; refine .inl ?_; unfold dNotIn dInB; rw [e]; exact h
  · rename_i e
    split at h
    · refine .inl ?_; unfold dNotIn dInB; rw [e]; exact h
    · exact h.elim
  · rename_i e; obtain ⟨k, h1, h2⟩ := h; exact .inr ⟨_, k, e, h1, h2⟩
  · exact h.elim
end
end KD

set_option maxRecDepth 100000
set_option maxHeartbeats 4000000
/-! KdQ: == of data at any depth. -/
namespace KD
open PySem PySem.Spec PyProof.Rows L2
/-- a, b, .. = a tuple or a list -/
def dgTupG (n : Nat) (q : DTGs) : DTG := fun d σ S N => match d with
  | .tup ds => ds.length = n ∧ q ds σ S N
  | .lst ds => ds.length = n ∧ q ds σ S N
  | _ => False
theorem dg_tupG {X : Cx} {pos : Pos} {es : List Expr} {k n : Nat} {q : DTGs} {js : List Nat} (hc : X.calm = true) (h : DGs X es js q) (hn : (assignEach es X.env).length = n := by rfl) (hst : (assignEach es X.env).findIdx? (·.1) = none := by rfl) : DG X (.Tuple es k pos) js (dgTupG n q) := by
  obtain ⟨t, p, e⟩ := h
  have p1 := pg_tup (pos := pos) (k := k) hc p hn hst
  have p2 := pg_lst (pos := pos) (k := k) hc p hn hst
  refine ⟨fun v σ H Q => gTup X.K n t v σ H Q ∨ gLst X.K n t v σ H Q, ⟨fun pins s σ H v u Q I r hw => ?_⟩, ⟨fun G H S σV σ d v N M k s r h n => ?_⟩⟩
  · rcases hw with hw | hw
    · exact p1.run pins s σ H v u Q I r hw
    · exact p2.run pins s σ H v u Q I r hw
  · cases d with
    | tup ds =>
      obtain ⟨hl, h⟩ := h
      cases r with
      | @tup a vs _ h1 h2 => exact .inl ⟨a, vs, rfl, (h1.mono k.ext).sq, by rw [h2.length]; exact hl, e.run G H S σV σ ds vs N M k s h2 h n⟩
    | lst ds =>
      obtain ⟨hl, h⟩ := h
      cases r with
      | @lst a vs _ h1 h2 => exact .inr ⟨a, vs, rfl, .of (k.ext _ _ h1), by rw [h2.length]; exact hl, e.run G H S σV σ ds vs N M k s h2 h n⟩
    | _ => exact h.elim
mutual
/-- == of data -/
def eqD : D → D → Bool
  | .lst xs, .lst ys => eqDL xs ys
  | .tup xs, .tup ys => eqDL xs ys
  | .lst _, _ => false
  | .tup _, _ => false
  | _, .lst _ => false
  | _, .tup _ => false
  | x, y => eqF x y
def eqDL : List D → List D → Bool
  | [], [] => true
  | x :: xs, y :: ys => eqD x y && eqDL xs ys
  | _, _ => false
end
mutual
/-- data of n levels at most whose texts may be laid -/
def plD : Nat → D → Bool
  | _, .non => true
  | _, .bl _ => true
  | _, .int _ => true
  | _, .str x => PyData.canLay0 (.str x)
  | n + 1, .lst xs => plDL n xs
  | n + 1, .tup xs => plDL n xs
  | _, _ => false
def plDL : Nat → List D → Bool
  | _, [] => true
  | n, x :: xs => plD n x && plDL n xs
end
mutual
theorem py_of : ∀ (n : Nat) (d : D), plD n d = true → ∃ p, toPy d = some p ∧ PyData.canLay0 p = true ∧ PyData.depth p ≤ n
  | n, .non, _ => ⟨_, rfl, rfl, Nat.zero_le _⟩
  | n, .bl _, _ => ⟨_, rfl, rfl, Nat.zero_le _⟩
  | n, .int _, _ => ⟨_, rfl, rfl, Nat.zero_le _⟩
  | n, .str x, h => ⟨_, rfl, by simpa [plD] using h, Nat.zero_le _⟩
  | n + 1, .lst xs, h => by
    obtain ⟨ps, h1, h2, h3⟩ := py_ofL n xs (by simpa [plD] using h)
    exact ⟨.list ps, by rw [toPy, h1]; rfl, by rw [PyData.canLay0]; exact h2, by rw [PyData.depth]; omega⟩
  | n + 1, .tup xs, h => by
    obtain ⟨ps, h1, h2, h3⟩ := py_ofL n xs (by simpa [plD] using h)
    exact ⟨.tuple ps, by rw [toPy, h1]; rfl, by rw [PyData.canLay0]; exact h2, by rw [PyData.depth]; omega⟩
  | 0, .lst _, h => by simp [plD] at h
  | 0, .tup _, h => by simp [plD] at h
  | n, .dic _, h => by simp [plD] at h
  | n, .dit _, h => by simp [plD] at h
  | n, .ref _, h => by simp [plD] at h
  | n, .scr _, h => by simp [plD] at h
  | n, .ty _, h => by simp [plD] at h
theorem py_ofL : ∀ (n : Nat) (ds : List D), plDL n ds = true → ∃ ps, toPyL ds = some ps ∧ PyData.canLayAll0 ps = true ∧ PyData.depthAll ps ≤ n
  | n, [], _ => ⟨[], rfl, rfl, Nat.zero_le _⟩
  | n, d :: ds, h => by
    simp only [plDL, Bool.and_eq_true] at h
    obtain ⟨p, h1, h2, h3⟩ := py_of n d h.1
    obtain ⟨ps, h4, h5, h6⟩ := py_ofL n ds h.2
    exact ⟨p :: ps, by rw [toPyL, h1, h4], by rw [PyData.canLayAll0, h2, h5]; rfl, by rw [PyData.depthAll]; omega⟩
end
mutual
theorem eqv_eqD : ∀ (x y : D) (p q : PyData), toPy x = some p → toPy y = some q → PyData.eqv p q = eqD x y
  | .lst xs, y, p, q, h1, h2 => by
    simp only [toPy, Option.map_eq_some_iff] at h1
    obtain ⟨ps, h1, rfl⟩ := h1
    cases y <;> simp only [toPy, reduceCtorEq, Option.some.injEq, Option.map_eq_some_iff] at h2
    case lst ys => obtain ⟨qs, h2, rfl⟩ := h2; simp only [PyData.eqv, eqD]; exact eqv_eqDL xs ys ps qs h1 h2
    case tup ys => obtain ⟨qs, h2, rfl⟩ := h2; simp [PyData.eqv, eqD]
    all_goals (subst h2; simp [PyData.eqv, eqD])
  | .tup xs, y, p, q, h1, h2 => by
    simp only [toPy, Option.map_eq_some_iff] at h1
    obtain ⟨ps, h1, rfl⟩ := h1
    cases y <;> simp only [toPy, reduceCtorEq, Option.some.injEq, Option.map_eq_some_iff] at h2
    case tup ys => obtain ⟨qs, h2, rfl⟩ := h2; simp only [PyData.eqv, eqD]; exact eqv_eqDL xs ys ps qs h1 h2
    case lst ys => obtain ⟨qs, h2, rfl⟩ := h2; simp [PyData.eqv, eqD]
    all_goals (subst h2; simp [PyData.eqv, eqD])
  | .non, y, p, q, h1, h2 => by
    simp only [toPy, Option.some.injEq] at h1; subst h1
    cases y <;> simp only [toPy, reduceCtorEq, Option.some.injEq, Option.map_eq_some_iff] at h2
    case lst ys => obtain ⟨qs, h2, rfl⟩ := h2; simp [PyData.eqv, eqD]
    case tup ys => obtain ⟨qs, h2, rfl⟩ := h2; simp [PyData.eqv, eqD]
    all_goals (subst h2; simp [PyData.eqv, eqD, eqF])
  | .bl _, y, p, q, h1, h2 => by
    simp only [toPy, Option.some.injEq] at h1; subst h1
    cases y <;> simp only [toPy, reduceCtorEq, Option.some.injEq, Option.map_eq_some_iff] at h2
    case lst ys => obtain ⟨qs, h2, rfl⟩ := h2; simp [PyData.eqv, eqD]
    case tup ys => obtain ⟨qs, h2, rfl⟩ := h2; simp [PyData.eqv, eqD]
    all_goals (subst h2; simp [PyData.eqv, eqD, eqF])
  | .int _, y, p, q, h1, h2 => by
    simp only [toPy, Option.some.injEq] at h1; subst h1
    cases y <;> simp only [toPy, reduceCtorEq, Option.some.injEq, Option.map_eq_some_iff] at h2
    case lst ys => obtain ⟨qs, h2, rfl⟩ := h2; simp [PyData.eqv, eqD]
    case tup ys => obtain ⟨qs, h2, rfl⟩ := h2; simp [PyData.eqv, eqD]
    all_goals (subst h2; simp [PyData.eqv, eqD, eqF])
  | .str _, y, p, q, h1, h2 => by
    simp only [toPy, Option.some.injEq] at h1; subst h1
    cases y <;> simp only [toPy, reduceCtorEq, Option.some.injEq, Option.map_eq_some_iff] at h2
    case lst ys => obtain ⟨qs, h2, rfl⟩ := h2; simp [PyData.eqv, eqD]
    case tup ys => obtain ⟨qs, h2, rfl⟩ := h2; simp [PyData.eqv, eqD]
    all_goals (subst h2; simp [PyData.eqv, eqD, eqF])
  | .dic _, _, _, _, h, _ => by simp [toPy] at h
  | .dit _, _, _, _, h, _ => by simp [toPy] at h
  | .ref _, _, _, _, h, _ => by simp [toPy] at h
  | .scr _, _, _, _, h, _ => by simp [toPy] at h
  | .ty _, _, _, _, h, _ => by simp [toPy] at h
theorem eqv_eqDL : ∀ (xs ys : List D) (ps qs : List PyData), toPyL xs = some ps → toPyL ys = some qs → PyData.eqvAll ps qs = eqDL xs ys
  | [], [], ps, qs, h1, h2 => by simp only [toPyL, Option.some.injEq] at h1 h2; subst h1 h2; rfl
  | [], y :: ys, ps, qs, h1, h2 => by
    simp only [toPyL, Option.some.injEq] at h1; subst h1
    simp only [toPyL] at h2
    split at h2 <;> simp only [reduceCtorEq, Option.some.injEq] at h2
    subst h2; simp [PyData.eqvAll, eqDL]
  | x :: xs, [], ps, qs, h1, h2 => by
    simp only [toPyL, Option.some.injEq] at h2; subst h2
    simp only [toPyL] at h1
    split at h1 <;> simp only [reduceCtorEq, Option.some.injEq] at h1
    subst h1; simp [PyData.eqvAll, eqDL]
  | x :: xs, y :: ys, ps, qs, h1, h2 => by
    simp only [toPyL] at h1 h2
    split at h1 <;> simp only [reduceCtorEq, Option.some.injEq] at h1
    split at h2 <;> simp only [reduceCtorEq, Option.some.injEq] at h2
    rename_i p1 ps1 e1 e2 _ _ q1 qs1 e3 e4
    subst h1 h2
    simp only [PyData.eqvAll, eqDL]
    rw [eqv_eqD x y p1 q1 e1 e3, eqv_eqDL xs ys ps1 qs1 e2 e4]
end
theorem shaped_of {n : Nat} {d : D} (h : plD n d = true) (hn : n ≤ 64) : ∃ p, toPy d = some p ∧ SeqAt.shaped p = true := by
  obtain ⟨p, h1, h2, h3⟩ := py_of n d h
  exact ⟨p, h1, by unfold SeqAt.shaped; rw [h2]; simp; omega⟩
theorem eqD_flat {x y : D} (hx : flatD x = true) (hy : flatD y = true) : eqD x y = eqF x y := by
  cases x <;> (try (simp [flatD] at hx; done)) <;> cases y <;> (try (simp [flatD] at hy; done)) <;> simp only [eqD]
theorem vw_pl {n : Nat} {S : Sto} {x : D} (h : plD n x = true) : vw S x = x := by cases x <;> first | rfl | (simp [plD] at h)
theorem w_eqD {x y : D} {S : Sto} {Q : DK} (hx : plD 40 x = true) (hy : plD 40 y = true) (h : Q (.bl (eqD x y)) S) : dEqG x y S Q := by
  unfold dEqG
  split
  · rename_i h1 h2; rw [← eqD_flat h1 h2]; exact h
  · obtain ⟨p, h1, h2⟩ := shaped_of hx (by decide)
    obtain ⟨q, h3, h4⟩ := shaped_of hy (by decide)
    exact .inl ⟨p, q, by rw [vw_pl hx]; exact h1, by rw [vw_pl hy]; exact h3, h2, h4, by rw [eqv_eqD x y p q h1 h3]; exact h⟩
theorem w_neD {x y : D} {S : Sto} {Q : DK} (hx : plD 40 x = true) (hy : plD 40 y = true) (h : Q (.bl (!eqD x y)) S) : dNeG x y S Q := by
  unfold dNeG
  split
  · rename_i h1 h2; rw [← eqD_flat h1 h2]; exact h
  · obtain ⟨p, h1, h2⟩ := shaped_of hx (by decide)
    obtain ⟨q, h3, h4⟩ := shaped_of hy (by decide)
    exact .inl ⟨p, q, by rw [vw_pl hx]; exact h1, by rw [vw_pl hy]; exact h3, h2, h4, by rw [eqv_eqD x y p q h1 h3]; exact h⟩
theorem w_eqNil {xs : List D} {S : Sto} {Q : DK} (h : Q (.bl xs.isEmpty) S) : dEqG (.lst xs) (.lst []) S Q := by
  cases xs with
  | nil => exact .inr ⟨[], [], rfl, rfl, .inr ⟨rfl, rfl, h⟩⟩
  | cons x xs => exact .inr ⟨_, _, rfl, rfl, .inl ⟨by simp, h⟩⟩
theorem w_neNil {xs : List D} {S : Sto} {Q : DK} (h : Q (.bl (!xs.isEmpty)) S) : dNeG (.lst xs) (.lst []) S Q := by
  cases xs with
  | nil => exact .inr ⟨[], [], rfl, rfl, .inr ⟨rfl, rfl, h⟩⟩
  | cons x xs => exact .inr ⟨_, _, rfl, rfl, .inl ⟨by simp, h⟩⟩
theorem w_eqNilR {xs : List D} {p : Addr} {S : Sto} {Q : DK} (hS : S p = some (.lst xs)) (h : Q (.bl xs.isEmpty) S) : dEqG (.ref p) (.lst []) S Q := by
  cases xs with
  | nil => exact .inr ⟨[], [], by simp [vw, hS], rfl, .inr ⟨rfl, rfl, h⟩⟩
  | cons x xs => exact .inr ⟨_, _, by simp [vw, hS]; rfl, rfl, .inl ⟨by simp, h⟩⟩
/-- the same where one of them is a list that changes -/
theorem w_eqDR {x : D} {ys : List D} {p : Addr} {S : Sto} {Q : DK} (hS : S p = some (.lst ys)) (hx : plD 40 x = true) (hy : plD 40 (.lst ys) = true) (h : Q (.bl (eqD x (.lst ys))) S) : dEqG x (.ref p) S Q := by
  obtain ⟨p1, h1, h2⟩ := shaped_of hx (by decide)
  obtain ⟨q, h3, h4⟩ := shaped_of hy (by decide)
  have e : dEq x (.ref p) S Q := ⟨p1, q, by rw [vw_pl hx]; exact h1, by simp only [vw, hS]; exact h3, h2, h4, by rw [eqv_eqD _ _ p1 q h1 h3]; exact h⟩
  unfold dEqG
  cases flatD x <;> exact .inl e
theorem w_eqDL {y : D} {xs : List D} {p : Addr} {S : Sto} {Q : DK} (hS : S p = some (.lst xs)) (hx : plD 40 (.lst xs) = true) (hy : plD 40 y = true) (h : Q (.bl (eqD (.lst xs) y)) S) : dEqG (.ref p) y S Q := by
  obtain ⟨p1, h1, h2⟩ := shaped_of hx (by decide)
  obtain ⟨q, h3, h4⟩ := shaped_of hy (by decide)
  have e : dEq (.ref p) y S Q := ⟨p1, q, by simp only [vw, hS]; exact h1, by rw [vw_pl hy]; exact h3, h2, h4, by rw [eqv_eqD _ _ p1 q h1 h3]; exact h⟩
  unfold dEqG
  cases flatD y <;> exact .inl e
theorem w_neDL {y : D} {xs : List D} {p : Addr} {S : Sto} {Q : DK} (hS : S p = some (.lst xs)) (hx : plD 40 (.lst xs) = true) (hy : plD 40 y = true) (h : Q (.bl (!eqD (.lst xs) y)) S) : dNeG (.ref p) y S Q := by
  obtain ⟨p1, h1, h2⟩ := shaped_of hx (by decide)
  obtain ⟨q, h3, h4⟩ := shaped_of hy (by decide)
  have e : dNe (.ref p) y S Q := ⟨p1, q, by simp only [vw, hS]; exact h1, by rw [vw_pl hy]; exact h3, h2, h4, by rw [eqv_eqD _ _ p1 q h1 h3]; exact h⟩
  unfold dNeG
  cases flatD y <;> exact .inl e
mutual
theorem eqD_refl : ∀ (n : Nat) (d : D), plD n d = true → eqD d d = true
  | _, .non, _ => rfl
  | _, .bl b, _ => by cases b <;> rfl
  | _, .int i, _ => by simp [eqD, eqF]
  | _, .str x, _ => by simp [eqD, eqF]
  | n + 1, .lst xs, h => by rw [eqD]; exact eqDL_refl n xs (by simpa [plD] using h)
  | n + 1, .tup xs, h => by rw [eqD]; exact eqDL_refl n xs (by simpa [plD] using h)
  | 0, .lst _, h => by simp [plD] at h
  | 0, .tup _, h => by simp [plD] at h
  | n, .dic _, h => by simp [plD] at h
  | n, .dit _, h => by simp [plD] at h
  | n, .ref _, h => by simp [plD] at h
  | n, .scr _, h => by simp [plD] at h
  | n, .ty _, h => by simp [plD] at h
theorem eqDL_refl : ∀ (n : Nat) (ds : List D), plDL n ds = true → eqDL ds ds = true
  | _, [], _ => rfl
  | n, d :: ds, h => by
    simp only [plDL, Bool.and_eq_true] at h
    rw [eqDL, eqD_refl n d h.1, eqDL_refl n ds h.2]; rfl
end
mutual
/-- no bool in it -/
def noBl : D → Bool
  | .bl _ => false
  | .lst xs => noBlL xs
  | .tup xs => noBlL xs
  | _ => true
def noBlL : List D → Bool
  | [] => true
  | x :: xs => noBl x && noBlL xs
end
mutual
theorem eqD_eq : ∀ (n : Nat) (x y : D), plD n x = true → noBl x = true → noBl y = true → eqD x y = true → x = y
  | n + 1, .lst xs, y, h, h1, h2, e => by
    cases y <;> simp only [eqD, Bool.false_eq_true, reduceCtorEq] at e
    rename_i ys
    rw [eqDL_eq n xs ys (by simpa [plD] using h) (by simpa [noBl] using h1) (by simpa [noBl] using h2) e]
  | n + 1, .tup xs, y, h, h1, h2, e => by
    cases y <;> simp only [eqD, Bool.false_eq_true, reduceCtorEq] at e
    rename_i ys
    rw [eqDL_eq n xs ys (by simpa [plD] using h) (by simpa [noBl] using h1) (by simpa [noBl] using h2) e]
  | n, .non, y, h, h1, h2, e => by cases y <;> simp [eqD, eqF] at e; rfl
  | n, .int i, y, h, h1, h2, e => by cases y <;> simp [eqD, eqF, noBl] at e h2; rw [e]
  | n, .str i, y, h, h1, h2, e => by cases y <;> simp [eqD, eqF, noBl] at e; rw [e]
  | n, .bl _, _, h, h1, _, _ => by simp [noBl] at h1
  | 0, .lst _, _, h, _, _, _ => by simp [plD] at h
  | 0, .tup _, _, h, _, _, _ => by simp [plD] at h
  | n, .dic _, _, h, _, _, _ => by simp [plD] at h
  | n, .dit _, _, h, _, _, _ => by simp [plD] at h
  | n, .ref _, _, h, _, _, _ => by simp [plD] at h
  | n, .scr _, _, h, _, _, _ => by simp [plD] at h
  | n, .ty _, _, h, _, _, _ => by simp [plD] at h
theorem eqDL_eq : ∀ (n : Nat) (xs ys : List D), plDL n xs = true → noBlL xs = true → noBlL ys = true → eqDL xs ys = true → xs = ys
  | _, [], [], _, _, _, _ => rfl
  | _, [], _ :: _, _, _, _, e => by simp [eqDL] at e
  | _, _ :: _, [], _, _, _, e => by simp [eqDL] at e
  | n, x :: xs, y :: ys, h, h1, h2, e => by
    simp only [plDL, noBlL, eqDL, Bool.and_eq_true] at h h1 h2 e
    rw [eqD_eq n x y h.1 h1.1 h2.1 e.1, eqDL_eq n xs ys h.2 h1.2 h2.2 e.2]
end
theorem plDL_all {n : Nat} : ∀ {xs : List D}, (∀ x ∈ xs, plD n x = true) → plDL n xs = true
  | [], _ => rfl
  | x :: xs, h => by rw [plDL, h x List.mem_cons_self, plDL_all fun y hy => h y (List.mem_cons_of_mem _ hy)]; rfl
theorem plD_mono : ∀ {n m : Nat} {d : D}, n ≤ m → plD n d = true → plD m d = true
  | n, m, .non, _, _ => by cases m <;> rfl
  | n, m, .bl _, _, _ => by cases m <;> rfl
  | n, m, .int _, _, _ => by cases m <;> rfl
  | n, m, .str x, _, h => by cases n <;> cases m <;> simpa [plD] using h
  | n + 1, m + 1, .lst xs, hl, h => by
    simp only [plD] at h ⊢
    exact plDL_mono (by omega) h
  | n + 1, m + 1, .tup xs, hl, h => by
    simp only [plD] at h ⊢
    exact plDL_mono (by omega) h
  | 0, _, .lst _, _, h => by simp [plD] at h
  | 0, _, .tup _, _, h => by simp [plD] at h
  | n, _, .dic _, _, h => by simp [plD] at h
  | n, _, .dit _, _, h => by simp [plD] at h
  | n, _, .ref _, _, h => by simp [plD] at h
  | n, _, .scr _, _, h => by simp [plD] at h
  | n, _, .ty _, _, h => by simp [plD] at h
where plDL_mono : ∀ {n m : Nat} {ds : List D}, n ≤ m → plDL n ds = true → plDL m ds = true
  | _, _, [], _, _ => rfl
  | n, m, d :: ds, hl, h => by
    simp only [plDL, Bool.and_eq_true] at h ⊢
    exact ⟨plD_mono hl h.1, plDL_mono hl h.2⟩
theorem plD_ints (n : Nat) (ns : List Int) : plD (n + 1) (.lst (ns.map .int)) = true := by
  rw [plD]; exact plDL_all fun x hx => by obtain ⟨i, _, rfl⟩ := List.mem_map.mp hx; cases n <;> rfl
theorem plD_intsT (n : Nat) (ns : List Int) : plD (n + 1) (.tup (ns.map .int)) = true := by
  rw [plD]; exact plDL_all fun x hx => by obtain ⟨i, _, rfl⟩ := List.mem_map.mp hx; cases n <;> rfl
theorem noBl_ints : ∀ ns : List Int, noBlL (ns.map .int) = true
  | [] => rfl
  | n :: ns => by rw [List.map_cons, noBlL, noBl_ints ns]; rfl
theorem eqDL_ints : ∀ xs ys : List Int, eqDL (xs.map .int) (ys.map .int) = decide (xs = ys)
  | [], [] => rfl
  | [], _ :: _ => by simp [eqDL]
  | _ :: _, [] => by simp [eqDL]
  | x :: xs, y :: ys => by
    rw [List.map_cons, List.map_cons, eqDL, eqDL_ints xs ys, Bool.eq_iff_iff]
    simp [eqD, eqF]
end KD

set_option maxRecDepth 100000
set_option maxHeartbeats 4000000
/-! Km0: mirrors: what a def reckons, as functions upon data; slots with their contents, and how they stand to slots and store. -/
namespace KM
open PySem PySem.Spec PyProof.Rows L2 KD
abbrev Flds := List (Str × D)
/-- what a mirror gives: a value, an error (its class's name, its fields), or nothing that is known -/
inductive R (ε α : Type) where
  | ok (a : α) (s : ε) | er (c : Str) (fs : Flds) (s : ε) | bad
abbrev P (α : Type) := R Unit α
section
variable {ε α β γ : Type}
def got (x : R ε α) (k : α → ε → β) (ex : Str → Flds → ε → β) (b : β) : β := match x with
  | .ok a s => k a s
  | .er c fs s => ex c fs s
  | .bad => b
def bind (x : P α) (k : α → P β) : P β := match x with
  | .ok a _ => k a
  | .er c fs _ => .er c fs ()
  | .bad => .bad
def opt : Option α → P α
  | some a => .ok a ()
  | none => .bad
end
/-- a slot: unset, data, a list or dict that may change (q: the caller's own), a caught error; p: not to be changed here -/
inductive SV where
  | un | v (d : D) | l (q : Bool) (xs : List D) | k (q : Bool) (kvs : List (Key × D)) | x (c : Str) (fs : Flds) | p (s : SV)
abbrev Env := List SV
def SV.core : SV → SV
  | .p s => s.core
  | s => s
def SV.prot : SV → SV
  | .un => .un
  | .p s => .p s
  | s => .p s
def SV.look : SV → Option D
  | .v d => some d
  | .p s => s.look
  | _ => none
def SV.view : SV → Option D
  | .v d => some d
  | .l _ xs => some (.lst xs)
  | .k _ kvs => some (.dic kvs)
  | .p s => s.view
  | _ => none
def SV.dm : SV → Option DM
  | .l _ xs => some (.lst xs)
  | .k _ kvs => some (.dic kvs)
  | .x _ fs => some (.xd fs)
  | .p s => s.dm
  | _ => none
def SV.own : SV → Bool
  | .l q _ => q
  | .k q _ => q
  | .p s => s.own
  | _ => false
/-- the error that is caught here: its address, its dict's, its class's name -/
structure Ax where
  a : Addr
  d : Addr
  c : Str
  tb : List (Addr × Str)
  fm : Bool
def SlotOk (ax : Ax) (A : Nat → Addr) (σ : DSt) (S : Sto) (i : Nat) : SV → Prop
  | .un => True
  | .v d => σ[i]? = some (some d)
  | .l _ xs => σ[i]? = some (some (.ref (A i))) ∧ S (A i) = some (.lst xs)
  | .k _ kvs => σ[i]? = some (some (.ref (A i))) ∧ S (A i) = some (.dic kvs)
  | .x c fs => c = ax.c ∧ σ[i]? = some (some (.ref ax.a)) ∧ A i = ax.d ∧ S (A i) = some (.xd fs)
  | .p s => SlotOk ax A σ S i s
/-- what stands still while this part of the text runs: the number of slots, the slots that keep, the store that keeps -/
structure Fx where
  n : Nat
  fr : Nat → Option SV
  S0 : Sto
  io : Nat → Option Addr
structure Rl (ax : Ax) (fx : Fx) (μ : Env) (σ : DSt) (S : Sto) (A : Nat → Addr) : Prop where
  lenμ : μ.length = fx.n
  lenσ : σ.length = fx.n
  slot : ∀ i s, μ[i]? = some s → SlotOk ax A σ S i s
  inj : ∀ i j s t m n, μ[i]? = some s → μ[j]? = some t → s.dm = some m → t.dm = some n → A i = A j → i = j
  new : ∀ i s m, μ[i]? = some s → s.dm = some m → fx.S0 (A i) = none
  ext : ∀ b m, fx.S0 b = some m → S b = some m
  fr : ∀ i s, fx.fr i = some s → μ[i]? = some (.p s)
  io : ∀ i p, fx.io i = some p → A i = p ∧ ∃ s, μ[i]? = some s ∧ s.own = true
  oi : ∀ i s, μ[i]? = some s → s.own = true → (fx.io i).isSome = true
  tb : ∀ e ∈ ax.tb, fx.S0 e.1 = some (.tab e.2 ax.tb)
def Rel (ax : Ax) (fx : Fx) (μ : Env) (σ : DSt) (S : Sto) : Prop := ∃ A, Rl ax fx μ σ S A
section
variable {ax : Ax} {fx fx' : Fx} {μ μ' ν : Env} {σ σ' : DSt} {S S' : Sto} {A A' : Nat → Addr} {i j : Nat} {s t : SV}
theorem core_ok : ∀ {s : SV}, SlotOk ax A σ S i s ↔ SlotOk ax A σ S i s.core
  | .un => .rfl | .v _ => .rfl | .l _ _ => .rfl | .k _ _ => .rfl | .x _ _ => .rfl
  | .p s => core_ok (s := s)
theorem core_dm : ∀ {s : SV}, s.dm = s.core.dm
  | .un => rfl | .v _ => rfl | .l _ _ => rfl | .k _ _ => rfl | .x _ _ => rfl
  | .p s => core_dm (s := s)
theorem core_own : ∀ {s : SV}, s.own = s.core.own
  | .un => rfl | .v _ => rfl | .l _ _ => rfl | .k _ _ => rfl | .x _ _ => rfl
  | .p s => core_own (s := s)
theorem core_prot : ∀ {s : SV}, s.prot.core = s.core
  | .un => rfl | .v _ => rfl | .l _ _ => rfl | .k _ _ => rfl | .x _ _ => rfl
  | .p s => rfl
theorem slot_same : ∀ {s : SV}, σ'[i]? = σ[i]? → A' i = A i → (∀ m, s.dm = some m → S' (A i) = S (A i)) → SlotOk ax A σ S i s → SlotOk ax A' σ' S' i s
  | .un, _, _, _, _ => trivial
  | .v d, h, _, _, q => h.trans q
  | .l _ xs, h, e, f, q => ⟨by rw [h, e]; exact q.1, by rw [e, f _ rfl]; exact q.2⟩
  | .k _ xs, h, e, f, q => ⟨by rw [h, e]; exact q.1, by rw [e, f _ rfl]; exact q.2⟩
  | .x c fs, h, e, f, q => ⟨q.1, h.trans q.2.1, e.trans q.2.2.1, by rw [e, f _ rfl]; exact q.2.2.2⟩
  | .p s, h, e, f, q => slot_same (s := s) h e f q
theorem slot_dm : ∀ {s : SV} {m : DM}, SlotOk ax A σ S i s → s.dm = some m → S (A i) = some m
  | .un, _, _, e => nomatch e
  | .v _, _, _, e => nomatch e
  | .l _ xs, _, q, e => by cases e; exact q.2
  | .k _ xs, _, q, e => by cases e; exact q.2
  | .x c fs, _, q, e => by cases e; exact q.2.2.2
  | .p s, _, q, e => slot_dm (s := s) q e
theorem slot_look : ∀ {s : SV} {d : D}, SlotOk ax A σ S i s → s.look = some d → σ[i]? = some (some d)
  | .un, _, _, e => nomatch e
  | .v _, _, q, e => by cases e; exact q
  | .l _ xs, _, q, e => nomatch e
  | .k _ xs, _, q, e => nomatch e
  | .x c fs, _, q, e => nomatch e
  | .p s, _, q, e => slot_look (s := s) q e
/-- x0 is seen as x -/
def Vw (S : Sto) (x0 x : D) : Prop := x0 = x ∨ vw S x0 = x
theorem vw_l {p : Addr} {xs : List D} (h : S p = some (.lst xs)) : vw S (.ref p) = .lst xs := by simp [vw, h]
theorem vw_k {p : Addr} {xs : List (Key × D)} (h : S p = some (.dic xs)) : vw S (.ref p) = .dic xs := by simp [vw, h]
theorem slot_view : ∀ {s : SV} {d : D}, SlotOk ax A σ S i s → s.view = some d → ∃ d0, σ[i]? = some (some d0) ∧ Vw S d0 d
  | .un, _, _, e => nomatch e
  | .v _, _, q, e => by cases e; exact ⟨_, q, .inl rfl⟩
  | .l _ xs, _, q, e => by cases e; exact ⟨_, q.1, .inr (vw_l q.2)⟩
  | .k _ xs, _, q, e => by cases e; exact ⟨_, q.1, .inr (vw_k q.2)⟩
  | .x c fs, _, q, e => nomatch e
  | .p s, _, q, e => slot_view (s := s) q e
/-- other slots' words, where what stands behind is a part of what stood -/
theorem Rl.mix (h : Rl ax fx' μ' σ' S' A) (hn : fx.n = fx'.n) (h0 : fx.S0 = fx'.S0) (hio : fx.io = fx'.io) (hw : ∀ (i : Nat) (p : Addr), fx.io i = some p → ∃ s : SV, ν[i]? = some s ∧ s.own = true) (hl : ν.length = fx.n) (hs : ∀ (i : Nat) (s : SV), ν[i]? = some s → s = .un ∨ ∃ s' : SV, μ'[i]? = some s' ∧ s'.core = s.core) (hf : ∀ (i : Nat) (s : SV), fx.fr i = some s → ν[i]? = some (.p s)) : Rl ax fx ν σ' S' A where
  lenμ := hl
  lenσ := h.lenσ.trans hn.symm
  slot := fun i s e => by
    rcases hs i s e with rfl | ⟨s', e', c⟩
    · trivial
    · have q := h.slot i s' e'
      rw [core_ok, c, ← core_ok] at q; exact q
  inj := fun i j s t m n e f d g q => by
    rcases hs i s e with rfl | ⟨s', e', c⟩
    · cases d
    rcases hs j t f with rfl | ⟨t', f', c'⟩
    · cases g
    exact h.inj i j s' t' m n e' f' (by rw [core_dm, c, ← core_dm]; exact d) (by rw [core_dm, c', ← core_dm]; exact g) q
  new := fun i s m e d => by
    rcases hs i s e with rfl | ⟨s', e', c⟩
    · cases d
    rw [h0]; exact h.new i s' m e' (by rw [core_dm, c, ← core_dm]; exact d)
  ext := fun b m e => h.ext b m (by rw [← h0]; exact e)
  fr := hf
  io := fun i p e => by
    obtain ⟨e1, s, e2, e3⟩ := h.io i p (by rw [← hio]; exact e)
    exact ⟨e1, hw i p e⟩
  oi := fun i s e o => by
    rcases hs i s e with rfl | ⟨s', e', c⟩
    · cases o
    rw [hio]; exact h.oi i s' e' (by rw [core_own, c, ← core_own]; exact o)
  tb := fun e m => by rw [h0]; exact h.tb e m
/-- one slot is told anew -/
theorem Rl.set (h : Rl ax fx μ σ S A) {p : Addr} (hi : ∀ s, μ[i]? ≠ some (.p s)) (ho : ∀ t, μ[i]? = some t → t.own = true → p = A i ∧ s.own = true) (ho' : s.own = true → (fx.io i).isSome = true) (hl : σ'.length = σ.length) (hσ : ∀ j, j ≠ i → σ'[j]? = σ[j]?) (hS : ∀ j s m, j ≠ i → μ[j]? = some s → s.dm = some m → S' (A j) = S (A j)) (hx : ∀ b m, fx.S0 b = some m → S' b = some m)
    (hs : SlotOk ax (fun j => if j = i then p else A j) σ' S' i s) (hn : ∀ m, s.dm = some m → fx.S0 p = none ∧ ∀ j t n, j ≠ i → μ[j]? = some t → t.dm = some n → A j ≠ p) : Rl ax fx (μ.set i s) σ' S' (fun j => if j = i then p else A j) := by
  have key : ∀ j t, (μ.set i s)[j]? = some t → (j = i ∧ t = s) ∨ (j ≠ i ∧ μ[j]? = some t) := fun j t e => by
    by_cases c : i = j
    · subst c
      by_cases l : i < μ.length
      · rw [List.getElem?_set_self l] at e
        exact .inl ⟨rfl, (Option.some.inj e).symm⟩
      · rw [List.getElem?_eq_none (by simpa using l)] at e; cases e
    · rw [List.getElem?_set_ne c] at e
      exact .inr ⟨fun z => c z.symm, e⟩
  refine ⟨by rw [List.length_set]; exact h.lenμ, hl.trans h.lenσ, fun j t e => ?_, fun j k t u m n e f d g q => ?_, fun j t m e d => ?_, hx, fun j t e => ?_, fun j b e => ?_, fun j t e o => ?_, h.tb⟩
  · rcases key j t e with ⟨rfl, rfl⟩ | ⟨c, e⟩
    · exact hs
    · exact slot_same (hσ j c) (if_neg c) (fun m d => hS j t m c e d) (h.slot j t e)
  · rcases key j t e with ⟨rfl, rfl⟩ | ⟨c, e1⟩ <;> rcases key k u f with ⟨rfl, rfl⟩ | ⟨c', f1⟩
    · rfl
    · simp only [if_neg c', if_true] at q; exact absurd q.symm ((hn m d).2 k u n c' f1 g)
    · simp only [if_neg c, if_true] at q; exact absurd q ((hn n g).2 j t m c e1 d)
    · simp only [if_neg c, if_neg c'] at q; exact h.inj j k t u m n e1 f1 d g q
  · rcases key j t e with ⟨rfl, rfl⟩ | ⟨c, e⟩
    · simp only [if_true]; exact (hn m d).1
    · simp only [if_neg c]; exact h.new j t m e d
  · have e' := h.fr j t e
    have c : i ≠ j := fun z => by subst z; exact hi _ e'
    rw [List.getElem?_set_ne c]; exact e'
  · obtain ⟨e1, t, e2, e3⟩ := h.io j b e
    by_cases c : j = i
    · subst c
      obtain ⟨e4, e5⟩ := ho t e2 e3
      exact ⟨by simp only [if_true]; rw [e4, e1], s, List.getElem?_set_self (List.getElem?_eq_some_iff.mp e2).1, e5⟩
    · exact ⟨by simp only [if_neg c]; exact e1, t, by rw [List.getElem?_set_ne fun z => c z.symm]; exact e2, e3⟩
  · rcases key j t e with ⟨rfl, rfl⟩ | ⟨c, e⟩
    · exact ho' o
    · exact h.oi j t e o
theorem Rl.sto (h : Rl ax fx μ σ S A) (hS : ∀ b m, S b = some m → S' b = some m) : Rl ax fx μ σ S' A where
  lenμ := h.lenμ
  lenσ := h.lenσ
  slot := fun i s e => slot_same rfl rfl (fun m d => by rw [slot_dm (h.slot i s e) d]; exact hS _ _ (slot_dm (h.slot i s e) d)) (h.slot i s e)
  inj := h.inj
  new := h.new
  ext := fun b m e => hS _ _ (h.ext b m e)
  fr := h.fr
  io := h.io
  oi := h.oi
  tb := h.tb
theorem put_ext {p : Addr} {m : DM} (h : S p = none) : ∀ b n, S b = some n → put S p m b = some n := fun b n e => by
  rw [put_ne (fun z => by rw [z, h] at e; cases e)]; exact e
theorem Rel.junk {p : Addr} {m : DM} (h : Rel ax fx μ σ S) (e : S p = none) : Rel ax fx μ σ (put S p m) := let ⟨A, r⟩ := h; ⟨A, r.sto (put_ext e)⟩
theorem set_get {l : DSt} {d : Option D} (h : i < l.length) : (l.set i d)[i]? = some d := List.getElem?_set_self h
theorem Rel.len (h : Rel ax fx μ σ S) (e : μ[i]? = some s) : i < σ.length := by
  obtain ⟨A, r⟩ := h
  rw [r.lenσ, ← r.lenμ]
  exact (List.getElem?_eq_some_iff.mp e).1
theorem Rel.setV (h : Rel ax fx μ σ S) (d : D) (hi : ∀ s, μ[i]? ≠ some (.p s)) (he : μ[i]? = some s) (ho : s.own = false) : Rel ax fx (μ.set i (.v d)) (σ.set i (some d)) S := by
  have hl := h.len he
  obtain ⟨A, r⟩ := h
  exact ⟨_, r.set (p := A i) hi (fun t e f => by rw [he] at e; cases e; rw [ho] at f; cases f) (fun o => by cases o) (by simp) (fun j c => List.getElem?_set_ne fun z => c z.symm) (fun _ _ _ _ _ _ => rfl) r.ext (set_get hl) fun m e => nomatch e⟩
theorem Rel.setUn (h : Rel ax fx μ σ S) {o : Option D} (hi : ∀ s, μ[i]? ≠ some (.p s)) (ho : ∀ t, μ[i]? = some t → t.own = false) : Rel ax fx (μ.set i .un) (σ.set i o) S := by
  obtain ⟨A, r⟩ := h
  exact ⟨_, r.set (p := A i) hi (fun t e f => by rw [ho t e] at f; cases f) (fun o => by cases o) (by simp) (fun j c => List.getElem?_set_ne fun z => c z.symm) (fun _ _ _ _ _ _ => rfl) r.ext trivial fun m e => nomatch e⟩
theorem Rl.far (r : Rl ax fx μ σ S A) {p : Addr} (hp : S p = none) {m : DM} (e : μ[j]? = some s) (d : s.dm = some m) : A j ≠ p := fun z => by
  have := slot_dm (r.slot j s e) d
  rw [z, hp] at this; cases this
theorem Rl.S0n (r : Rl ax fx μ σ S A) {p : Addr} (hp : S p = none) : fx.S0 p = none := by
  cases e : fx.S0 p with
  | none => rfl
  | some m => rw [r.ext p m e] at hp; cases hp
theorem Rel.newL (h : Rel ax fx μ σ S) {p : Addr} (hp : S p = none) (xs : List D) (hi : ∀ s, μ[i]? ≠ some (.p s)) (he : μ[i]? = some s) (ho : s.own = false) : Rel ax fx (μ.set i (.l false xs)) (σ.set i (some (.ref p))) (put S p (.lst xs)) := by
  have hl := h.len he
  obtain ⟨A, r⟩ := h
  refine ⟨_, r.set (p := p) hi (fun t e f => by rw [he] at e; cases e; rw [ho] at f; cases f) (fun o => by cases o) (by simp) (fun j c => List.getElem?_set_ne fun z => c z.symm) (fun j s m _ e d => put_ne (r.far hp e d)) (fun b m e => put_ext hp b m (r.ext b m e)) ⟨?_, ?_⟩ fun m _ => ⟨r.S0n hp, fun j t n _ e d => r.far hp e d⟩⟩
  · rw [set_get hl]; simp
  · simp [put_same]
theorem Rel.newK (h : Rel ax fx μ σ S) {p : Addr} (hp : S p = none) (xs : List (Key × D)) (hi : ∀ s, μ[i]? ≠ some (.p s)) (he : μ[i]? = some s) (ho : s.own = false) : Rel ax fx (μ.set i (.k false xs)) (σ.set i (some (.ref p))) (put S p (.dic xs)) := by
  have hl := h.len he
  obtain ⟨A, r⟩ := h
  refine ⟨_, r.set (p := p) hi (fun t e f => by rw [he] at e; cases e; rw [ho] at f; cases f) (fun o => by cases o) (by simp) (fun j c => List.getElem?_set_ne fun z => c z.symm) (fun j s m _ e d => put_ne (r.far hp e d)) (fun b m e => put_ext hp b m (r.ext b m e)) ⟨?_, ?_⟩ fun m _ => ⟨r.S0n hp, fun j t n _ e d => r.far hp e d⟩⟩
  · rw [set_get hl]; simp
  · simp [put_same]
/-- a list that may change -/
theorem Rel.getL {xs : List D} (h : Rel ax fx μ σ S) {q : Bool} (e : μ[i]? = some (.l q xs)) : ∃ p, σ[i]? = some (some (.ref p)) ∧ S p = some (.lst xs) ∧ (∀ ys, Rel ax fx (μ.set i (.l q ys)) σ (put S p (.lst ys))) ∧ (q = false → Rel ax fx (μ.set i (.v (.lst xs))) (σ.set i (some (.lst xs))) (rem S p)) := by
  have hl := h.len e
  obtain ⟨A, r⟩ := h
  have sl := r.slot i _ e
  have far : ∀ j s m, j ≠ i → μ[j]? = some s → s.dm = some m → A j ≠ A i := fun j s m c f d z => c (r.inj j i s _ m _ f e d rfl z)
  have n0 := r.new i _ _ e rfl
  refine ⟨A i, sl.1, sl.2, fun ys => ⟨_, r.set (p := A i) (fun s f => by rw [e] at f; cases f) (fun t f g => by rw [e] at f; cases f; exact ⟨rfl, g⟩) (fun o => r.oi i _ e o) rfl (fun _ _ => rfl) (fun j s m c f d => put_ne (far j s m c f d)) (fun b m f => ?_) ⟨?_, ?_⟩ fun m _ => ⟨n0, far⟩⟩, fun eq => ⟨_, r.set (p := A i) (fun s f => by rw [e] at f; cases f) (fun t f g => by rw [e] at f; cases f; cases eq; cases g) (fun o => by cases o) (by simp) (fun j c => List.getElem?_set_ne fun z => c z.symm) (fun j s m c f d => rem_ne (far j s m c f d)) (fun b m f => ?_) ?_ fun m f => nomatch f⟩⟩
  · rw [put_ne (fun z => by rw [z, n0] at f; cases f)]; exact r.ext b m f
  · simp [sl.1]
  · simp [put_same]
  · rw [rem_ne (fun z => by rw [z, n0] at f; cases f)]; exact r.ext b m f
  · exact set_get hl
theorem Rel.getK {xs : List (Key × D)} (h : Rel ax fx μ σ S) {q : Bool} (e : μ[i]? = some (.k q xs)) : ∃ p, σ[i]? = some (some (.ref p)) ∧ S p = some (.dic xs) ∧ (∀ ys, Rel ax fx (μ.set i (.k q ys)) σ (put S p (.dic ys))) ∧ (q = false → Rel ax fx (μ.set i (.v (.dic xs))) (σ.set i (some (.dic xs))) (rem S p)) := by
  have hl := h.len e
  obtain ⟨A, r⟩ := h
  have sl := r.slot i _ e
  have far : ∀ j s m, j ≠ i → μ[j]? = some s → s.dm = some m → A j ≠ A i := fun j s m c f d z => c (r.inj j i s _ m _ f e d rfl z)
  have n0 := r.new i _ _ e rfl
  refine ⟨A i, sl.1, sl.2, fun ys => ⟨_, r.set (p := A i) (fun s f => by rw [e] at f; cases f) (fun t f g => by rw [e] at f; cases f; exact ⟨rfl, g⟩) (fun o => r.oi i _ e o) rfl (fun _ _ => rfl) (fun j s m c f d => put_ne (far j s m c f d)) (fun b m f => ?_) ⟨?_, ?_⟩ fun m _ => ⟨n0, far⟩⟩, fun eq => ⟨_, r.set (p := A i) (fun s f => by rw [e] at f; cases f) (fun t f g => by rw [e] at f; cases f; cases eq; cases g) (fun o => by cases o) (by simp) (fun j c => List.getElem?_set_ne fun z => c z.symm) (fun j s m c f d => rem_ne (far j s m c f d)) (fun b m f => ?_) ?_ fun m f => nomatch f⟩⟩
  · rw [put_ne (fun z => by rw [z, n0] at f; cases f)]; exact r.ext b m f
  · simp [sl.1]
  · simp [put_same]
  · rw [rem_ne (fun z => by rw [z, n0] at f; cases f)]; exact r.ext b m f
  · exact set_get hl
end

/-! ### the states of loops and of joined ways -/
inductive Mo where
  | d | o | l (q : Bool) | k (q : Bool)
@[reducible] def Mo.Ty : Mo → Type
  | .d => D
  | .o => Option D
  | .l _ => List D
  | .k _ => List (Key × D)
def Mo.sv (m : Mo) : m.Ty → SV := match m with
  | .d => fun d => SV.v d
  | .o => fun d => match d with
    | some d => SV.v d
    | none => SV.un
  | .l q => fun xs => SV.l q xs
  | .k q => fun xs => SV.k q xs
abbrev Js := List (Nat × Mo)
@[reducible] def T : Js → Type
  | [] => Unit
  | (_, m) :: r => m.Ty × T r
section
variable {β : Type}
def getM (m : Mo) (o : Option SV) : (m.Ty → β) → β → β := match m with
  | .d => fun k b => match o with
    | some (.v d) => k d
    | _ => b
  | .o => fun k b => match o with
    | some (.v d) => k (some d)
    | some .un => k none
    | _ => b
  | .l q => fun k b => match o with
    | some (.l r d) => if r = q then k d else b
    | _ => b
  | .k q => fun k b => match o with
    | some (.k r d) => if r = q then k d else b
    | _ => b
def getJ : (J : Js) → Env → (T J → β) → β → β
  | [], _, k, _ => k ()
  | (i, m) :: r, μ, k, b => getM m μ[i]? (fun x => getJ r μ (fun t => k (x, t)) b) b
end
def setJ : (J : Js) → T J → Env → Env
  | [], _, μ => μ
  | (i, m) :: r, t, μ => setJ r t.2 (μ.set i (m.sv t.1))
def killK : List Nat → Env → Env
  | [], μ => μ
  | i :: r, μ => (killK r μ).set i .un
def protN (ix : List Nat) : Nat → Env → Env
  | _, [] => []
  | n, s :: r => (if ix.contains n then s else s.prot) :: protN ix (n + 1) r
def Mo.own : Mo → Bool
  | .d => false
  | .o => false
  | .l q => q
  | .k q => q
/-- may the slot change? -/
def freeS (q : Bool) : Option SV → Bool
  | some (.p _) => false
  | some s => s.own == q
  | none => false
def freeK : List Nat → Env → Bool
  | [], _ => true
  | i :: r, μ => freeS false μ[i]? && freeK r μ
def freeJ : Js → Env → Bool
  | [], _ => true
  | (i, m) :: r, μ => freeS m.own μ[i]? && freeJ r μ
def ixJ : Js → List Nat
  | [] => []
  | (i, _) :: r => i :: ixJ r
theorem getM_ok {β : Type} {m : Mo} {o : Option SV} {k : m.Ty → β} {b : β} {Φ : β → Prop} (h : Φ (getM m o k b)) (hb : ¬ Φ b) : ∃ x, o = some (m.sv x) ∧ Φ (k x) := by
  cases m <;> rcases o with _ | s <;> try (exact absurd h hb)
  all_goals (cases s <;> first | exact absurd h hb | exact ⟨_, by first | rfl | (show _ = some (SV.v _); rfl), h⟩ | exact ⟨none, rfl, h⟩ | exact ⟨some _, rfl, h⟩ | skip)
  · rename_i q r xs
    by_cases c : r = q
    · subst c; simp only [getM, if_true] at h; exact ⟨xs, rfl, h⟩
    · simp only [getM, if_neg c] at h; exact absurd h hb
  · rename_i q r xs
    by_cases c : r = q
    · subst c; simp only [getM, if_true] at h; exact ⟨xs, rfl, h⟩
    · simp only [getM, if_neg c] at h; exact absurd h hb
theorem getJ_ok {β : Type} : ∀ {J : Js} {μ : Env} {k : T J → β} {b : β} {Φ : β → Prop}, Φ (getJ J μ k b) → ¬ Φ b → ∃ t, Φ (k t) ∧ ∀ ν i s, (setJ J t ν)[i]? = some s → (i ∉ ixJ J ∧ ν[i]? = some s) ∨ μ[i]? = some s
  | [], μ, k, b, Φ, h, hb => ⟨(), h, fun ν i s e => .inl ⟨by simp [ixJ], e⟩⟩
  | (i, m) :: r, μ, k, b, Φ, h, hb => by
    obtain ⟨x, e, h⟩ := getM_ok (Φ := Φ) h hb
    obtain ⟨t, h, q⟩ := getJ_ok (J := r) (Φ := Φ) h hb
    refine ⟨(x, t), h, fun ν j s f => ?_⟩
    rcases q _ j s f with ⟨c, f⟩ | f
    · by_cases z : i = j
      · subst z
        by_cases l : i < ν.length
        · rw [List.getElem?_set_self l] at f
          cases f; exact .inr e
        · rw [List.getElem?_eq_none (by simpa using l)] at f; cases f
      · rw [List.getElem?_set_ne z] at f
        exact .inl ⟨by simp only [ixJ, List.mem_cons, not_or]; exact ⟨fun w => z w.symm, c⟩, f⟩
    · exact .inr f
theorem setJ_len : ∀ {J : Js} {t : T J} {μ : Env}, (setJ J t μ).length = μ.length
  | [], _, _ => rfl
  | (i, m) :: r, t, μ => by rw [setJ, setJ_len, List.length_set]
theorem setJ_ne : ∀ {J : Js} {t : T J} {μ : Env} {i : Nat}, i ∉ ixJ J → (setJ J t μ)[i]? = μ[i]?
  | [], _, _, _, _ => rfl
  | (j, m) :: r, t, μ, i, h => by
    simp only [ixJ, List.mem_cons, not_or] at h
    rw [setJ, setJ_ne h.2, List.getElem?_set_ne (fun z => h.1 z.symm)]
theorem kill_len : ∀ {K : List Nat} {μ : Env}, (killK K μ).length = μ.length
  | [], _ => rfl
  | i :: r, μ => by rw [killK, List.length_set, kill_len]
theorem kill_get : ∀ {K : List Nat} {μ : Env} {i : Nat} {s : SV}, (killK K μ)[i]? = some s → s = .un ∨ (i ∉ K ∧ μ[i]? = some s)
  | [], _, _, _, h => .inr ⟨by simp, h⟩
  | j :: r, μ, i, s, h => by
    rw [killK] at h
    by_cases z : j = i
    · subst z
      by_cases l : j < (killK r μ).length
      · rw [List.getElem?_set_self l] at h; cases h; exact .inl rfl
      · rw [List.getElem?_eq_none (by simpa using l)] at h; cases h
    · rw [List.getElem?_set_ne z] at h
      rcases kill_get (K := r) h with h | ⟨c, h⟩
      · exact .inl h
      · exact .inr ⟨by simp only [List.mem_cons, not_or]; exact ⟨fun w => z w.symm, c⟩, h⟩
theorem kill_ne : ∀ {K : List Nat} {μ : Env} {i : Nat}, i ∉ K → (killK K μ)[i]? = μ[i]?
  | [], _, _, _ => rfl
  | j :: r, μ, i, h => by
    simp only [List.mem_cons, not_or] at h
    rw [killK, List.getElem?_set_ne (fun z => h.1 z.symm), kill_ne h.2]
theorem prot_len {ix : List Nat} : ∀ {n : Nat} {μ : Env}, (protN ix n μ).length = μ.length
  | _, [] => rfl
  | n, s :: r => by rw [protN, List.length_cons, List.length_cons, prot_len]
theorem prot_get {ix : List Nat} : ∀ {n : Nat} {μ : Env} {i : Nat}, (protN ix n μ)[i]? = μ[i]?.map fun s => if ix.contains (n + i) then s else s.prot
  | _, [], i => by simp [protN]
  | n, s :: r, 0 => by simp [protN]
  | n, s :: r, i + 1 => by
    rw [protN, List.getElem?_cons_succ, List.getElem?_cons_succ, prot_get]
    rw [show n + 1 + i = n + (i + 1) by omega]
theorem freeS_ok {q : Bool} {o : Option SV} (h : freeS q o = true) : ∃ s, o = some s ∧ (∀ t, s ≠ .p t) ∧ s.own = q := by
  rcases o with _ | s
  · cases h
  · cases s <;> first | (cases h; done) | exact ⟨_, rfl, (fun t z => by cases z), beq_iff_eq.mp h⟩
theorem freeK_ok : ∀ {K : List Nat} {μ : Env}, freeK K μ = true → ∀ i ∈ K, ∃ s, μ[i]? = some s ∧ (∀ t, s ≠ .p t) ∧ s.own = false
  | [], μ, e, i, h => by simp at h
  | j :: r, μ, e, i, h => by
    rw [freeK, Bool.and_eq_true] at e
    rcases List.mem_cons.mp h with rfl | h
    · exact freeS_ok e.1
    · exact freeK_ok e.2 i h
theorem freeJ_ok : ∀ {J : Js} {μ : Env}, freeJ J μ = true → ∀ i ∈ ixJ J, ∃ s, μ[i]? = some s ∧ (∀ t, s ≠ .p t)
  | [], μ, e, i, h => by simp [ixJ] at h
  | (j, m) :: r, μ, e, i, h => by
    rw [freeJ, Bool.and_eq_true] at e
    rcases List.mem_cons.mp h with rfl | h
    · obtain ⟨s, h1, h2, _⟩ := freeS_ok e.1
      exact ⟨s, h1, h2⟩
    · exact freeJ_ok e.2 i h
theorem sv_own {m : Mo} {x : m.Ty} : (m.sv x).own = m.own := by
  cases m <;> first | rfl | (cases x <;> rfl)
/-- a slot of the caller stays one -/
theorem setJ_own : ∀ {J : Js} {t : T J} {μ ν : Env}, freeJ J μ = true → (∀ (i : Nat) (s : SV), μ[i]? = some s → s.own = true → ∃ t : SV, ν[i]? = some t ∧ t.own = true) → ∀ (i : Nat) (s : SV), μ[i]? = some s → s.own = true → ∃ u : SV, (setJ J t ν)[i]? = some u ∧ u.own = true
  | [], t, μ, ν, _, h => h
  | (j, m) :: r, t, μ, ν, e, h => by
    rw [freeJ, Bool.and_eq_true] at e
    refine setJ_own (J := r) e.2 fun i s hs ho => ?_
    obtain ⟨u, h1, h2⟩ := h i s hs ho
    by_cases z : j = i
    · subst z
      obtain ⟨s', f1, _, f3⟩ := freeS_ok e.1
      rw [hs] at f1; cases f1
      exact ⟨_, List.getElem?_set_self (List.getElem?_eq_some_iff.mp h1).1, by rw [sv_own, ← f3]; exact ho⟩
    · exact ⟨u, by rw [List.getElem?_set_ne z]; exact h1, h2⟩
theorem kill_own {K : List Nat} {μ : Env} (e : freeK K μ = true) (i : Nat) (s : SV) (hs : μ[i]? = some s) (ho : s.own = true) : ∃ u : SV, (killK K μ)[i]? = some u ∧ u.own = true := by
  by_cases c : i ∈ K
  · obtain ⟨s', f1, _, f3⟩ := freeK_ok e i c
    rw [hs] at f1; cases f1; rw [ho] at f3; cases f3
  · exact ⟨s, by rw [kill_ne c]; exact hs, ho⟩
/-- what stands still in a part of the text whose slots ix may change -/
def Fx.inn (fx : Fx) (ix : List Nat) (μ : Env) : Fx := ⟨fx.n, fun i => match (protN ix 0 μ)[i]? with
  | some (.p s) => some s
  | _ => none, fx.S0, fx.io⟩
section
variable {ax : Ax} {fx : Fx} {μ μ' ν : Env} {σ σ' : DSt} {S S' : Sto} {ix : List Nat}
theorem Rel.inn (h : Rel ax fx μ σ S) (ix : List Nat) : Rel ax (fx.inn ix μ) (protN ix 0 μ) σ S := by
  obtain ⟨A, r⟩ := h
  refine ⟨A, r.mix rfl rfl rfl (fun i p e => ?_) (prot_len.trans r.lenμ) (fun i s e => ?_) fun i s e => ?_⟩
  · obtain ⟨_, s, e, f⟩ := r.io i p e
    rw [prot_get, e]
    refine ⟨_, rfl, ?_⟩
    dsimp only
    split
    · exact f
    · rw [core_own, core_prot, ← core_own]; exact f
  · rw [prot_get] at e
    rcases f : μ[i]? with _ | t
    · rw [f] at e; cases e
    · rw [f] at e
      simp only [Option.map_some, Option.some.injEq] at e
      subst e
      refine .inr ⟨t, rfl, ?_⟩
      split
      · rfl
      · exact core_prot.symm
  · simp only [Fx.inn] at e
    split at e
    · rename_i t f; cases e; exact f
    · cases e
/-- out of such a part: the slots that it did not touch are as they were -/
theorem Rel.out (h : Rel ax fx μ σ S) (hf : ∀ i ∈ ix, ∀ t : SV, μ[i]? ≠ some (.p t)) (h' : Rel ax (fx.inn ix μ) μ' σ' S') (hl : ν.length = μ.length) (hν : ∀ (i : Nat) (s : SV), ν[i]? = some s → s = SV.un ∨ (i ∉ ix ∧ μ[i]? = some s) ∨ μ'[i]? = some s) (hk : ∀ i : Nat, i ∉ ix → ν[i]? = μ[i]?) (hq : ∀ (i : Nat) (s : SV), μ[i]? = some s → s.own = true → ∃ t : SV, ν[i]? = some t ∧ t.own = true) : Rel ax fx ν σ' S' := by
  obtain ⟨A, r⟩ := h
  obtain ⟨A', r'⟩ := h'
  refine ⟨A', r'.mix rfl rfl rfl (fun i p e => let ⟨_, s, e, f⟩ := r.io i p e; hq i s e f) (hl.trans r.lenμ) (fun i s e => ?_) fun i s e => ?_⟩
  · rcases hν i s e with h | ⟨c, f⟩ | f
    · exact .inl h
    · have g : (protN ix 0 μ)[i]? = some s.prot := by
        rw [prot_get, f]; simp [c]
      cases s with
      | un => exact .inl rfl
      | v d => exact .inr ⟨.p (.v d), r'.fr i (.v d) (by simp only [Fx.inn, g]; rfl), rfl⟩
      | l q d => exact .inr ⟨.p (.l q d), r'.fr i (.l q d) (by simp only [Fx.inn, g]; rfl), rfl⟩
      | k q d => exact .inr ⟨.p (.k q d), r'.fr i (.k q d) (by simp only [Fx.inn, g]; rfl), rfl⟩
      | x c fs => exact .inr ⟨.p (.x c fs), r'.fr i (.x c fs) (by simp only [Fx.inn, g]; rfl), rfl⟩
      | p t => exact .inr ⟨.p t, r'.fr i t (by simp only [Fx.inn, g]; rfl), rfl⟩
    · exact .inr ⟨s, f, rfl⟩
  · have e' := r.fr i s e
    rw [hk i fun z => ?_]
    · exact e'
    · exact hf i z s e'
end
end KM

set_option maxRecDepth 100000
set_option maxHeartbeats 4000000
/-! Km1: mirrors of expressions. -/
namespace KM
open PySem PySem.Spec PyProof.Rows L2 KD
section
variable {α β : Type} {C : Str → Addr} {E : DEr} {S : Sto}
def post (C : Str → Addr) (E : DEr) (S : Sto) (Q : α → Prop) (x : P α) : Prop := match x with
  | .ok a _ => Q a
  | .er c fs _ => ∀ p, S p = none → E (C c) p (put S p (.xd fs))
  | .bad => False
theorem post_bind {x : P α} {k : α → P β} {Q : β → Prop} : post C E S Q (bind x k) = post C E S (fun a => post C E S Q (k a)) x := by cases x <;> rfl
theorem post_opt {o : Option α} {Q : α → Prop} (h : post C E S Q (opt o)) : ∃ a, o = some a ∧ Q a := by
  cases o with
  | none => exact h.elim
  | some a => exact ⟨a, rfl, h⟩
theorem post_mono {Q Q' : α → Prop} {x : P α} (i : ∀ a, Q a → Q' a) (h : post C E S Q x) : post C E S Q' x := by
  cases x with
  | ok a s => exact i a h
  | er c fs s => exact h
  | bad => exact h
end
/-! ### weaker readings -/
section
variable {K : PySem.W.Frag} {X : Cx} {W : WX}
theorem deI {e : Expr} {r r' : DTE} (h : DE X W e r) (i : ∀ E σ S Q, r' E σ S Q → r E σ S Q) : DE X W e r' := let ⟨t, p, ev⟩ := h; ⟨t, p, ⟨fun E G H S σV σ Q P w k s q => ev.run E G H S σV σ Q P w k s (i _ _ _ _ q)⟩⟩
theorem dtI {e : Expr} {r r' : DTT} (h : DT X W e r) (i : ∀ E σ S Q, r' E σ S Q → r E σ S Q) : DT X W e r' := let ⟨t, p, ev⟩ := h; ⟨t, p, ⟨fun E G H S σV σ Q P w k s q => ev.run E G H S σV σ Q P w k s (i _ _ _ _ q)⟩⟩
theorem dwI {e : Expr} {r r' : DTT} (h : DW X W e r) (i : ∀ E σ S Q, r' E σ S Q → r E σ S Q) : DW X W e r' := let ⟨t, p, ev⟩ := h; ⟨t, p, ⟨fun E G H S σV σ Q P w k s q => ev.run E G H S σV σ Q P w k s (i _ _ _ _ q)⟩⟩
theorem dtsI {e : List Expr} {r r' : DTT} (h : DTs X W e r) (i : ∀ E σ S Q, r' E σ S Q → r E σ S Q) : DTs X W e r' := let ⟨t, p, ev⟩ := h; ⟨t, p, ⟨fun E G H S σV σ Q P w k s q => ev.run E G H S σV σ Q P w k s (i _ _ _ _ q)⟩⟩
theorem daI {e : List Expr} {r r' : DTA} (h : DA X W e r) (i : ∀ E σ S Q, r' E σ S Q → r E σ S Q) : DA X W e r' := let ⟨t, p, ev⟩ := h; ⟨t, p, ⟨fun E G H S σV σ Q P w k s q => ev.run E G H S σV σ Q P w k s (i _ _ _ _ q)⟩⟩
theorem diI {tg e : Expr} {r r' : DTI} (h : DI X W tg e r) (i : ∀ E σ S Q, r' E σ S Q → r E σ S Q) : DI X W tg e r' := let ⟨t, p, ev⟩ := h; ⟨t, p, ⟨fun E G H S σV σ Q R w k s q => ev.run E G H S σV σ Q R w k s (i _ _ _ _ q)⟩⟩
theorem doI {e : Option Expr} {r r' : DTO} (h : DO X W e r) (i : ∀ E σ S Q, r' E σ S Q → r E σ S Q) : DO X W e r' := let ⟨t, p, ev⟩ := h; ⟨t, p, ⟨fun E G H S σV σ Q P w k s q => ev.run E G H S σV σ Q P w k s (i _ _ _ _ q)⟩⟩
theorem dsI {st : Stmt} {r r' : DTS} (h : DS X W st r) (i : ∀ Z σ S, r' Z σ S → r Z σ S) : DS X W st r' := let ⟨t, p, ev⟩ := h; ⟨t, p, ⟨fun Dd G H S σV σ Dh e k s q => ev.run Dd G H S σV σ Dh e k s (i _ _ _ q)⟩⟩
theorem dssI {st : List Stmt} {r r' : DTS} (h : DSs X W st r) (i : ∀ Z σ S, r' Z σ S → r Z σ S) : DSs X W st r' := let ⟨t, p, ev⟩ := h; ⟨t, p, ⟨fun Dd G H S σV σ Dh e k s q => ev.run Dd G H S σV σ Dh e k s (i _ _ _ q)⟩⟩
end
/-! ### what is said of an expression -/
def rdE (C : Str → Addr) (ax : Ax) (m : Env → P D) : DTE := fun E σ S Q => ∃ fx μ, Rel ax fx μ σ S ∧ post C E S (fun d => Q d S) (m μ)
def rdV (C : Str → Addr) (ax : Ax) (m : Env → P D) : DTE := fun E σ S Q => ∃ fx μ, Rel ax fx μ σ S ∧ post C E S (fun d => ∀ d0, Vw S d0 d → Q d0 S) (m μ)
def rdB (C : Str → Addr) (ax : Ax) (m : Env → P Bool) : DTE := fun E σ S Q => ∃ fx μ, Rel ax fx μ σ S ∧ post C E S (fun b => Q (.bl b) S) (m μ)
def rdT (C : Str → Addr) (ax : Ax) (m : Env → P Bool) : DTT := fun E σ S Q => ∃ fx μ, Rel ax fx μ σ S ∧ post C E S (fun b => Q b S) (m μ)
abbrev MPA := (α : Type) → Env → (List D → P α) → P α
def rdA (C : Str → Addr) (ax : Ax) (m : MPA) : DTA := fun E σ S Q => ∃ (fx : Fx) (μ : Env) (α : Type) (k : List D → P α) (R : α → Prop), Rel ax fx μ σ S ∧ (∀ ds, post C E S R (k ds) → Q ds S) ∧ post C E S R (m α μ k)
inductive VwL (S : Sto) : List D → List D → Prop
  | nil : VwL S [] []
  | cons {x0 x : D} {l0 l : List D} : Vw S x0 x → VwL S l0 l → VwL S (x0 :: l0) (x :: l)
def rdVA (C : Str → Addr) (ax : Ax) (m : MPA) : DTA := fun E σ S Q => ∃ (fx : Fx) (μ : Env) (α : Type) (k : List D → P α) (R : α → Prop), Rel ax fx μ σ S ∧ (∀ ds, post C E S R (k ds) → ∀ d0, VwL S d0 ds → Q d0 S) ∧ post C E S R (m α μ k)
def rdI (C : Str → Addr) (ax : Ax) (m : Env → P (List D)) : DTI := fun E σ S Q => ∃ fx μ, Rel ax fx μ σ S ∧ post C E S (fun d => Q d S) (m μ)
def rdO (C : Str → Addr) (ax : Ax) (m : Env → P (Option Int)) : DTO := fun E σ S Q => ∃ fx μ, Rel ax fx μ σ S ∧ post C E S (fun d => Q d S) (m μ)
/-- a fresh list, a fresh dict that will change -/
def rdF (C : Str → Addr) (ax : Ax) (m : Env → P (List D)) : DTE := fun E σ S Q => ∃ fx μ, Rel ax fx μ σ S ∧ post C E S (fun xs => ∀ p, S p = none → Q (.ref p) (put S p (.lst xs))) (m μ)
def rdG (C : Str → Addr) (ax : Ax) (m : Env → P (List (Key × D))) : DTE := fun E σ S Q => ∃ fx μ, Rel ax fx μ σ S ∧ post C E S (fun xs => ∀ p, S p = none → Q (.ref p) (put S p (.dic xs))) (m μ)
def XE (C : Str → Addr) (ax : Ax) (X : Cx) (W : WX) (e : Expr) (m : Env → P D) : Prop := DE X W e (rdE C ax m)
def XV (C : Str → Addr) (ax : Ax) (X : Cx) (W : WX) (e : Expr) (m : Env → P D) : Prop := DE X W e (rdV C ax m)
def XB (C : Str → Addr) (ax : Ax) (X : Cx) (W : WX) (e : Expr) (m : Env → P Bool) : Prop := DE X W e (rdB C ax m)
def XT (C : Str → Addr) (ax : Ax) (X : Cx) (W : WX) (e : Expr) (m : Env → P Bool) : Prop := DT X W e (rdT C ax m)
def XW (C : Str → Addr) (ax : Ax) (X : Cx) (W : WX) (e : Expr) (m : Env → P Bool) : Prop := DW X W e (rdT C ax m)
def XA (C : Str → Addr) (ax : Ax) (X : Cx) (W : WX) (e : List Expr) (m : MPA) : Prop := DA X W e (rdA C ax m)
def XVA (C : Str → Addr) (ax : Ax) (X : Cx) (W : WX) (e : List Expr) (m : MPA) : Prop := DA X W e (rdVA C ax m)
def XI (C : Str → Addr) (ax : Ax) (X : Cx) (W : WX) (tg e : Expr) (m : Env → P (List D)) : Prop := DI X W tg e (rdI C ax m)
def XO (C : Str → Addr) (ax : Ax) (X : Cx) (W : WX) (e : Option Expr) (m : Env → P (Option Int)) : Prop := DO X W e (rdO C ax m)
def XF (C : Str → Addr) (ax : Ax) (X : Cx) (W : WX) (e : Expr) (m : Env → P (List D)) : Prop := DE X W e (rdF C ax m)
def XG (C : Str → Addr) (ax : Ax) (X : Cx) (W : WX) (e : Expr) (m : Env → P (List (Key × D))) : Prop := DE X W e (rdG C ax m)
/-! ### words -/
def lookE (μ : Env) (i : Nat) : Option D := match μ[i]? with
  | some s => s.look
  | none => none
def viewE (μ : Env) (i : Nat) : Option D := match μ[i]? with
  | some s => s.view
  | none => none
def mVar (i : Nat) : Env → P D := fun μ => opt (lookE μ i)
def mView (i : Nat) : Env → P D := fun μ => opt (viewE μ i)
def mC (d : D) : Env → P D := fun _ => .ok d ()
def mOfB (m : Env → P Bool) : Env → P D := fun μ => bind (m μ) fun b => .ok (.bl b) ()
def asB : D → Option Bool
  | .bl b => some b
  | _ => none
def mToB (m : Env → P D) : Env → P Bool := fun μ => bind (m μ) fun d => opt (asB d)
def mOp (f : D → D → Option D) (a b : Env → P D) : Env → P D := fun μ => bind (a μ) fun x => bind (b μ) fun y => opt (f x y)
def mUn (f : D → Option D) (a : Env → P D) : Env → P D := fun μ => bind (a μ) fun x => opt (f x)
def mCmp (f : D → D → Option Bool) (a b : Env → P D) : Env → P Bool := fun μ => bind (a μ) fun x => bind (b μ) fun y => opt (f x y)
def mAnd (a b : Env → P Bool) : Env → P Bool := fun μ => bind (a μ) fun x => if x then b μ else .ok false ()
def mOr (a b : Env → P Bool) : Env → P Bool := fun μ => bind (a μ) fun x => if x then .ok true () else b μ
def mNot (a : Env → P Bool) : Env → P Bool := fun μ => bind (a μ) fun x => .ok (!x) ()
def mIfE (c : Env → P Bool) (a b : Env → P D) : Env → P D := fun μ => bind (c μ) fun x => if x then a μ else b μ
def mChain (f g : D → D → Option Bool) (a b c : Env → P D) : Env → P Bool := fun μ => bind (a μ) fun x => bind (b μ) fun y => bind (opt (f x y)) fun t => if t then bind (c μ) fun z => opt (g y z) else .ok false ()
def mNil : MPA := fun α μ k => k []
def mCons (a : Env → P D) (l : MPA) : MPA := fun α μ k => bind (a μ) fun x => l α μ fun xs => k (x :: xs)
def mTup (l : MPA) : Env → P D := fun μ => l D μ fun xs => .ok (.tup xs) ()
def mLst (l : MPA) : Env → P D := fun μ => l D μ fun xs => .ok (.lst xs) ()
def mCall (f : List D → Option D) (l : MPA) : Env → P D := fun μ => l D μ fun xs => opt (f xs)
def mCallB (f : List D → Option Bool) (l : MPA) : Env → P Bool := fun μ => l Bool μ fun xs => opt (f xs)
def mFn (f : List D → P D) (l : MPA) : Env → P D := fun μ => l D μ fun xs => f xs
def mTru (f : D → Option Bool) (a : Env → P D) : Env → P Bool := fun μ => bind (a μ) fun x => opt (f x)
def mNone : Env → P (Option Int) := fun _ => .ok none ()
def intOf : D → Option Int
  | .int i => some i
  | _ => none
def mPart (a : Env → P D) : Env → P (Option Int) := fun μ => bind (a μ) fun x => bind (opt (intOf x)) fun i => .ok (some i) ()
def mSl (f : D → Option Int → Option Int → Option D) (a : Env → P D) (lo hi : Env → P (Option Int)) : Env → P D := fun μ => bind (a μ) fun x => bind (lo μ) fun l => bind (hi μ) fun h => opt (f x l h)
section
variable {C : Str → Addr} {ax : Ax} {X : Cx} {W : WX} {a b c e : Expr} {ma mb mc : Env → P D} {na nb : Env → P Bool} {ml : MPA} {es : List Expr} {pos : Pos}
/-! ### rules -/
def OpOk (q : D → D → Sto → DK → Prop) (f : D → D → Option D) : Prop := ∀ x y x0 y0 S d (Q : DK), Vw S x0 x → Vw S y0 y → f x y = some d → Q d S → q x0 y0 S Q
def CmOk (q : D → D → Sto → DK → Prop) (f : D → D → Option Bool) : Prop := ∀ x y x0 y0 S d (Q : DK), Vw S x0 x → Vw S y0 y → f x y = some d → Q (.bl d) S → q x0 y0 S Q
def ClOk (q : List D → Sto → DK → Prop) (f : List D → Option D) : Prop := ∀ xs xs0 S d (Q : DK), VwL S xs0 xs → f xs = some d → Q d S → q xs0 S Q
def ClOkB (q : List D → Sto → DK → Prop) (f : List D → Option Bool) : Prop := ∀ xs xs0 S d (Q : DK), VwL S xs0 xs → f xs = some d → Q (.bl d) S → q xs0 S Q
theorem xv_e (h : XE C ax X W e ma) : XV C ax X W e ma := deI h fun E σ S Q ⟨fx, μ, r, p⟩ => ⟨fx, μ, r, post_mono (fun d q => q d (.inl rfl)) p⟩
theorem xe_b (h : XB C ax X W e na) : XE C ax X W e (mOfB na) := deI h fun E σ S Q ⟨fx, μ, r, p⟩ => ⟨fx, μ, r, by
  unfold mOfB at p; rw [post_bind] at p; exact p⟩
theorem xb_e (h : XE C ax X W e ma) : XB C ax X W e (mToB ma) := deI h fun E σ S Q ⟨fx, μ, r, p⟩ => ⟨fx, μ, r, by
  unfold mToB at p; rw [post_bind] at p
  refine post_mono (fun d q => ?_) p
  obtain ⟨b, e, q⟩ := post_opt q
  cases d <;> simp only [asB, reduceCtorEq, Option.some.injEq] at e
  subst e; exact q⟩
theorem xt_b (h : XB C ax X W e na) (he : ∀ whole, isTrue e X.env whole = (do let v ← whole; standAt e.pos; holding [v] (truthy v)) := by intro _; rfl) : XT C ax X W e na := dtI (dt_val h he) fun E σ S Q ⟨fx, μ, r, p⟩ => ⟨fx, μ, r, p⟩
theorem xe_c {d : D} (h : DE X W e (dC d)) : XE C ax X W e (mC d) := deI h fun E σ S Q ⟨fx, μ, r, p⟩ => p
theorem xe_var {i : Nat} (h : DE X W e (dVar i)) : XE C ax X W e (mVar i) := deI h fun E σ S Q ⟨fx, μ, ⟨A, r⟩, p⟩ => by
  obtain ⟨d, e, q⟩ := post_opt p
  unfold lookE at e
  split at e
  · rename_i s hs
    unfold dVar; rw [slot_look (r.slot i s hs) e]; exact q
  · cases e
theorem xv_var {i : Nat} (h : DE X W e (dVar i)) : XV C ax X W e (mView i) := deI h fun E σ S Q ⟨fx, μ, ⟨A, r⟩, p⟩ => by
  obtain ⟨d, e, q⟩ := post_opt p
  unfold viewE at e
  split at e
  · rename_i s hs
    obtain ⟨d0, h1, h2⟩ := slot_view (r.slot i s hs) e
    unfold dVar; rw [h1]; exact q d0 h2
  · cases e
theorem xe_op {op : Operator} {q : D → D → Sto → DK → Prop} {f : D → D → Option D} (ho : DOp X (binaryOp op) q) (hf : OpOk q f) (ha : XV C ax X W a ma) (hb : XV C ax X W b mb) : XE C ax X W (.BinOp a op b pos) (mOp f ma mb) :=
  deI (de_op ho ha hb) fun E σ S Q ⟨fx, μ, r, p⟩ => by
    unfold mOp at p; rw [post_bind] at p
    refine ⟨fx, μ, r, post_mono (fun x p x0 v => ?_) p⟩
    rw [post_bind] at p
    refine ⟨fx, μ, r, post_mono (fun y p y0 w => ?_) p⟩
    obtain ⟨d, e, q⟩ := post_opt p
    exact hf x y x0 y0 S d Q v w e q
theorem xe_ix {q : D → D → Sto → DK → Prop} {f : D → D → Option D} (ho : DIx X q) (hf : OpOk q f) (ha : XV C ax X W a ma) (hb : XV C ax X W b mb) (hs : PlainIx b := by exact fun _ _ => rfl) : XE C ax X W (.Subscript a b pos) (mOp f ma mb) :=
  deI (de_ix ho ha hb hs) fun E σ S Q ⟨fx, μ, r, p⟩ => by
    unfold mOp at p; rw [post_bind] at p
    refine ⟨fx, μ, r, post_mono (fun x p x0 v => ?_) p⟩
    rw [post_bind] at p
    refine ⟨fx, μ, r, post_mono (fun y p y0 w => ?_) p⟩
    obtain ⟨d, e, q⟩ := post_opt p
    exact hf x y x0 y0 S d Q v w e q
theorem xb_cmp {op : CmpOp} {q : D → D → Sto → DK → Prop} {f : D → D → Option Bool} (ho : DOp X (compareOp op) q) (hf : CmOk q f) (ha : XV C ax X W a ma) (hb : XV C ax X W b mb) (hm : behindInMarks op b = false := by first | exact nomark _ | rfl) : XB C ax X W (.Compare a [op] [b] pos) (mCmp f ma mb) :=
  deI (de_cmp ho ha hb hm) fun E σ S Q ⟨fx, μ, r, p⟩ => by
    unfold mCmp at p; rw [post_bind] at p
    refine ⟨fx, μ, r, post_mono (fun x p x0 v => ?_) p⟩
    rw [post_bind] at p
    refine ⟨fx, μ, r, post_mono (fun y p y0 w => ?_) p⟩
    obtain ⟨d, e, q⟩ := post_opt p
    exact hf x y x0 y0 S d Q v w e q
theorem xt_cmp {op : CmpOp} {q : D → D → Sto → DK → Prop} {f : D → D → Option Bool} (ho : DOp X (compareOp op) q) (hf : CmOk q f) (ha : XV C ax X W a ma) (hb : XV C ax X W b mb) (hm : behindInMarks op b = false := by first | exact nomark _ | rfl) : XT C ax X W (.Compare a [op] [b] pos) (mCmp f ma mb) :=
  dtI (dt_cmp ho ha hb hm) fun E σ S Q ⟨fx, μ, r, p⟩ => by
    unfold mCmp at p; rw [post_bind] at p
    refine ⟨fx, μ, r, post_mono (fun x p x0 v => ?_) p⟩
    rw [post_bind] at p
    refine ⟨fx, μ, r, post_mono (fun y p y0 w => ?_) p⟩
    obtain ⟨d, e, q⟩ := post_opt p
    exact hf x y x0 y0 S d _ v w e q
theorem chain_ok {E : DEr} {σ : DSt} {S : Sto} {Q : DK} {q q' : D → D → Sto → DK → Prop} {f f' : D → D → Option Bool} (hf : CmOk q f) (hf' : CmOk q' f') (h : rdB C ax (mChain f f' ma mb mc) E σ S Q) : dChain q q' (rdV C ax ma) (rdV C ax mb) (rdV C ax mc) E σ S Q := by
  obtain ⟨fx, μ, r, p⟩ := h
  unfold mChain at p; rw [post_bind] at p
  refine ⟨fx, μ, r, post_mono (fun x p x0 v => ?_) p⟩
  rw [post_bind] at p
  refine ⟨fx, μ, r, post_mono (fun y p y0 w => ?_) p⟩
  rw [post_bind] at p
  obtain ⟨d, e, p⟩ := post_opt p
  refine hf x y x0 y0 S d _ v w e ?_
  cases d with
  | true =>
    rw [if_pos rfl, post_bind] at p
    show if true = true then _ else _
    rw [if_pos rfl]
    refine ⟨fx, μ, r, post_mono (fun z p z0 u => ?_) p⟩
    obtain ⟨d, e, p⟩ := post_opt p
    exact hf' y z y0 z0 S d Q w u e p
  | false =>
    show if false = true then _ else _
    rw [if_neg Bool.false_ne_true] at p ⊢
    exact p
theorem xb_chain {op op' : CmpOp} {q q' : D → D → Sto → DK → Prop} {f f' : D → D → Option Bool} (ho : DOp X (compareOp op) q) (hf : CmOk q f) (ho' : DOp X (compareOp op') q') (hf' : CmOk q' f') (ha : XV C ax X W a ma) (hb : XV C ax X W b mb) (hc : XV C ax X W c mc)
    (hm : lastMarks [op, op'] [b, c] = false := by with_unfolding_all rfl) : XB C ax X W (.Compare a [op, op'] [b, c] pos) (mChain f f' ma mb mc) := deI (de_chain' ho ho' ha hb hc hm) fun E σ S Q h => chain_ok hf hf' h
theorem xt_chain {op op' : CmpOp} {q q' : D → D → Sto → DK → Prop} {f f' : D → D → Option Bool} (ho : DOp X (compareOp op) q) (hf : CmOk q f) (ho' : DOp X (compareOp op') q') (hf' : CmOk q' f') (ha : XV C ax X W a ma) (hb : XV C ax X W b mb) (hc : XV C ax X W c mc)
    (hm : lastMarks [op, op'] [b, c] = false := by with_unfolding_all rfl) : XT C ax X W (.Compare a [op, op'] [b, c] pos) (mChain f f' ma mb mc) := dtI (dt_chain ho ho' ha hb hc hm) fun E σ S Q ⟨fx, μ, r, p⟩ => chain_ok (Q := fun d S' => match d with | .bl k => Q k S' | _ => False) hf hf' ⟨fx, μ, r, p⟩
theorem xw_t (h : XW C ax X W e na) : XT C ax X W e na := h.dt
theorem xw_and1 (h : XT C ax X W a na) : XW C ax X W (.BoolOp .And [a] pos) na := dw_and1 h
theorem xw_or1 (h : XT C ax X W a na) : XW C ax X W (.BoolOp .Or [a] pos) na := dw_or1 h
theorem xw_and {rest : List Expr} (ha : XT C ax X W a na) (hb : XW C ax X W (.BoolOp .And (b :: rest) pos) nb) : XW C ax X W (.BoolOp .And (a :: b :: rest) pos) (mAnd na nb) := dwI (dw_and ha hb) fun E σ S Q ⟨fx, μ, r, p⟩ => by
  unfold mAnd at p; rw [post_bind] at p
  refine ⟨fx, μ, r, post_mono (fun x p => ?_) p⟩
  cases x with
  | true => rw [if_pos rfl] at p ⊢; exact ⟨fx, μ, r, p⟩
  | false => rw [if_neg Bool.false_ne_true] at p ⊢; exact p
theorem xw_or {rest : List Expr} (ha : XT C ax X W a na) (hb : XW C ax X W (.BoolOp .Or (b :: rest) pos) nb) : XW C ax X W (.BoolOp .Or (a :: b :: rest) pos) (mOr na nb) := dwI (dw_or ha hb) fun E σ S Q ⟨fx, μ, r, p⟩ => by
  unfold mOr at p; rw [post_bind] at p
  refine ⟨fx, μ, r, post_mono (fun x p => ?_) p⟩
  cases x with
  | true => rw [if_pos rfl] at p ⊢; exact p
  | false => rw [if_neg Bool.false_ne_true] at p ⊢; exact ⟨fx, μ, r, p⟩
theorem xt_not (ha : XT C ax X W a na) : XT C ax X W (.UnaryOp .Not a pos) (mNot na) := dtI (dt_not ha) fun E σ S Q ⟨fx, μ, r, p⟩ => by
  unfold mNot at p; rw [post_bind] at p; exact ⟨fx, μ, r, p⟩
theorem xb_one {op} (h : XB C ax X W a na) : XB C ax X W (.BoolOp op [a] pos) na := de_one h
theorem xb_and {rest : List Expr} (ha : XB C ax X W a na) (hb : XB C ax X W (.BoolOp .And (b :: rest) pos) nb) : XB C ax X W (.BoolOp .And (a :: b :: rest) pos) (mAnd na nb) := deI (de_and ha hb) fun E σ S Q ⟨fx, μ, r, p⟩ => by
  unfold mAnd at p; rw [post_bind] at p
  refine ⟨fx, μ, r, post_mono (fun x p => ?_) p⟩
  cases x with
  | true => rw [if_pos rfl] at p; exact ⟨fx, μ, r, p⟩
  | false => rw [if_neg Bool.false_ne_true] at p; exact p
theorem xb_or {rest : List Expr} (ha : XB C ax X W a na) (hb : XB C ax X W (.BoolOp .Or (b :: rest) pos) nb) : XB C ax X W (.BoolOp .Or (a :: b :: rest) pos) (mOr na nb) := deI (de_or ha hb) fun E σ S Q ⟨fx, μ, r, p⟩ => by
  unfold mOr at p; rw [post_bind] at p
  refine ⟨fx, μ, r, post_mono (fun x p => ?_) p⟩
  cases x with
  | true => rw [if_pos rfl] at p; exact p
  | false => rw [if_neg Bool.false_ne_true] at p; exact ⟨fx, μ, r, p⟩
theorem xb_not (ha : XB C ax X W a na) : XB C ax X W (.UnaryOp .Not a pos) (mNot na) := deI (de_not ha) fun E σ S Q ⟨fx, μ, r, p⟩ => by
  unfold mNot at p; rw [post_bind] at p; exact ⟨fx, μ, r, p⟩
theorem xe_ifE (hc : XT C ax X W c na) (ha : XE C ax X W a ma) (hb : XE C ax X W b mb) : XE C ax X W (.IfExp c a b pos) (mIfE na ma mb) := deI (de_ifE hc ha hb) fun E σ S Q ⟨fx, μ, r, p⟩ => by
  unfold mIfE at p; rw [post_bind] at p
  refine ⟨fx, μ, r, post_mono (fun x p => ?_) p⟩
  cases x with
  | true => rw [if_pos rfl] at p ⊢; exact ⟨fx, μ, r, p⟩
  | false => rw [if_neg Bool.false_ne_true] at p ⊢; exact ⟨fx, μ, r, p⟩
def mIsN (a : Env → P D) : Env → P Bool := fun μ => bind (a μ) fun x => .ok (isNon x) ()
theorem vw_non {S : Sto} {x0 x : D} (h : Vw S x0 x) : isNon x0 = isNon x := by
  rcases h with rfl | h
  · rfl
  · unfold vw at h
    split at h
    · split at h <;> subst h <;> rfl
    · rw [h]
theorem xb_isN {j pos'} (ha : XV C ax X W a ma) : XB C ax X W (.Compare a [.Is] [.Constant .none j pos'] pos) (mIsN ma) := deI (de_isN ha) fun E σ S Q ⟨fx, μ, r, p⟩ => by
  unfold mIsN at p; rw [post_bind] at p
  exact ⟨fx, μ, r, post_mono (fun x q x0 v => by show Q (.bl (isNon x0)) S; rw [vw_non v]; exact q) p⟩
theorem xb_notN {j pos'} (ha : XV C ax X W a ma) : XB C ax X W (.Compare a [.IsNot] [.Constant .none j pos'] pos) (mNot (mIsN ma)) := deI (de_notN ha) fun E σ S Q ⟨fx, μ, r, p⟩ => by
  unfold mNot mIsN at p; rw [post_bind, post_bind] at p
  exact ⟨fx, μ, r, post_mono (fun x q x0 v => by show Q (.bl (!isNon x0)) S; rw [vw_non v]; exact q) p⟩
theorem xt_isN {j pos'} (ha : XV C ax X W a ma) : XT C ax X W (.Compare a [.Is] [.Constant .none j pos'] pos) (mIsN ma) := dtI (dt_isN ha) fun E σ S Q ⟨fx, μ, r, p⟩ => by
  unfold mIsN at p; rw [post_bind] at p
  exact ⟨fx, μ, r, post_mono (fun x q x0 v => by show Q (isNon x0) S; rw [vw_non v]; exact q) p⟩
theorem xt_notN {j pos'} (ha : XV C ax X W a ma) : XT C ax X W (.Compare a [.IsNot] [.Constant .none j pos'] pos) (mNot (mIsN ma)) := dtI (dt_notN ha) fun E σ S Q ⟨fx, μ, r, p⟩ => by
  unfold mNot mIsN at p; rw [post_bind, post_bind] at p
  exact ⟨fx, μ, r, post_mono (fun x q x0 v => by show Q (!isNon x0) S; rw [vw_non v]; exact q) p⟩
def UnOk (g : Int → Int) (f : D → Option D) : Prop := ∀ x d, f x = some d → ∃ i, x = .int i ∧ d = .int (g i)
theorem xe_neg {f : D → Option D} (hf : UnOk (fun i => -i) f) (ha : XE C ax X W a ma) : XE C ax X W (.UnaryOp .USub a pos) (mUn f ma) := deI (de_neg ha) fun E σ S Q ⟨fx, μ, r, p⟩ => by
  unfold mUn at p; rw [post_bind] at p
  refine ⟨fx, μ, r, post_mono (fun x p => ?_) p⟩
  obtain ⟨d, e, q⟩ := post_opt p
  obtain ⟨i, rfl, rfl⟩ := hf x d e
  exact q
/-! truth -/
def TrOk (f : D → Option Bool) : Prop := ∀ x x0 S b (Q : Bool → Sto → Prop), Vw S x0 x → f x = some b → Q b S → dTruth x0 S Q
theorem xt_tru {f : D → Option Bool} (hf : TrOk f) (h : XV C ax X W e ma) (he : ∀ whole, isTrue e X.env whole = (do let v ← whole; standAt e.pos; holding [v] (truthy v)) := by intro _; rfl) : XT C ax X W e (mTru f ma) := dtI (dt_truth h he) fun E σ S Q ⟨fx, μ, r, p⟩ => by
  unfold mTru at p; rw [post_bind] at p
  refine ⟨fx, μ, r, post_mono (fun x p x0 v => ?_) p⟩
  obtain ⟨d, e, q⟩ := post_opt p
  exact hf x x0 S d Q v e q
/-! arguments, displays -/
theorem xa_nil : XA C ax X W [] mNil := daI da_nil fun E σ S Q ⟨fx, μ, α, k, R, r, q, p⟩ => q [] p
theorem xa_cons (ha : XE C ax X W e ma) (hr : XA C ax X W es ml) (hs : starEach (e :: es) X.env = (false, eval e X.env) :: starEach es X.env := by rfl) : XA C ax X W (e :: es) (mCons ma ml) := daI (da_cons ha hr hs) fun E σ S Q ⟨fx, μ, α, k, R, r, q, p⟩ => by
  unfold mCons at p; rw [post_bind] at p
  exact ⟨fx, μ, r, post_mono (fun x p => ⟨fx, μ, α, _, R, r, fun xs p => q (x :: xs) p, p⟩) p⟩
theorem xva_nil : XVA C ax X W [] mNil := daI da_nil fun E σ S Q ⟨fx, μ, α, k, R, r, q, p⟩ => q [] p [] .nil
theorem xva_cons (ha : XV C ax X W e ma) (hr : XVA C ax X W es ml) (hs : starEach (e :: es) X.env = (false, eval e X.env) :: starEach es X.env := by rfl) : XVA C ax X W (e :: es) (mCons ma ml) := daI (da_cons ha hr hs) fun E σ S Q ⟨fx, μ, α, k, R, r, q, p⟩ => by
  unfold mCons at p; rw [post_bind] at p
  exact ⟨fx, μ, r, post_mono (fun x p x0 v => ⟨fx, μ, α, _, R, r, fun xs p xs0 w => q (x :: xs) p _ (.cons v w), p⟩) p⟩
/-- a list of a number of items that is written -/
def LenIs (ml : MPA) (n : Nat) : Prop := ∀ (C : Str → Addr) (E : DEr) (S : Sto) (α : Type) (μ : Env) (k k' : List D → P α) (R : α → Prop), (∀ ds, ds.length = n → post C E S R (k ds) → post C E S R (k' ds)) → post C E S R (ml α μ k) → post C E S R (ml α μ k')
theorem lenNil : LenIs mNil 0 := fun C E S α μ k k' R i h => i [] rfl h
theorem lenCons {n : Nat} (h : LenIs ml n) : LenIs (mCons ma ml) (n + 1) := fun C E S α μ k k' R i p => by
  unfold mCons at p ⊢
  rw [post_bind] at p ⊢
  exact post_mono (fun x p => h C E S α μ _ _ R (fun ds hd q => i (x :: ds) (by simp [hd]) q) p) p
open Classical in
theorem post_len {n : Nat} {C : Str → Addr} {E : DEr} {S : Sto} {α : Type} {μ : Env} {k : List D → P α} {R : α → Prop} (hl : LenIs ml n) (h : post C E S R (ml α μ k)) : post C E S R (ml α μ fun ds => if ds.length = n then k ds else .bad) := hl C E S α μ _ _ R (fun ds hd q => by rw [if_pos hd]; exact q) h
theorem len_cut {n : Nat} {C : Str → Addr} {E : DEr} {S : Sto} {α : Type} {x : P α} {R : α → Prop} {ds : List D} {inst : Decidable (ds.length = n)} (h : post C E S R (@ite _ (ds.length = n) inst x .bad)) : ds.length = n ∧ post C E S R x := by
  split at h
  · exact ⟨by assumption, h⟩
  · exact h.elim
theorem size_ok {n : Nat} (h : n ≤ 16777216) : n ≤ sizeLine := Nat.le_trans h (by decide)
theorem xe_tup {x1} {n : Nat} (hl : LenIs ml n) (h : XA C ax X W es ml) (hn : n ≤ 16777216 := by decide) : XE C ax X W (.Tuple es x1 pos) (mTup ml) := deI (de_tup h) fun E σ S Q ⟨fx, μ, r, p⟩ => by
  refine ⟨fx, μ, D, _, fun d => Q d S, r, ?_, post_len hl p⟩
  exact fun ds p => ⟨by rw [(len_cut p).1]; exact size_ok hn, (len_cut p).2⟩
theorem xe_lst {n : Nat} (hl : LenIs ml n) (h : XA C ax X W es ml) (hn : n ≤ 16777216 := by decide) : XE C ax X W (.List es pos) (mLst ml) := deI (de_lst h) fun E σ S Q ⟨fx, μ, r, p⟩ => by
  refine ⟨fx, μ, D, _, fun d => Q d S, r, ?_, post_len hl p⟩
  exact fun ds p => ⟨by rw [(len_cut p).1]; exact size_ok hn, (len_cut p).2⟩
theorem xf_lst {n : Nat} (hl : LenIs ml n) (h : XA C ax X W es ml) (hn : n ≤ 16777216 := by decide) : XF C ax X W (.List es pos) (fun μ => ml _ μ fun xs => .ok xs ()) := deI (de_lstM h) fun E σ S Q ⟨fx, μ, r, p⟩ => by
  refine ⟨fx, μ, List D, _, _, r, ?_, post_len hl p⟩
  exact fun ds p => ⟨by rw [(len_cut p).1]; exact size_ok hn, (len_cut p).2⟩
/-! calls -/
theorem cl_ok {q : List D → Sto → DK → Prop} {f : List D → Option D} (hf : ClOk q f) {E : DEr} {σ : DSt} {S : Sto} {Q : DK} (h : rdE C ax (mCall f ml) E σ S Q) : dCall q (rdVA C ax ml) E σ S Q := by
  obtain ⟨fx, μ, r, p⟩ := h
  refine ⟨fx, μ, D, _, fun d => Q d S, r, fun xs p xs0 v => ?_, p⟩
  obtain ⟨d, e, q⟩ := post_opt p
  exact hf xs xs0 S d Q v e q
theorem cl_okB {q : List D → Sto → DK → Prop} {f : List D → Option Bool} (hf : ClOkB q f) {E : DEr} {σ : DSt} {S : Sto} {Q : DK} (h : rdB C ax (mCallB f ml) E σ S Q) : dCall q (rdVA C ax ml) E σ S Q := by
  obtain ⟨fx, μ, r, p⟩ := h
  refine ⟨fx, μ, Bool, _, fun d => Q (.bl d) S, r, fun xs p xs0 v => ?_, p⟩
  obtain ⟨d, e, q⟩ := post_opt p
  exact hf xs xs0 S d Q v e q
theorem xe_callB {id : String} {x : Str} {p : Pos} {f : List D → Option D} {q : List D → Sto → DK → Prop} (hc : DC X (.builtin id) q) (hf : ClOk q f) (hg : Gl X x) (hm : X.mg x = none) (hv : bootBuiltins x = some (.builtin id)) (ha : XVA C ax X W (e :: es) ml)
    (hn : x ≠ "__name__" := by decide) (hdb : (x == ("__debug__" : Str)) = false := by decide) (hs : starEach (e :: es) X.env = (false, eval e X.env) :: starEach es X.env := by rfl) (hpl : (backTo pos (starEach es X.env)).any (·.1) = false := by rfl) :
    XE C ax X W (.Call (.Name x p) (e :: es) [] pos) (mCall f ml) := deI (de_callB hc hg hm hv ha hn hdb hs hpl) fun E σ S Q h => cl_ok hf h
theorem xe_callTy {T : String} {x : Str} {p : Pos} {f : List D → Option D} {q : List D → Sto → DK → Prop} (hc : DC X (.type T) q) (hf : ClOk q f) (hg : Gl X x) (hm : X.mg x = none) (hv : bootBuiltins x = some (.type T)) (ha : XVA C ax X W (e :: es) ml)
    (hn : x ≠ "__name__" := by decide) (hdb : (x == ("__debug__" : Str)) = false := by decide) (hs : starEach (e :: es) X.env = (false, eval e X.env) :: starEach es X.env := by rfl) (hpl : (backTo pos (starEach es X.env)).any (·.1) = false := by rfl) :
    XE C ax X W (.Call (.Name x p) (e :: es) [] pos) (mCall f ml) := deI (de_callTy hc hg hm hv ha hn hdb hs hpl) fun E σ S Q h => cl_ok hf h
theorem xb_callB {id : String} {x : Str} {p : Pos} {f : List D → Option Bool} {q : List D → Sto → DK → Prop} (hc : DC X (.builtin id) q) (hf : ClOkB q f) (hg : Gl X x) (hm : X.mg x = none) (hv : bootBuiltins x = some (.builtin id)) (ha : XVA C ax X W (e :: es) ml)
    (hn : x ≠ "__name__" := by decide) (hdb : (x == ("__debug__" : Str)) = false := by decide) (hs : starEach (e :: es) X.env = (false, eval e X.env) :: starEach es X.env := by rfl) (hpl : (backTo pos (starEach es X.env)).any (·.1) = false := by rfl) :
    XB C ax X W (.Call (.Name x p) (e :: es) [] pos) (mCallB f ml) := deI (de_callB hc hg hm hv ha hn hdb hs hpl) fun E σ S Q h => cl_okB hf h
/-! slices -/
theorem xo_none : XO C ax X W none mNone := doI do_none fun E σ S Q ⟨fx, μ, r, p⟩ => p
theorem xo_some (ha : XE C ax X W a ma) : XO C ax X W (some a) (mPart ma) := doI (do_some ha) fun E σ S Q ⟨fx, μ, r, p⟩ => by
  unfold mPart at p; rw [post_bind] at p
  refine ⟨fx, μ, r, post_mono (fun x p => ?_) p⟩
  rw [post_bind] at p
  obtain ⟨i, e, q⟩ := post_opt p
  cases x <;> simp only [intOf, reduceCtorEq, Option.some.injEq] at e
  subst e; exact q
def SlOk (q : D → Option Int → Option Int → Sto → DK → Prop) (f : D → Option Int → Option Int → Option D) : Prop := ∀ x x0 lo hi S d (Q : DK), Vw S x0 x → f x lo hi = some d → Q d S → q x0 lo hi S Q
theorem xe_slice {lo hi : Option Expr} {ol oh : Env → P (Option Int)} {f : D → Option Int → Option Int → Option D} {p2 : Pos} (hf : SlOk dSlQ f) (he : XV C ax X W e ma) (hl : XO C ax X W lo ol) (hh : XO C ax X W hi oh) : XE C ax X W (.Subscript e (.Slice lo hi none p2) pos) (mSl f ma ol oh) :=
  deI (de_slice he hl hh) fun E σ S Q ⟨fx, μ, r, p⟩ => by
    unfold mSl at p; rw [post_bind] at p
    refine ⟨fx, μ, r, post_mono (fun x p x0 v => ?_) p⟩
    rw [post_bind] at p
    refine ⟨fx, μ, r, post_mono (fun l p => ?_) p⟩
    rw [post_bind] at p
    refine ⟨fx, μ, r, post_mono (fun h p => ?_) p⟩
    obtain ⟨d, e, q⟩ := post_opt p
    exact hf x x0 l h S d Q v e q
/-! ### calls of defs -/
def spP (C : Str → Addr) (n : Nat) (m : List D → P D) : DSp := fun ds S Q E => ds.length = n ∧ post C E S (fun d => Q d S) (m ds)
theorem xe_has {k n : Nat} {ps : List Str} {m : List D → P D} {x : Str} {p : Pos} (hl : LenIs ml n) (tk : Takes X W) (F : Has X.prog X.w X.K X.mg X.base k x ps (spP C n m)) (hr : Room k X.A) (hg : Gl X x) (ha : XA C ax X W (e :: es) ml) (hd : (x == ("__debug__" : Str)) = false := by decide)
    (hs : starEach (e :: es) X.env = (false, eval e X.env) :: starEach es X.env := by rfl) (hpl : (backTo pos (starEach es X.env)).any (·.1) = false := by rfl) :
    XE C ax X W (.Call (.Name x p) (e :: es) [] pos) (mFn m ml) := deI (de_has tk F hr hg ha hd hs hpl) fun E σ S Q ⟨fx, μ, r, p⟩ => by
  refine ⟨fx, μ, D, _, fun d => Q d S, r, ?_, post_len hl p⟩
  exact fun ds p => len_cut p
end
end KM

set_option maxRecDepth 100000
set_option maxHeartbeats 4000000
/-! Km2: mirrors of statements; expressions that change what a slot holds. -/
namespace KM
open PySem PySem.Spec PyProof.Rows L2 KD
/-- how a statement goes on -/
structure ZM (β : Type) where
  nx : Env → β
  rt : D → Env → β
  bk : Env → β
  ct : Env → β
  ex : Str → Flds → Env → β
  bad : β
abbrev MS := (β : Type) → ZM β → Env → β
abbrev MC := (β : Type) → Env → (D → Env → β) → (Str → Flds → Env → β) → β → β
abbrev MT := (β : Type) → Env → (Bool → Env → β) → (Str → Flds → Env → β) → β → β
/-- what is given back: data; where fm: a list of this def's own, that nobody else holds -/
def RetOk (ax : Ax) (fx : Fx) (S : Sto) (d d0 : D) : Prop := (ax.fm = false ∧ d0 = d) ∨ (ax.fm = true ∧ ∃ p xs, d = .lst xs ∧ d0 = .ref p ∧ S p = some (.lst xs) ∧ fx.S0 p = none ∧ ∀ i, fx.io i ≠ some p)
theorem RetOk.v {ax : Ax} {fx : Fx} {S : Sto} {d : D} (h : ax.fm = false) : RetOk ax fx S d d := .inl ⟨h, rfl⟩
theorem RetOk.eq {ax : Ax} {fx : Fx} {S : Sto} {d d0 : D} (h : RetOk ax fx S d d0) (hf : ax.fm = false) : d0 = d := by
  rcases h with ⟨_, e⟩ | ⟨f, _⟩
  · exact e
  · rw [hf] at f; cases f
theorem RetOk.to {ax ax' : Ax} {fx fx' : Fx} {S S' : Sto} {d d0 : D} (h : RetOk ax fx S d d0) (hf : ax'.fm = ax.fm) (h0 : ∀ p, fx.S0 p = none → fx'.S0 p = none) (hi : fx'.io = fx.io) (hs : ∀ p xs, S p = some (.lst xs) → S' p = some (.lst xs)) : RetOk ax' fx' S' d d0 := by
  rcases h with ⟨f, e⟩ | ⟨f, p, xs, e1, e2, e3, e4, e5⟩
  · exact .inl ⟨hf.trans f, e⟩
  · exact .inr ⟨hf.trans f, p, xs, e1, e2, hs p xs e3, h0 p e4, by rw [hi]; exact e5⟩
structure ZOk (C : Str → Addr) (ax : Ax) (fx : Fx) (Z : DEnds) {β : Type} (z : ZM β) (Φ : β → Prop) : Prop where
  bad : ¬ Φ z.bad
  nx : ∀ μ σ S, Rel ax fx μ σ S → Φ (z.nx μ) → Z.nx σ S
  rt : ∀ d d0 μ σ S, Rel ax fx μ σ S → RetOk ax fx S d d0 → Φ (z.rt d μ) → Z.rt d0 S
  bk : ∀ μ σ S, Rel ax fx μ σ S → Φ (z.bk μ) → Z.bk σ S
  ct : ∀ μ σ S, Rel ax fx μ σ S → Φ (z.ct μ) → Z.ct σ S
  ex : ∀ c fs μ σ S, Rel ax fx μ σ S → Φ (z.ex c fs μ) → ∀ p, S p = none → Z.ex (C c) p σ (put S p (.xd fs))
structure KOk (C : Str → Addr) (ax : Ax) (fx : Fx) (E : DEr) (σ : DSt) {α β : Type} (k : α → Env → β) (ex : Str → Flds → Env → β) (b : β) (Q : α → Sto → Prop) (Φ : β → Prop) : Prop where
  bad : ¬ Φ b
  k : ∀ d μ S, Rel ax fx μ σ S → Φ (k d μ) → Q d S
  ex : ∀ c fs μ S, Rel ax fx μ σ S → Φ (ex c fs μ) → ∀ p, S p = none → E (C c) p (put S p (.xd fs))
def rdS (C : Str → Addr) (ax : Ax) (m : MS) : DTS := fun Z σ S => ∃ (fx : Fx) (μ : Env) (β : Type) (z : ZM β) (Φ : β → Prop), Rel ax fx μ σ S ∧ ZOk C ax fx Z z Φ ∧ Φ (m β z μ)
def rdC (C : Str → Addr) (ax : Ax) (m : MC) : DTE := fun E σ S Q => ∃ (fx : Fx) (μ : Env) (β : Type) (k : D → Env → β) (ex : Str → Flds → Env → β) (b : β) (Φ : β → Prop), Rel ax fx μ σ S ∧ KOk C ax fx E σ k ex b Q Φ ∧ Φ (m β μ k ex b)
def rdCT (C : Str → Addr) (ax : Ax) (m : MT) : DTT := fun E σ S Q => ∃ (fx : Fx) (μ : Env) (β : Type) (k : Bool → Env → β) (ex : Str → Flds → Env → β) (b : β) (Φ : β → Prop), Rel ax fx μ σ S ∧ KOk C ax fx E σ k ex b Q Φ ∧ Φ (m β μ k ex b)
def XS (C : Str → Addr) (ax : Ax) (X : Cx) (W : WX) (st : Stmt) (m : MS) : Prop := DS X W st (rdS C ax m)
def XSs (C : Str → Addr) (ax : Ax) (X : Cx) (W : WX) (st : List Stmt) (m : MS) : Prop := DSs X W st (rdS C ax m)
def XC (C : Str → Addr) (ax : Ax) (X : Cx) (W : WX) (e : Expr) (m : MC) : Prop := DE X W e (rdC C ax m)
def XCT (C : Str → Addr) (ax : Ax) (X : Cx) (W : WX) (e : Expr) (m : MT) : Prop := DT X W e (rdCT C ax m)
/-! ### words -/
def gotO {α β : Type} (o : Option α) (k : α → β) (b : β) : β := match o with
  | some a => k a
  | none => b
def setS {β : Type} (i : Nat) (s : SV) (μ : Env) (k : Env → β) (b : β) : β := match freeS false μ[i]? with
  | true => k (μ.set i s)
  | false => b
def mPure (p : Env → P D) : MC := fun β μ k ex b => got (p μ) (fun d _ => k d μ) (fun c fs _ => ex c fs μ) b
def mPureT (p : Env → P Bool) : MT := fun β μ k ex b => got (p μ) (fun d _ => k d μ) (fun c fs _ => ex c fs μ) b
def mOpC (f : D → D → Option D) (a b : MC) : MC := fun β μ k ex bd => a β μ (fun x μ1 => b β μ1 (fun y μ2 => gotO (f x y) (fun d => k d μ2) bd) ex bd) ex bd
def mCmpC (f : D → D → Option Bool) (a b : MC) : MC := fun β μ k ex bd => a β μ (fun x μ1 => b β μ1 (fun y μ2 => gotO (f x y) (fun d => k (.bl d) μ2) bd) ex bd) ex bd
def mCmpT (f : D → D → Option Bool) (a b : MC) : MT := fun β μ k ex bd => a β μ (fun x μ1 => b β μ1 (fun y μ2 => gotO (f x y) (fun d => k d μ2) bd) ex bd) ex bd
def mAndT (a b : MT) : MT := fun β μ k ex bd => a β μ (fun x μ1 => if x then b β μ1 k ex bd else k false μ1) ex bd
def mOrT (a b : MT) : MT := fun β μ k ex bd => a β μ (fun x μ1 => if x then k true μ1 else b β μ1 k ex bd) ex bd
def mNotT (a : MT) : MT := fun β μ k ex bd => a β μ (fun x μ1 => k (!x) μ1) ex bd
def mTruT (f : D → Option Bool) (a : MC) : MT := fun β μ k ex bd => a β μ (fun x μ1 => gotO (f x) (fun d => k d μ1) bd) ex bd
def mIfC (c : MT) (a b : MC) : MC := fun β μ k ex bd => c β μ (fun x μ1 => if x then a β μ1 k ex bd else b β μ1 k ex bd) ex bd
/-! ends of statements -/
def mNx : MS := fun β z μ => z.nx μ
def mNev : MS := fun β z μ => z.bad
def mBk : MS := fun β z μ => z.bk μ
def mCt : MS := fun β z μ => z.ct μ
def mSeq (s t : MS) : MS := fun β z μ => s β ⟨fun μ' => t β z μ', z.rt, z.bk, z.ct, z.ex, z.bad⟩ μ
def mEx (e : MC) : MS := fun β z μ => e β μ (fun _ μ1 => z.nx μ1) z.ex z.bad
def mRt (e : MC) : MS := fun β z μ => e β μ (fun d μ1 => z.rt d μ1) z.ex z.bad
def mRtN : MS := fun β z μ => z.rt .non μ
def mSet (i : Nat) (e : MC) : MS := fun β z μ => e β μ (fun d μ1 => setS i (.v d) μ1 z.nx z.bad) z.ex z.bad
def mSetL (i : Nat) (p : Env → P (List D)) : MS := fun β z μ => got (p μ) (fun xs _ => setS i (.l false xs) μ z.nx z.bad) (fun c fs _ => z.ex c fs μ) z.bad
def mSetK (i : Nat) (p : Env → P (List (Key × D))) : MS := fun β z μ => got (p μ) (fun xs _ => setS i (.k false xs) μ z.nx z.bad) (fun c fs _ => z.ex c fs μ) z.bad
def mIf (c : MT) (s t : MS) : MS := fun β z μ => c β μ (fun x μ1 => if x then s β z μ1 else t β z μ1) z.ex z.bad
/-- a list that may change becomes data -/
def mFrz (i : Nat) (s : MS) : MS := fun β z μ => match μ[i]? with
  | some (.l false xs) => s β z (μ.set i (.v (.lst xs)))
  | _ => z.bad
def mRais (c : Str) (n : Str) (e : MC) : MS := fun β z μ => e β μ (fun d μ1 => z.ex c [(n, d)] μ1) z.ex z.bad
def getL {β : Type} (μ : Env) (i : Nat) (k : Bool → List D → β) (b : β) : β := match μ[i]? with
  | some (.l q xs) => k q xs
  | _ => b
def getK {β : Type} (μ : Env) (i : Nat) (k : Bool → List (Key × D) → β) (b : β) : β := match μ[i]? with
  | some (.k q xs) => k q xs
  | _ => b
def guard {β : Type} (c : Bool) (a b : β) : β := match c with
  | true => a
  | false => b
def sizeB (n : Nat) : Bool := decide (n ≤ 16777216)
def mApp (i : Nat) (e : MC) : MS := fun β z μ => getL μ i (fun _ _ => e β μ (fun d μ1 => getL μ1 i (fun q xs => guard (sizeB (xs.length + 1)) (z.nx (μ1.set i (.l q (xs ++ [d])))) z.bad) z.bad) z.ex z.bad) z.bad
def ixW (n : Nat) : D → Option Nat
  | .int i => ixN n i
  | _ => none
def mSetIx (i : Nat) (j e : MC) : MS := fun β z μ => e β μ (fun d μ1 => getL μ1 i (fun _ _ => j β μ1 (fun y μ2 => getL μ2 i (fun q xs => gotO (ixW xs.length y) (fun n => z.nx (μ2.set i (.l q (xs.set n d)))) z.bad) z.bad) z.ex z.bad) z.bad) z.ex z.bad
/-! ### joined ways and loops -/
inductive B (ε α : Type) where
  | nx (a : α) | bk (a : α) | ct (a : α) | rt (d : D) (s : ε) | er (c : Str) (fs : Flds) (s : ε) | bad
def zB (I J : Js) : ZM (B (T I) (T J)) where
  nx := fun μ => getJ J μ (fun t => .nx t) .bad
  rt := fun d μ => getJ I μ (fun s => .rt d s) .bad
  bk := fun μ => getJ J μ (fun t => .bk t) .bad
  ct := fun μ => getJ J μ (fun t => .ct t) .bad
  ex := fun c fs μ => getJ I μ (fun s => .er c fs s) .bad
  bad := .bad
def outB {ε α β : Type} (o : B ε α) (nx bk ct : α → β) (rt : D → ε → β) (er : Str → Flds → ε → β) (b : β) : β := match o with
  | .nx a => nx a
  | .bk a => bk a
  | .ct a => ct a
  | .rt d s => rt d s
  | .er c fs s => er c fs s
  | .bad => b
def nonI (I J : Js) (K : List Nat) : List Nat := K ++ (ixJ J).filter fun i => !(ixJ I).contains i
def okB (I J : Js) (K : List Nat) (μ : Env) : Bool := freeK (nonI I J K) μ && (freeJ J μ && (freeJ I μ && (ixJ I).all fun i => (ixJ J).contains i || K.contains i))
/-- the ways of s joined: J is what lives on, K what does not, I what the caller sees of what s changes -/
def mJoin (I J : Js) (K : List Nat) (s : MS) : MS := fun β z μ => guard (okB I J K μ)
  (outB (s _ (zB I J) (protN (ixJ J ++ K) 0 μ)) (fun t => z.nx (setJ J t (killK K μ))) (fun t => z.bk (setJ J t (killK K μ))) (fun t => z.ct (setJ J t (killK K μ)))
    (fun d t => z.rt d (setJ I t (killK (nonI I J K) μ))) (fun c fs t => z.ex c fs (setJ I t (killK (nonI I J K) μ))) z.bad) z.bad
def stepB {ε α : Type} (o : B ε α) (go : α → B ε α) : B ε α := match o with
  | .nx a => go a
  | .ct a => go a
  | .bk a => .nx a
  | .rt d s => .rt d s
  | .er c fs s => .er c fs s
  | .bad => .bad
def loopB {ε α : Type} (f : α → D → B ε α) : List D → α → B ε α
  | [], a => .nx a
  | x :: xs, a => stepB (f a x) fun b => loopB f xs b
def whileB {ε α : Type} (c : α → P Bool) (er : Str → Flds → α → B ε α) (f : α → B ε α) : Nat → α → B ε α
  | 0, _ => .bad
  | n + 1, a => got (c a) (fun g _ => if g then stepB (f a) fun b => whileB c er f n b else .nx a) (fun e fs _ => er e fs a) .bad
abbrev MG := (β : Type) → D → Env → (Env → β) → β → β
def headE (J : Js) (K : List Nat) (μ : Env) (t : T J) : Env := setJ J t (killK K (protN (ixJ J ++ K) 0 μ))
def mFor (I J : Js) (K : List Nat) (it : Env → P (List D)) (g : MG) (s : MS) : MS := fun β z μ => guard (okB I J K μ)
  (got (it μ) (fun xs _ => getJ J μ (fun t0 => outB (loopB (fun t x => g _ x (headE J K μ t) (fun μ' => s _ (zB I J) μ') .bad) xs t0)
      (fun t => z.nx (setJ J t (killK K μ))) (fun t => z.bk (setJ J t (killK K μ))) (fun t => z.ct (setJ J t (killK K μ)))
      (fun d t => z.rt d (setJ I t (killK (nonI I J K) μ))) (fun c fs t => z.ex c fs (setJ I t (killK (nonI I J K) μ))) z.bad) z.bad) (fun c fs _ => z.ex c fs μ) z.bad) z.bad
def fuelN : Nat := 1000000
def mWhile (I J : Js) (K : List Nat) (c : Env → P Bool) (s : MS) : MS := fun β z μ => guard (okB I J K μ)
  (getJ J μ (fun t0 => outB (whileB (fun t => c (headE J K μ t)) (fun e fs t => getJ I (headE J K μ t) (fun u => .er e fs u) .bad) (fun t => s _ (zB I J) (headE J K μ t)) fuelN t0)
      (fun t => z.nx (setJ J t (killK K μ))) (fun t => z.bk (setJ J t (killK K μ))) (fun t => z.ct (setJ J t (killK K μ)))
      (fun d t => z.rt d (setJ I t (killK (nonI I J K) μ))) (fun c fs t => z.ex c fs (setJ I t (killK (nonI I J K) μ))) z.bad) z.bad) z.bad
def mGName (i : Nat) : MG := fun β d μ k b => setS i (.v d) μ k b
/-! ### rules -/
section
variable {C : Str → Addr} {ax : Ax} {X : Cx} {W : WX} {a b c e : Expr} {ma mb mc : MC} {na nb : MT} {pos : Pos} {st : Stmt} {rest : List Stmt} {s t : MS}
theorem gotO_ok {α β : Type} {o : Option α} {k : α → β} {b : β} {Φ : β → Prop} (h : Φ (gotO o k b)) (hb : ¬ Φ b) : ∃ a, o = some a ∧ Φ (k a) := by
  cases o with
  | none => exact absurd h hb
  | some a => exact ⟨a, rfl, h⟩
theorem setS_ok {β : Type} {i : Nat} {s : SV} {μ : Env} {k : Env → β} {b : β} {Φ : β → Prop} (h : Φ (setS i s μ k b)) (hb : ¬ Φ b) : Φ (k (μ.set i s)) ∧ ∃ u, μ[i]? = some u ∧ (∀ t, μ[i]? ≠ some (.p t)) ∧ u.own = false := by
  unfold setS at h
  cases f : freeS false μ[i]? with
  | false => rw [f] at h; exact absurd h hb
  | true =>
    rw [f] at h
    obtain ⟨u, h1, h2, h3⟩ := freeS_ok f
    exact ⟨h, u, h1, fun t z => h2 t (Option.some.inj (h1.symm.trans z)), h3⟩
theorem guard_ok {β : Type} {c : Bool} {a b : β} {Φ : β → Prop} (h : Φ (guard c a b)) (hb : ¬ Φ b) : c = true ∧ Φ a := by
  cases c with
  | true => exact ⟨rfl, h⟩
  | false => exact absurd h hb
theorem getL_ok {β : Type} {μ : Env} {i : Nat} {k : Bool → List D → β} {b : β} {Φ : β → Prop} (h : Φ (getL μ i k b)) (hb : ¬ Φ b) : ∃ q xs, μ[i]? = some (.l q xs) ∧ Φ (k q xs) := by
  unfold getL at h
  split at h
  · exact ⟨_, _, by assumption, h⟩
  · exact absurd h hb
theorem getK_ok {β : Type} {μ : Env} {i : Nat} {k : Bool → List (Key × D) → β} {b : β} {Φ : β → Prop} (h : Φ (getK μ i k b)) (hb : ¬ Φ b) : ∃ q xs, μ[i]? = some (.k q xs) ∧ Φ (k q xs) := by
  unfold getK at h
  split at h
  · exact ⟨_, _, by assumption, h⟩
  · exact absurd h hb
section
variable {α β : Type} {fx : Fx} {E : DEr} {σ : DSt} {S : Sto} {μ : Env} {k : α → Env → β} {ex : Str → Flds → Env → β} {bd : β} {Q : α → Sto → Prop} {Φ : β → Prop}
theorem got_ok {m : P α} (h : Φ (got m (fun d _ => k d μ) (fun c fs _ => ex c fs μ) bd)) (r : Rel ax fx μ σ S) (z : KOk C ax fx E σ k ex bd Q Φ) : post C E S (fun d => Φ (k d μ)) m := by
  cases m with
  | ok d s => exact h
  | er c fs s => exact z.ex c fs μ S r h
  | bad => exact absurd h z.bad
theorem KOk.to {α' : Type} {k' : α' → Env → β} {Q' : α' → Sto → Prop} (z : KOk C ax fx E σ k ex bd Q Φ) (h : ∀ d μ S, Rel ax fx μ σ S → Φ (k' d μ) → Q' d S) : KOk C ax fx E σ k' ex bd Q' Φ := ⟨z.bad, h, z.ex⟩
theorem ZOk.kok {Z : DEnds} {z : ZM β} (o : ZOk C ax fx Z z Φ) (h : ∀ d μ S, Rel ax fx μ σ S → Φ (k d μ) → Q d S) : KOk C ax fx (exOf Z σ) σ k z.ex z.bad Q Φ := ⟨o.bad, h, fun c fs μ S r h p hp => o.ex c fs μ σ S r h p hp⟩
end
theorem xc_p {m : Env → P D} (h : XE C ax X W e m) : XC C ax X W e (mPure m) := deI h fun E σ S Q ⟨fx, μ, β, k, ex, bd, Φ, r, z, h⟩ => ⟨fx, μ, r, post_mono (fun d q => z.k d μ S r q) (got_ok h r z)⟩
theorem xct_p {m : Env → P Bool} (h : XT C ax X W e m) : XCT C ax X W e (mPureT m) := dtI h fun E σ S Q ⟨fx, μ, β, k, ex, bd, Φ, r, z, h⟩ => ⟨fx, μ, r, post_mono (fun d q => z.k d μ S r q) (got_ok h r z)⟩
theorem xc_op {op : Operator} {q : D → D → Sto → DK → Prop} {f : D → D → Option D} (ho : DOp X (binaryOp op) q) (hf : OpOk q f) (ha : XC C ax X W a ma) (hb : XC C ax X W b mb) : XC C ax X W (.BinOp a op b pos) (mOpC f ma mb) :=
  deI (de_op ho ha hb) fun E σ S Q ⟨fx, μ, β, k, ex, bd, Φ, r, z, h⟩ => ⟨fx, μ, β, _, ex, bd, Φ, r, z.to fun x μ1 S1 r1 h1 => ⟨fx, μ1, β, _, ex, bd, Φ, r1, z.to fun y μ2 S2 r2 h2 => by
    obtain ⟨d, e, h⟩ := gotO_ok h2 z.bad
    exact hf x y x y S2 d Q (.inl rfl) (.inl rfl) e (z.k d μ2 S2 r2 h), h1⟩, h⟩
theorem xc_ix {q : D → D → Sto → DK → Prop} {f : D → D → Option D} (ho : DIx X q) (hf : OpOk q f) (ha : XC C ax X W a ma) (hb : XC C ax X W b mb) (hs : PlainIx b := by exact fun _ _ => rfl) : XC C ax X W (.Subscript a b pos) (mOpC f ma mb) :=
  deI (de_ix ho ha hb hs) fun E σ S Q ⟨fx, μ, β, k, ex, bd, Φ, r, z, h⟩ => ⟨fx, μ, β, _, ex, bd, Φ, r, z.to fun x μ1 S1 r1 h1 => ⟨fx, μ1, β, _, ex, bd, Φ, r1, z.to fun y μ2 S2 r2 h2 => by
    obtain ⟨d, e, h⟩ := gotO_ok h2 z.bad
    exact hf x y x y S2 d Q (.inl rfl) (.inl rfl) e (z.k d μ2 S2 r2 h), h1⟩, h⟩
theorem xc_cmp {op : CmpOp} {q : D → D → Sto → DK → Prop} {f : D → D → Option Bool} (ho : DOp X (compareOp op) q) (hf : CmOk q f) (ha : XC C ax X W a ma) (hb : XC C ax X W b mb) (hm : behindInMarks op b = false := by first | exact nomark _ | rfl) : XC C ax X W (.Compare a [op] [b] pos) (mCmpC f ma mb) :=
  deI (de_cmp ho ha hb hm) fun E σ S Q ⟨fx, μ, β, k, ex, bd, Φ, r, z, h⟩ => ⟨fx, μ, β, _, ex, bd, Φ, r, z.to fun x μ1 S1 r1 h1 => ⟨fx, μ1, β, _, ex, bd, Φ, r1, z.to fun y μ2 S2 r2 h2 => by
    obtain ⟨d, e, h⟩ := gotO_ok h2 z.bad
    exact hf x y x y S2 d Q (.inl rfl) (.inl rfl) e (z.k _ μ2 S2 r2 h), h1⟩, h⟩
theorem xct_cmp {op : CmpOp} {q : D → D → Sto → DK → Prop} {f : D → D → Option Bool} (ho : DOp X (compareOp op) q) (hf : CmOk q f) (ha : XC C ax X W a ma) (hb : XC C ax X W b mb) (hm : behindInMarks op b = false := by first | exact nomark _ | rfl) : XCT C ax X W (.Compare a [op] [b] pos) (mCmpT f ma mb) :=
  dtI (dt_cmp ho ha hb hm) fun E σ S Q ⟨fx, μ, β, k, ex, bd, Φ, r, z, h⟩ => ⟨fx, μ, β, _, ex, bd, Φ, r, z.to fun x μ1 S1 r1 h1 => ⟨fx, μ1, β, _, ex, bd, Φ, r1, z.to fun y μ2 S2 r2 h2 => by
    obtain ⟨d, e, h⟩ := gotO_ok h2 z.bad
    exact hf x y x y S2 d _ (.inl rfl) (.inl rfl) e (z.k _ μ2 S2 r2 h), h1⟩, h⟩
theorem xct_tru {f : D → Option Bool} (hf : TrOk f) (h : XC C ax X W e ma) (he : ∀ whole, isTrue e X.env whole = (do let v ← whole; standAt e.pos; holding [v] (truthy v)) := by intro _; rfl) : XCT C ax X W e (mTruT f ma) := dtI (dt_truth h he) fun E σ S Q ⟨fx, μ, β, k, ex, bd, Φ, r, z, h⟩ =>
  ⟨fx, μ, β, _, ex, bd, Φ, r, z.to fun x μ1 S1 r1 h1 => by
    obtain ⟨d, e, h⟩ := gotO_ok h1 z.bad
    exact hf x x S1 d Q (.inl rfl) e (z.k d μ1 S1 r1 h), h⟩
theorem xct_not (ha : XCT C ax X W a na) : XCT C ax X W (.UnaryOp .Not a pos) (mNotT na) := dtI (dt_not ha) fun E σ S Q ⟨fx, μ, β, k, ex, bd, Φ, r, z, h⟩ => ⟨fx, μ, β, _, ex, bd, Φ, r, z.to fun x μ1 S1 r1 h1 => z.k _ μ1 S1 r1 h1, h⟩
theorem xc_ifE (hc : XCT C ax X W c na) (ha : XC C ax X W a ma) (hb : XC C ax X W b mb) : XC C ax X W (.IfExp c a b pos) (mIfC na ma mb) := deI (de_ifE hc ha hb) fun E σ S Q ⟨fx, μ, β, k, ex, bd, Φ, r, z, h⟩ =>
  ⟨fx, μ, β, _, ex, bd, Φ, r, z.to fun x μ1 S1 r1 h1 => by
    cases x with
    | true => rw [if_pos rfl] at h1 ⊢; exact ⟨fx, μ1, β, k, ex, bd, Φ, r1, z, h1⟩
    | false => rw [if_neg Bool.false_ne_true] at h1 ⊢; exact ⟨fx, μ1, β, k, ex, bd, Φ, r1, z, h1⟩, h⟩
def XCW (C : Str → Addr) (ax : Ax) (X : Cx) (W : WX) (e : Expr) (m : MT) : Prop := DW X W e (rdCT C ax m)
theorem xcw_t (h : XCW C ax X W e na) : XCT C ax X W e na := h.dt
theorem xcw_and1 (h : XCT C ax X W a na) : XCW C ax X W (.BoolOp .And [a] pos) na := dw_and1 h
theorem xcw_or1 (h : XCT C ax X W a na) : XCW C ax X W (.BoolOp .Or [a] pos) na := dw_or1 h
theorem xcw_and {rest : List Expr} (ha : XCT C ax X W a na) (hb : XCW C ax X W (.BoolOp .And (b :: rest) pos) nb) : XCW C ax X W (.BoolOp .And (a :: b :: rest) pos) (mAndT na nb) := dwI (dw_and ha hb) fun E σ S Q ⟨fx, μ, β, k, ex, bd, Φ, r, z, h⟩ =>
  ⟨fx, μ, β, _, ex, bd, Φ, r, z.to fun x μ1 S1 r1 h1 => by
    cases x with
    | true => rw [if_pos rfl] at h1 ⊢; exact ⟨fx, μ1, β, k, ex, bd, Φ, r1, z, h1⟩
    | false => rw [if_neg Bool.false_ne_true] at h1 ⊢; exact z.k _ μ1 S1 r1 h1, h⟩
theorem xcw_or {rest : List Expr} (ha : XCT C ax X W a na) (hb : XCW C ax X W (.BoolOp .Or (b :: rest) pos) nb) : XCW C ax X W (.BoolOp .Or (a :: b :: rest) pos) (mOrT na nb) := dwI (dw_or ha hb) fun E σ S Q ⟨fx, μ, β, k, ex, bd, Φ, r, z, h⟩ =>
  ⟨fx, μ, β, _, ex, bd, Φ, r, z.to fun x μ1 S1 r1 h1 => by
    cases x with
    | true => rw [if_pos rfl] at h1 ⊢; exact z.k _ μ1 S1 r1 h1
    | false => rw [if_neg Bool.false_ne_true] at h1 ⊢; exact ⟨fx, μ1, β, k, ex, bd, Φ, r1, z, h1⟩, h⟩
/-! statements -/
theorem xs_pass : XS C ax X W (.Pass pos) mNx := dsI ds_pass fun Z σ S ⟨fx, μ, β, z, Φ, r, o, h⟩ => o.nx μ σ S r h
theorem xs_break : XS C ax X W (.Break pos) mBk := dsI ds_break fun Z σ S ⟨fx, μ, β, z, Φ, r, o, h⟩ => o.bk μ σ S r h
theorem xs_continue : XS C ax X W (.Continue pos) mCt := dsI ds_continue fun Z σ S ⟨fx, μ, β, z, Φ, r, o, h⟩ => o.ct μ σ S r h
theorem xs_never : XS C ax X W st mNev := dsI ds_never fun Z σ S ⟨fx, μ, β, z, Φ, r, o, h⟩ => o.bad h
theorem xss_nil : XSs C ax X W [] mNx := dssI dss_nil fun Z σ S ⟨fx, μ, β, z, Φ, r, o, h⟩ => o.nx μ σ S r h
theorem xss_one (h : XS C ax X W st s) : XSs C ax X W [st] s := dss_one h
theorem xss_cons (h1 : XS C ax X W st s) (h2 : XSs C ax X W rest t) : XSs C ax X W (st :: rest) (mSeq s t) := dssI (dss_cons h1 h2) fun Z σ S ⟨fx, μ, β, z, Φ, r, o, h⟩ =>
  ⟨fx, μ, β, ⟨fun μ' => t β z μ', z.rt, z.bk, z.ct, z.ex, z.bad⟩, Φ, r, ⟨o.bad, fun μ1 σ1 S1 r1 (h1 : Φ (t β z μ1)) => ⟨fx, μ1, β, z, Φ, r1, o, h1⟩, o.rt, o.bk, o.ct, o.ex⟩, h⟩
theorem xs_expr (h : XC C ax X W e ma) (hs : swapsWith e none pos.line X.env = pure false := by rfl) : XS C ax X W (.Expr e pos) (mEx ma) := dsI (ds_expr h hs) fun Z σ S ⟨fx, μ, β, z, Φ, r, o, h⟩ =>
  ⟨fx, μ, β, _, z.ex, z.bad, Φ, r, o.kok fun d μ1 S1 r1 h1 => o.nx μ1 σ S1 r1 h1, h⟩
theorem xs_ret (h : XC C ax X W e ma) (hf : ax.fm = false := by rfl) : XS C ax X W (.Return (some e) pos) (mRt ma) := dsI (ds_ret h) fun Z σ S ⟨fx, μ, β, z, Φ, r, o, h⟩ =>
  ⟨fx, μ, β, _, z.ex, z.bad, Φ, r, o.kok fun d μ1 S1 r1 h1 => o.rt d d μ1 σ S1 r1 (.v hf) h1, h⟩
theorem xs_retN (hf : ax.fm = false := by rfl) : XS C ax X W (.Return none pos) mRtN := dsI ds_retN fun Z σ S ⟨fx, μ, β, z, Φ, r, o, h⟩ => o.rt .non .non μ σ S r (.v hf) h
theorem xs_if {as bs : List Stmt} (hc : XCT C ax X W c na) (ha : XSs C ax X W as s) (hb : XSs C ax X W bs t) : XS C ax X W (.If c as bs pos) (mIf na s t) := dsI (ds_if hc ha hb) fun Z σ S ⟨fx, μ, β, z, Φ, r, o, h⟩ =>
  ⟨fx, μ, β, _, z.ex, z.bad, Φ, r, o.kok fun x μ1 S1 r1 h1 => by
    cases x with
    | true => rw [if_pos rfl] at h1 ⊢; exact ⟨fx, μ1, β, z, Φ, r1, o, h1⟩
    | false => rw [if_neg Bool.false_ne_true] at h1 ⊢; exact ⟨fx, μ1, β, z, Φ, r1, o, h1⟩, h⟩
/-- a statement that sets a slot -/
theorem xs_set {i : Nat} (h : DS X W st (dAsg (rdC C ax ma) (dgName i))) : XS C ax X W st (mSet i ma) := dsI h fun Z σ S ⟨fx, μ, β, z, Φ, r, o, h⟩ =>
  ⟨fx, μ, β, _, z.ex, z.bad, Φ, r, o.kok fun d μ1 S1 r1 h1 => by
    obtain ⟨h, u, h2, h3, h4⟩ := setS_ok h1 o.bad
    exact o.nx _ _ S1 (r1.setV d h3 h2 h4) h, h⟩
theorem xs_setL {i : Nat} {p : Env → P (List D)} (h : DS X W st (dAsg (rdF C ax p) (dgName i))) : XS C ax X W st (mSetL i p) := dsI h fun Z σ S ⟨fx, μ, β, z, Φ, r, o, h⟩ =>
  ⟨fx, μ, r, post_mono (fun xs h1 q hq => by
    obtain ⟨h, u, h2, h3, h4⟩ := setS_ok h1 o.bad
    exact o.nx _ _ _ (r.newL hq xs h3 h2 h4) h) (got_ok (k := fun xs μ => setS i (.l false xs) μ z.nx z.bad) h r (o.kok (Q := fun _ _ => True) fun _ _ _ _ _ => trivial))⟩
theorem xs_setK {i : Nat} {p : Env → P (List (Key × D))} (h : DS X W st (dAsg (rdG C ax p) (dgName i))) : XS C ax X W st (mSetK i p) := dsI h fun Z σ S ⟨fx, μ, β, z, Φ, r, o, h⟩ =>
  ⟨fx, μ, r, post_mono (fun xs h1 q hq => by
    obtain ⟨h, u, h2, h3, h4⟩ := setS_ok h1 o.bad
    exact o.nx _ _ _ (r.newK hq xs h3 h2 h4) h) (got_ok (k := fun xs μ => setS i (.k false xs) μ z.nx z.bad) h r (o.kok (Q := fun _ _ => True) fun _ _ _ _ _ => trivial))⟩
theorem xss_frz (i : Nat) (h : XSs C ax X W rest s) : XSs C ax X W rest (mFrz i s) := dssI (ds_frzS i h) fun Z σ S ⟨fx, μ, β, z, Φ, r, o, h⟩ => by
  unfold mFrz at h
  split at h
  · rename_i xs hx
    obtain ⟨p, h1, h2, _, h3⟩ := r.getL hx
    exact ⟨p, xs, h1, h2, fx, _, β, z, Φ, h3 rfl, o, h⟩
  · exact absurd h o.bad
theorem xs_raise1 {x n : Str} {p p2 : Pos} (hc : X.calm = true) (tk : Takes X W) (E : ErrC X.K X.mg X.prog X.w X.base x (C x) n [] []) (hr : Room 2 X.A) (hg : Gl X x) (ha : XC C ax X W e ma) (hdb : (x == ("__debug__" : Str)) = false := by decide)
    (hs : starEach [e] X.env = (false, eval e X.env) :: starEach [] X.env := by rfl) (hpl : (backTo pos (starEach [] X.env)).any (·.1) = false := by rfl) : XS C ax X W (.Raise (some (.Call (.Name x p) [e] [] pos)) none p2) (mRais x n ma) :=
  dsI (ds_raise1 hc tk E hr hg (da_cons ha da_nil hs) hdb hs hpl) fun Z σ S ⟨fx, μ, β, z, Φ, r, o, h⟩ => ⟨fx, μ, β, _, z.ex, z.bad, Φ, r, o.kok fun d μ1 S1 r1 h1 p hp => o.ex x _ μ1 σ S1 r1 h1 p hp, h⟩
/-! lists that change -/
theorem size_dec {n : Nat} (h : sizeB n = true) : n ≤ sizeLine := size_ok (of_decide_eq_true h)
theorem xs_app {i : Nat} {o : Expr} {apos cpos : Pos} (ho : DE X W o (dVar i)) (he : XC C ax X W e ma) (hbase : attributeBase o "append" X.env (eval o X.env) = eval o X.env := by rfl)
    (hfew : ((backTo cpos (starEach [e] X.env)).all (fun x => !x.1) && (backToKw cpos (keywordEach [] X.env)).all (fun x => x.1.isSome)
      && decide (([e] : List Expr).length + ([] : List Keyword).length + (if ([] : List Keyword).isEmpty then 0 else 1) < 30)) = true := by rfl)
    (hline : (apos.endLine == cpos.line) = true := by rfl) (hs1 : starEach [e] X.env = (false, eval e X.env) :: starEach [] X.env := by rfl) (hplain : (backTo cpos (starEach [] X.env)).any (·.1) = false := by rfl)
    (hs : swapsWith (.Call (.Attribute o "append" apos) [e] [] cpos) none pos.line X.env = pure false := by rfl) : XS C ax X W (.Expr (.Call (.Attribute o "append" apos) [e] [] cpos) pos) (mApp i ma) :=
  dsI (ds_expr (de_append ho he hbase hfew hline hs1 hplain) hs) fun Z σ S ⟨fx, μ, β, z, Φ, r, o, h⟩ => by
    obtain ⟨q, xs, hx, h⟩ := getL_ok h o.bad
    obtain ⟨p, hσ, hS, _, _⟩ := r.getL hx
    unfold dDrop dBM dVar
    simp only [hσ]
    refine ⟨by rw [vw_l hS]; rfl, fx, μ, β, _, z.ex, z.bad, Φ, r, o.kok fun d μ1 S1 r1 h1 => ?_, h⟩
    obtain ⟨q1, xs1, hx1, h1⟩ := getL_ok h1 o.bad
    obtain ⟨hz, h1⟩ := guard_ok h1 o.bad
    obtain ⟨p1, hσ1, hS1, hch, _⟩ := r1.getL hx1
    rw [hσ] at hσ1
    cases hσ1
    exact ⟨xs1, hS1, size_dec hz, o.nx _ σ _ (hch _) h1⟩
theorem xs_setIx {i : Nat} {o j : Expr} {p2 : Pos} (ho : DE X W o (dVar i)) (hj : XC C ax X W j mb) (he : XC C ax X W e ma) (hs : swapsWithSole [.Subscript o j p2] e pos.line X.env = pure false := by rfl) (hw : swappedStores [.Subscript o j p2] e X.env = pure none := by rfl)
    (ha : ∀ v, assign (.Subscript o j p2) X.env v = (do
      let ov ← holding [v] (eval o X.env)
      let iv ← holding [v, ov] (eval j X.env)
      standAt p2
      holding [v, ov, iv] (setItem ov iv v)
      release [v, ov, iv] []) := by intro _; rfl) : XS C ax X W (.Assign [.Subscript o j p2] e pos) (mSetIx i mb ma) := dsI (ds_setIx ho hj he hs hw ha) fun Z σ S ⟨fx, μ, β, z, Φ, r, o, h⟩ =>
  ⟨fx, μ, β, _, z.ex, z.bad, Φ, r, o.kok fun d μ1 S1 r1 h1 => by
    obtain ⟨q0, xs0, hx0, h1⟩ := getL_ok h1 o.bad
    obtain ⟨p, hσ, hS, _, _⟩ := r1.getL hx0
    show dVar i _ σ S1 _
    unfold dVar; rw [hσ]
    refine ⟨fx, μ1, β, _, z.ex, z.bad, Φ, r1, o.kok fun y μ2 S2 r2 h2 => ?_, h1⟩
    obtain ⟨q2, xs2, hx2, h2⟩ := getL_ok h2 o.bad
    obtain ⟨n, e, h4⟩ := gotO_ok h2 o.bad
    obtain ⟨p2, hσ2, hS2, hch, _⟩ := r2.getL hx2
    rw [hσ] at hσ2
    cases hσ2
    cases y <;> simp only [ixW, reduceCtorEq] at e
    exact ⟨p, xs2, _, n, rfl, rfl, hS2, e, o.nx _ σ _ (hch _) h4⟩, h⟩
/-! joined ways, loops -/
theorem freeK_app {K M : List Nat} {μ : Env} (h : freeK (K ++ M) μ = true) : freeK K μ = true := by
  induction K with
  | nil => rfl
  | cons i r ih =>
    rw [List.cons_append, freeK, Bool.and_eq_true] at h
    rw [freeK, Bool.and_eq_true]; exact ⟨h.1, ih h.2⟩
structure OkB (I J : Js) (K : List Nat) (μ : Env) : Prop where
  m : freeK (nonI I J K) μ = true
  k : freeK K μ = true
  j : freeJ J μ = true
  i : freeJ I μ = true
  sub : ∀ i ∈ ixJ I, i ∈ ixJ J ++ K
theorem okB_ok {I J : Js} {K : List Nat} {μ : Env} (h : okB I J K μ = true) : OkB I J K μ := by
  unfold okB at h
  rw [Bool.and_eq_true, Bool.and_eq_true, Bool.and_eq_true, List.all_eq_true] at h
  obtain ⟨h1, h2, h3, h4⟩ := h
  refine ⟨h1, freeK_app h1, h2, h3, fun i hi => ?_⟩
  have := h4 i hi
  rw [Bool.or_eq_true] at this
  rw [List.mem_append]
  rcases this with h | h
  · exact .inl (by simpa using h)
  · exact .inr (by simpa using h)
section
variable {fx : Fx} {I J : Js} {K : List Nat} {μ μ' : Env} {σ σ' : DSt} {S S' : Sto}
theorem OkB.ix (h : OkB I J K μ) : ∀ i ∈ ixJ J ++ K, ∀ t : SV, μ[i]? ≠ some (.p t) := fun i hi t z => by
  have key : ∃ s, μ[i]? = some s ∧ ∀ t, s ≠ .p t := by
    rcases List.mem_append.mp hi with hi | hi
    · exact freeJ_ok h.j i hi
    · obtain ⟨s, q, w, _⟩ := freeK_ok h.k i hi
      exact ⟨s, q, w⟩
  obtain ⟨s, q, w⟩ := key
  rw [z] at q; cases q; exact w _ rfl
/-- what a state tells of the slots behind -/
def Told (L : Js) (t : T L) (μ' : Env) : Prop := ∀ (ν : Env) (i : Nat) (s : SV), ν.length = μ'.length → (setJ L t ν)[i]? = some s → (i ∉ ixJ L ∧ ν[i]? = some s) ∨ μ'[i]? = some s
/-- out of the part, by what lives on -/
theorem Rel.outJ (r : Rel ax fx μ σ S) (ok : OkB I J K μ) (r' : Rel ax (fx.inn (ixJ J ++ K) μ) μ' σ' S') {L : Js} {M : List Nat} {t : T L} (hL : Told L t μ')
    (h1 : ∀ i, i ∈ ixJ J ++ K ↔ i ∈ ixJ L ++ M) (hLf : freeJ L μ = true) (hM : freeK M μ = true) : Rel ax fx (setJ L t (killK M μ)) σ' S' := by
  have hlen : (killK M μ).length = μ'.length := by
    obtain ⟨A, a⟩ := r
    obtain ⟨A', a'⟩ := r'
    rw [kill_len, a.lenμ, a'.lenμ]; rfl
  refine r.out ok.ix r' (setJ_len.trans kill_len) (fun i s e => ?_) (fun i hi => ?_) (setJ_own hLf (kill_own hM))
  · rcases hL _ i s hlen e with ⟨c, e⟩ | e
    · rcases kill_get e with e | ⟨c', e⟩
      · exact .inl e
      · refine .inr (.inl ⟨fun z => ?_, e⟩)
        rcases List.mem_append.mp ((h1 i).mp z) with z | z
        · exact c z
        · exact c' z
    · exact .inr (.inr e)
  · have hi' : i ∉ ixJ L ++ M := fun z => hi ((h1 i).mpr z)
    rw [List.mem_append, not_or] at hi'
    rw [setJ_ne hi'.1, kill_ne hi'.2]
theorem Rel.outN (r : Rel ax fx μ σ S) (ok : OkB I J K μ) (r' : Rel ax (fx.inn (ixJ J ++ K) μ) μ' σ' S') {t : T J} (hL : Told J t μ') : Rel ax fx (setJ J t (killK K μ)) σ' S' := r.outJ ok r' hL (fun _ => .rfl) ok.j ok.k
theorem Rel.outI (r : Rel ax fx μ σ S) (ok : OkB I J K μ) (r' : Rel ax (fx.inn (ixJ J ++ K) μ) μ' σ' S') {t : T I} (hL : Told I t μ') : Rel ax fx (setJ I t (killK (nonI I J K) μ)) σ' S' := r.outJ ok r' hL (fun i => by
  unfold nonI
  constructor
  · intro h
    rcases List.mem_append.mp h with h | h
    · by_cases c : i ∈ ixJ I
      · exact List.mem_append_left _ c
      · exact List.mem_append_right _ (List.mem_append_right _ (List.mem_filter.mpr ⟨h, by simpa using c⟩))
    · exact List.mem_append_right _ (List.mem_append_left _ h)
  · intro h
    rcases List.mem_append.mp h with h | h
    · exact ok.sub i h
    · rcases List.mem_append.mp h with h | h
      · exact List.mem_append_right _ h
      · exact List.mem_append_left _ (List.mem_filter.mp h).1) ok.i ok.m
theorem setJ_in : ∀ {L : Js} {t : T L} {μ ν : Env} {i : Nat}, i ∈ ixJ L → ν.length = μ.length → (setJ L t ν)[i]? = (setJ L t μ)[i]?
  | (j, m) :: r, t, μ, ν, i, h, hl => by
    by_cases c : i ∈ ixJ r
    · rw [setJ, setJ]; exact setJ_in (L := r) c (by rw [List.length_set, List.length_set, hl])
    · have e : i = j := by
        rcases List.mem_cons.mp h with h | h
        · exact h
        · exact absurd h c
      subst e
      rw [setJ, setJ, setJ_ne c, setJ_ne c]
      by_cases l : i < μ.length
      · rw [List.getElem?_set_self l, List.getElem?_set_self (by rw [hl]; exact l)]
      · rw [List.getElem?_eq_none (by rw [List.length_set]; omega), List.getElem?_eq_none (by rw [List.length_set]; omega)]
theorem told_self {L : Js} {t : T L} {μ : Env} : Told L t (setJ L t μ) := fun ν i s hl e => by
  by_cases c : i ∈ ixJ L
  · refine .inr ?_
    rw [← setJ_in c (hl.trans setJ_len)]; exact e
  · rw [setJ_ne c] at e; exact .inl ⟨c, e⟩
theorem told_get {L : Js} {t : T L} (h : ∀ ν i s, (setJ L t ν)[i]? = some s → (i ∉ ixJ L ∧ ν[i]? = some s) ∨ μ'[i]? = some s) : Told L t μ' := fun ν i s _ e => h ν i s e
/-- the next turn's slots -/
theorem Rel.head (r : Rel ax fx μ σ S) (ok : OkB I J K μ) (r' : Rel ax (fx.inn (ixJ J ++ K) μ) μ' σ' S') {t : T J} (hL : Told J t μ') : Rel ax (fx.inn (ixJ J ++ K) μ) (headE J K μ t) σ' S' := by
  obtain ⟨A, a⟩ := r
  obtain ⟨A', a'⟩ := r'
  have pn : ∀ i, i ∉ ixJ J ++ K → (headE J K μ t)[i]? = (protN (ixJ J ++ K) 0 μ)[i]? := fun i hi => by
    rw [List.mem_append, not_or] at hi
    unfold headE; rw [setJ_ne hi.1, kill_ne hi.2]
  have hlen : (killK K (protN (ixJ J ++ K) 0 μ)).length = μ'.length := by rw [kill_len, prot_len, a.lenμ, a'.lenμ]; rfl
  have hq : ∀ (i : Nat) (s : SV), μ[i]? = some s → s.own = true → ∃ u : SV, (headE J K μ t)[i]? = some u ∧ u.own = true := by
    refine setJ_own ok.j fun i s hs ho => ?_
    by_cases c : i ∈ K
    · obtain ⟨s', f1, _, f3⟩ := freeK_ok ok.k i c
      rw [hs] at f1; cases f1; rw [ho] at f3; cases f3
    · rw [kill_ne c, prot_get, hs]
      refine ⟨_, rfl, ?_⟩
      dsimp only
      split
      · exact ho
      · rw [core_own, core_prot, ← core_own]; exact ho
  refine ⟨A', a'.mix rfl rfl rfl (fun i p e => let ⟨_, s, e, f⟩ := a.io i p e; hq i s e f) ((setJ_len.trans (kill_len.trans prot_len)).trans a.lenμ) (fun i s e => ?_) fun i s e => ?_⟩
  · rcases hL _ i s hlen e with ⟨c, e⟩ | e
    · rcases kill_get e with e | ⟨c', e⟩
      · exact .inl e
      · have e2 := e
        rw [prot_get] at e
        rcases f : μ[i]? with _ | u
        · rw [f] at e; cases e
        · rw [f] at e
          have hc : (ixJ J ++ K).contains (0 + i) = false := by
            rw [Nat.zero_add]; simp [c, c']
          simp only [Option.map_some, hc, Option.some.injEq] at e
          subst e
          have key : ∀ w, u.prot = .p w → ∃ s', μ'[i]? = some s' ∧ s'.core = u.prot.core := fun w hw => ⟨.p w, a'.fr i w (by simp only [Fx.inn, e2]; simp [hw]), by rw [hw]⟩
          cases u with
          | un => exact .inl rfl
          | v d => exact .inr (key _ rfl)
          | l q d => exact .inr (key _ rfl)
          | k q d => exact .inr (key _ rfl)
          | x c fs => exact .inr (key _ rfl)
          | p t => exact .inr (key _ rfl)
    · exact .inr ⟨s, e, rfl⟩
  · have hi : i ∉ ixJ J ++ K := fun z => by
      simp only [Fx.inn] at e
      split at e
      · rename_i w f
        rw [prot_get] at f
        rcases g : μ[i]? with _ | u
        · rw [g] at f; cases f
        · rw [g] at f
          have hc : (ixJ J ++ K).contains (0 + i) = true := by rw [Nat.zero_add]; simpa using z
          simp only [Option.map_some, hc, if_true, Option.some.injEq] at f
          exact ok.ix i z w (by rw [g, f])
      · cases e
    rw [pn i hi]
    simp only [Fx.inn] at e
    split at e
    · cases e; assumption
    · cases e
end
theorem xs_join {I J : Js} {K : List Nat} (h : XS C ax X W st s) : XS C ax X W st (mJoin I J K s) := dsI h fun Z σ S ⟨fx, μ, β, z, Φ, r, o, h⟩ => by
  obtain ⟨hf, h⟩ := guard_ok h o.bad
  have ok := okB_ok hf
  let Φ0 : B (T I) (T J) → Prop := fun b => Φ (outB b (fun t => z.nx (setJ J t (killK K μ))) (fun t => z.bk (setJ J t (killK K μ))) (fun t => z.ct (setJ J t (killK K μ)))
    (fun d t => z.rt d (setJ I t (killK (nonI I J K) μ))) (fun c fs t => z.ex c fs (setJ I t (killK (nonI I J K) μ))) z.bad)
  refine ⟨_, _, _, zB I J, Φ0, r.inn (ixJ J ++ K), ⟨o.bad, ?_, ?_, ?_, ?_, ?_⟩, h⟩
  · intro μ' σ' S' r' h'
    obtain ⟨t, h', q⟩ := getJ_ok (Φ := Φ0) h' o.bad
    exact o.nx _ σ' S' (r.outN ok r' (told_get q)) h'
  · intro d d0 μ' σ' S' r' hr h'
    obtain ⟨t, h', q⟩ := getJ_ok (Φ := Φ0) h' o.bad
    exact o.rt d d0 _ σ' S' (r.outI ok r' (told_get q)) hr h'
  · intro μ' σ' S' r' h'
    obtain ⟨t, h', q⟩ := getJ_ok (Φ := Φ0) h' o.bad
    exact o.bk _ σ' S' (r.outN ok r' (told_get q)) h'
  · intro μ' σ' S' r' h'
    obtain ⟨t, h', q⟩ := getJ_ok (Φ := Φ0) h' o.bad
    exact o.ct _ σ' S' (r.outN ok r' (told_get q)) h'
  · intro c fs μ' σ' S' r' h' p hp
    obtain ⟨t, h', q⟩ := getJ_ok (Φ := Φ0) h' o.bad
    exact o.ex c fs _ σ' S' (r.outI ok r' (told_get q)) h' p hp
/-- the ends within a turn -/
theorem turn_ok {Z : DEnds} {fx : Fx} {I J : Js} {K : List Nat} {μ : Env} {σ : DSt} {S : Sto} {β : Type} {z : ZM β} {Φ : β → Prop} (r : Rel ax fx μ σ S) (ok : OkB I J K μ) (o : ZOk C ax fx Z z Φ) (go : T J → B (T I) (T J)) (N : DSt → Sto → Prop)
    (hgo : ∀ t σ' S', Rel ax (fx.inn (ixJ J ++ K) μ) (headE J K μ t) σ' S' → Φ (outB (go t) (fun t => z.nx (setJ J t (killK K μ))) (fun t => z.bk (setJ J t (killK K μ))) (fun t => z.ct (setJ J t (killK K μ))) (fun d t => z.rt d (setJ I t (killK (nonI I J K) μ))) (fun c fs t => z.ex c fs (setJ I t (killK (nonI I J K) μ))) z.bad) → N σ' S') :
    ZOk C ax (fx.inn (ixJ J ++ K) μ) ⟨N, Z.rt, Z.nx, N, Z.ex⟩ (zB I J) (fun b => Φ (outB (stepB b go) (fun t => z.nx (setJ J t (killK K μ))) (fun t => z.bk (setJ J t (killK K μ))) (fun t => z.ct (setJ J t (killK K μ))) (fun d t => z.rt d (setJ I t (killK (nonI I J K) μ))) (fun c fs t => z.ex c fs (setJ I t (killK (nonI I J K) μ))) z.bad)) := by
  let Φ0 : B (T I) (T J) → Prop := fun b => Φ (outB (stepB b go) (fun t => z.nx (setJ J t (killK K μ))) (fun t => z.bk (setJ J t (killK K μ))) (fun t => z.ct (setJ J t (killK K μ))) (fun d t => z.rt d (setJ I t (killK (nonI I J K) μ))) (fun c fs t => z.ex c fs (setJ I t (killK (nonI I J K) μ))) z.bad)
  refine ⟨o.bad, ?_, ?_, ?_, ?_, ?_⟩
  · intro μ' σ' S' r' h'
    obtain ⟨t, h', q⟩ := getJ_ok (Φ := Φ0) h' o.bad
    exact hgo t σ' S' (r.head ok r' (told_get q)) h'
  · intro d d0 μ' σ' S' r' hr h'
    obtain ⟨t, h', q⟩ := getJ_ok (Φ := Φ0) h' o.bad
    exact o.rt d d0 _ σ' S' (r.outI ok r' (told_get q)) hr h'
  · intro μ' σ' S' r' h'
    obtain ⟨t, h', q⟩ := getJ_ok (Φ := Φ0) h' o.bad
    exact o.nx _ σ' S' (r.outN ok r' (told_get q)) h'
  · intro μ' σ' S' r' h'
    obtain ⟨t, h', q⟩ := getJ_ok (Φ := Φ0) h' o.bad
    exact hgo t σ' S' (r.head ok r' (told_get q)) h'
  · intro c fs μ' σ' S' r' h' p hp
    obtain ⟨t, h', q⟩ := getJ_ok (Φ := Φ0) h' o.bad
    exact o.ex c fs _ σ' S' (r.outI ok r' (told_get q)) h' p hp
def GOk (js : List Nat) (g : DTG) (m : MG) : Prop := ∀ ax fx β d μ σ S (k : Env → β) (b : β) (Φ : β → Prop) (N : DSt → Sto → Prop), Rel ax fx μ σ S → ¬ Φ b → (∀ μ' σ', Rel ax fx μ' σ' S → (∀ j, j ∉ js → σ'[j]? = σ[j]?) → Φ (k μ') → N σ' S) → Φ (m β d μ k b) → g d σ S N
theorem gok_name (i : Nat) : GOk [i] (dgName i) (mGName i) := fun ax fx β d μ σ S k b Φ N r hb hk h => by
  obtain ⟨h, u, h2, h3, h4⟩ := setS_ok h hb
  exact hk _ _ (r.setV d h3 h2 h4) (fun j hj => List.getElem?_set_ne fun z => hj (by simp [z])) h
theorem for_post {I J : Js} {K : List Nat} {it : Env → P (List D)} {js : List Nat} {g : DTG} {mg : MG} (hgo : GOk js g mg) {Z : DEnds} {σ : DSt} {S : Sto} {fx : Fx} {μ : Env} {β : Type} {z : ZM β} {Φ : β → Prop} (r : Rel ax fx μ σ S) (o : ZOk C ax fx Z z Φ) (h : Φ (mFor I J K it mg s β z μ)) : dFor (rdI C ax it) g (rdS C ax s) Z σ S := by
  obtain ⟨hf, h⟩ := guard_ok h o.bad
  have ok := okB_ok hf
  let Φ0 : B (T I) (T J) → Prop := fun b => Φ (outB b (fun t => z.nx (setJ J t (killK K μ))) (fun t => z.bk (setJ J t (killK K μ))) (fun t => z.ct (setJ J t (killK K μ)))
    (fun d t => z.rt d (setJ I t (killK (nonI I J K) μ))) (fun c fs t => z.ex c fs (setJ I t (killK (nonI I J K) μ))) z.bad)
  let f : T J → D → B (T I) (T J) := fun t x => mg _ x (headE J K μ t) (fun μ' => s _ (zB I J) μ') .bad
  have loop : ∀ (xs : List D) (t : T J) (σ' : DSt) (S' : Sto), Rel ax (fx.inn (ixJ J ++ K) μ) (headE J K μ t) σ' S' → Φ0 (loopB f xs t) → dLoop g (rdS C ax s) Z xs σ' S' := by
    intro xs
    induction xs with
    | nil => exact fun t σ' S' r' h' => o.nx _ σ' S' (r.outN ok r' told_self) h'
    | cons x xs ih =>
      intro t σ' S' r' h'
      refine hgo ax _ _ x _ σ' S' (fun μ' => s _ (zB I J) μ') .bad (fun b => Φ0 (stepB b fun t' => loopB f xs t')) _ r' o.bad (fun μ2 σ2 r2 _ h2 => ?_) h'
      exact ⟨_, μ2, _, zB I J, _, r2, turn_ok r ok o (fun t' => loopB f xs t') (dLoop g (rdS C ax s) Z xs) (fun t' σ3 S3 r3 h3 => ih t' σ3 S3 r3 h3), h2⟩
  refine ⟨fx, μ, r, post_mono (fun xs h' => ?_) (got_ok (C := C) (E := exOf Z σ) (Q := fun _ _ => True) (k := fun xs μ' => getJ J μ (fun t0 => outB (loopB f xs t0) _ _ _ _ _ z.bad) z.bad) h r ⟨o.bad, fun _ _ _ _ _ => trivial, fun c fs μ1 S1 r1 h1 p hp => o.ex c fs μ1 σ S1 r1 h1 p hp⟩)⟩
  obtain ⟨t, h', q⟩ := getJ_ok (Φ := Φ) h' o.bad
  have told : Told J t (protN (ixJ J ++ K) 0 μ) := fun ν i s' hl e => by
    rcases q ν i s' e with e1 | e1
    · exact .inl e1
    · by_cases c : i ∈ ixJ J
      · refine .inr ?_
        rw [prot_get, e1]
        have : (ixJ J ++ K).contains (0 + i) = true := by rw [Nat.zero_add]; simp [c]
        simp only [Option.map_some, this, if_true]
      · rw [setJ_ne c] at e; exact .inl ⟨c, e⟩
  exact loop xs t σ S (r.head ok (r.inn _) told) h'
theorem xs_for {I J : Js} {K : List Nat} {tg iter : Expr} {body : List Stmt} {it : Env → P (List D)} {js : List Nat} {g : DTG} {mg : MG} (hp : PassesOwn (model X.prog X.w) X.A X.env X.xe) (hc : X.calm = true) (hi : XI C ax X W tg iter it) (hg : DG X tg js g) (hgo : GOk js g mg) (hb : XSs C ax X W body s)
    (hs : ∀ x, foldedSetIterable iter X.env x = pure x := by intro _; rfl) : XS C ax X W (.For tg iter body [] pos) (mFor I J K it mg s) := dsI (ds_for hp hc hi hg hb hs) fun Z σ S ⟨fx, μ, β, z, Φ, r, o, h⟩ => for_post hgo r o h
theorem xs_while {I J : Js} {K : List Nat} {body : List Stmt} {mc : Env → P Bool} (hp : PassesOwn (model X.prog X.w) X.A X.env X.xe) (hc : XT C ax X W c mc) (hb : XSs C ax X W body s) : XS C ax X W (.While c body [] pos) (mWhile I J K mc s) := dsI (ds_while hp hc hb) fun Z σ S ⟨fx, μ, β, z, Φ, r, o, h⟩ => by
  obtain ⟨hf, h⟩ := guard_ok h o.bad
  have ok := okB_ok hf
  let Φ0 : B (T I) (T J) → Prop := fun b => Φ (outB b (fun t => z.nx (setJ J t (killK K μ))) (fun t => z.bk (setJ J t (killK K μ))) (fun t => z.ct (setJ J t (killK K μ)))
    (fun d t => z.rt d (setJ I t (killK (nonI I J K) μ))) (fun c fs t => z.ex c fs (setJ I t (killK (nonI I J K) μ))) z.bad)
  let wh : Nat → T J → B (T I) (T J) := whileB (fun t => mc (headE J K μ t)) (fun e fs t => getJ I (headE J K μ t) (fun u => .er e fs u) .bad) (fun t => s _ (zB I J) (headE J K μ t))
  obtain ⟨t0, h, q⟩ := getJ_ok (Φ := Φ) h o.bad
  have told : Told J t0 (protN (ixJ J ++ K) 0 μ) := fun ν i s' hl e => by
    rcases q ν i s' e with e1 | e1
    · exact .inl e1
    · by_cases c : i ∈ ixJ J
      · refine .inr ?_
        rw [prot_get, e1]
        have : (ixJ J ++ K).contains (0 + i) = true := by rw [Nat.zero_add]; simp [c]
        simp only [Option.map_some, this, if_true]
      · rw [setJ_ne c] at e; exact .inl ⟨c, e⟩
  refine ⟨fun m σ' S' => ∃ t, Rel ax (fx.inn (ixJ J ++ K) μ) (headE J K μ t) σ' S' ∧ Φ0 (wh m t), ⟨fuelN, t0, r.head ok (r.inn _) told, h⟩, fun m σ' S' ⟨t, r', h'⟩ => ?_⟩
  cases m with
  | zero => exact absurd h' o.bad
  | succ m =>
    refine ⟨_, _, r', ?_⟩
    have h' : Φ0 (got (mc (headE J K μ t)) (fun g _ => if g then stepB (s _ (zB I J) (headE J K μ t)) fun b => wh m b else .nx t) (fun e fs _ => getJ I (headE J K μ t) (fun u => .er e fs u) .bad) .bad) := h'
    cases g : mc (headE J K μ t) with
    | bad => rw [g] at h'; exact absurd h' o.bad
    | er e fs u =>
      rw [g] at h'
      obtain ⟨u, h', q⟩ := getJ_ok (Φ := Φ0) h' o.bad
      exact fun p hp => o.ex e fs _ σ' S' (r.outI ok r' (told_get q)) h' p hp
    | ok b u =>
      rw [g] at h'
      show if b = true then _ else _
      have h' : Φ0 (if b then stepB (s _ (zB I J) (headE J K μ t)) fun b => wh m b else .nx t) := h'
      cases b with
      | false =>
        rw [if_neg Bool.false_ne_true] at h' ⊢
        exact o.nx _ σ' S' (r.outN ok r' told_self) h'
      | true =>
        rw [if_pos rfl] at h' ⊢
        exact ⟨fun σ' S' => ∃ t, Rel ax (fx.inn (ixJ J ++ K) μ) (headE J K μ t) σ' S' ∧ Φ0 (wh m t), fun σ2 S2 h2 => ⟨m, Nat.lt_succ_self m, h2⟩, _, _, _, zB I J, _, r', turn_ok r ok o (fun t' => wh m t') _ (fun t' σ3 S3 r3 h3 => ⟨t', r3, h3⟩), h'⟩
/-! ### arguments that may be slots, and what a call leaves in them -/
inductive Act where
  | ref (i : Nat) | val (d : D)
abbrev MA := (β : Type) → Env → (List Act → Env → β) → (Str → Flds → Env → β) → β → β
inductive ActOk (σ : DSt) : List Act → List D → Prop
  | nil : ActOk σ [] []
  | val {d : D} {l : List Act} {ds : List D} : ActOk σ l ds → ActOk σ (.val d :: l) (d :: ds)
  | ref {i : Nat} {d : D} {l : List Act} {ds : List D} : σ[i]? = some (some d) → ActOk σ l ds → ActOk σ (.ref i :: l) (d :: ds)
def rdAC (C : Str → Addr) (ax : Ax) (m : MA) : DTA := fun E σ S Q => ∃ (fx : Fx) (μ : Env) (β : Type) (k : List Act → Env → β) (ex : Str → Flds → Env → β) (b : β) (Φ : β → Prop), Rel ax fx μ σ S ∧ KOk C ax fx E σ k ex b (fun acts S => ∀ ds, ActOk σ acts ds → Q ds S) Φ ∧ Φ (m β μ k ex b)
def XAC (C : Str → Addr) (ax : Ax) (X : Cx) (W : WX) (es : List Expr) (m : MA) : Prop := DA X W es (rdAC C ax m)
def aNil : MA := fun β μ k ex b => k [] μ
def aVal (a : MC) (l : MA) : MA := fun β μ k ex b => a β μ (fun d μ1 => l β μ1 (fun ds μ2 => k (.val d :: ds) μ2) ex b) ex b
def aRef (i : Nat) (l : MA) : MA := fun β μ k ex b => match μ[i]? with
  | some (.l _ _) => l β μ (fun ds μ2 => k (.ref i :: ds) μ2) ex b
  | some (.k _ _) => l β μ (fun ds μ2 => k (.ref i :: ds) μ2) ex b
  | _ => b
def valsO : List Act → Option (List D)
  | [] => some []
  | .val d :: r => match valsO r with
    | some ds => some (d :: ds)
    | none => none
  | .ref _ :: _ => none
def mFnC (f : List D → P D) (l : MA) : MC := fun β μ k ex b => l β μ (fun as μ1 => gotO (valsO as) (fun ds => got (f ds) (fun d _ => k d μ1) (fun c fs _ => ex c fs μ1) b) b) ex b
def mCallC (f : List D → Option D) (l : MA) : MC := fun β μ k ex b => l β μ (fun as μ1 => gotO (valsO as) (fun ds => gotO (f ds) (fun d => k d μ1) b) b) ex b
def mTupC (l : MA) : MC := fun β μ k ex b => l β μ (fun as μ1 => gotO (valsO as) (fun ds => guard (sizeB ds.length) (k (.tup ds) μ1) b) b) ex b
def mLstC (l : MA) : MC := fun β μ k ex b => l β μ (fun as μ1 => gotO (valsO as) (fun ds => guard (sizeB ds.length) (k (.lst ds) μ1) b) b) ex b
def refs : List Act → List Nat
  | [] => []
  | .val _ :: r => refs r
  | .ref i :: r => i :: refs r
def nodupB : List Nat → Bool
  | [] => true
  | i :: r => !r.contains i && nodupB r
/-- what a parameter is: data, a list that changes, a dict that changes -/
inductive Pk where
  | v | l | k
@[reducible] def Ct : List Pk → Type
  | [] => Unit
  | .v :: r => Ct r
  | .l :: r => List D × Ct r
  | .k :: r => List (Key × D) × Ct r
/-- the slots of the called def -/
def argE : (ps : List Pk) → List D → Ct ps → Env
  | [], _, _ => []
  | .v :: r, d :: ds, c => .v d :: argE r ds c
  | .v :: r, [], c => .un :: argE r [] c
  | .l :: r, ds, c => .l true c.1 :: argE r ds c.2
  | .k :: r, ds, c => .k true c.1 :: argE r ds c.2
def argU : (ps : List Pk) → Ct ps → Env
  | [], _ => []
  | .v :: r, c => .un :: argU r c
  | .l :: r, c => .l true c.1 :: argU r c.2
  | .k :: r, c => .k true c.1 :: argU r c.2
def takeA {β : Type} : (ps : List Pk) → List Act → Env → (List D → Ct ps → β) → β → β
  | [], [], _, k, _ => k [] ()
  | .v :: r, .val d :: as, μ, k, b => takeA r as μ (fun ds c => k (d :: ds) c) b
  | .l :: r, .ref i :: as, μ, k, b => match μ[i]? with
    | some (.l _ xs) => takeA r as μ (fun ds c => k ds (xs, c)) b
    | _ => b
  | .k :: r, .ref i :: as, μ, k, b => match μ[i]? with
    | some (.k _ xs) => takeA r as μ (fun ds c => k ds (xs, c)) b
    | _ => b
  | _, _, _, _, b => b
/-- what it leaves in the caller's -/
def giveA {β : Type} : (ps : List Pk) → List Act → Ct ps → Env → (Env → β) → β → β
  | [], [], _, μ, k, _ => k μ
  | .v :: r, .val _ :: as, c, μ, k, b => giveA r as c μ k b
  | .l :: r, .ref i :: as, c, μ, k, b => match μ[i]? with
    | some (.l q _) => giveA r as c.2 (μ.set i (.l q c.1)) k b
    | _ => b
  | .k :: r, .ref i :: as, c, μ, k, b => match μ[i]? with
    | some (.k q _) => giveA r as c.2 (μ.set i (.k q c.1)) k b
    | _ => b
  | _, _, _, _, _, b => b
def mCallI (ps : List Pk) (m : List D → Ct ps → R (Ct ps) D) (l : MA) : MC := fun β μ k ex b => l β μ (fun as μ1 => guard (nodupB (refs as)) (takeA ps as μ1 (fun ds c => got (m ds c) (fun d c' => giveA ps as c' μ1 (fun μ2 => k d μ2) b) (fun e fs c' => giveA ps as c' μ1 (fun μ2 => ex e fs μ2) b) b) b) b) ex b
theorem xac_nil : XAC C ax X W [] aNil := daI da_nil fun E σ S Q ⟨fx, μ, β, k, ex, bd, Φ, r, z, h⟩ => z.k _ μ S r h _ .nil
theorem xac_val {es : List Expr} {l : MA} (ha : XC C ax X W e ma) (hr : XAC C ax X W es l) (hs : starEach (e :: es) X.env = (false, eval e X.env) :: starEach es X.env := by rfl) : XAC C ax X W (e :: es) (aVal ma l) := daI (da_cons ha hr hs) fun E σ S Q ⟨fx, μ, β, k, ex, bd, Φ, r, z, h⟩ =>
  ⟨fx, μ, β, _, ex, bd, Φ, r, z.to fun d μ1 S1 r1 h1 => ⟨fx, μ1, β, _, ex, bd, Φ, r1, z.to fun as μ2 S2 r2 h2 ds hd => z.k _ μ2 S2 r2 h2 _ (.val hd), h1⟩, h⟩
theorem xac_ref {es : List Expr} {l : MA} {i : Nat} (ha : DE X W e (dVar i)) (hr : XAC C ax X W es l) (hs : starEach (e :: es) X.env = (false, eval e X.env) :: starEach es X.env := by rfl) : XAC C ax X W (e :: es) (aRef i l) := daI (da_cons ha hr hs) fun E σ S Q ⟨fx, μ, β, k, ex, bd, Φ, r, z, h⟩ => by
  have key : ∃ d, σ[i]? = some (some d) ∧ Φ (l β μ (fun ds μ2 => k (.ref i :: ds) μ2) ex bd) := by
    unfold aRef at h
    split at h
    · rename_i hx
      obtain ⟨p, h1, _⟩ := r.getL hx
      exact ⟨_, h1, h⟩
    · rename_i hx
      obtain ⟨p, h1, _⟩ := r.getK hx
      exact ⟨_, h1, h⟩
    · exact absurd h z.bad
  obtain ⟨d, hd, h⟩ := key
  show dVar i _ σ S _
  unfold dVar; rw [hd]
  exact ⟨fx, μ, β, _, ex, bd, Φ, r, z.to fun as μ2 S2 r2 h2 ds ha => z.k _ μ2 S2 r2 h2 _ (.ref hd ha), h⟩
theorem vals_ok {σ : DSt} : ∀ {as : List Act} {ds es : List D}, valsO as = some ds → ActOk σ as es → es = ds
  | [], _, _, h, a => by cases a; cases h; rfl
  | .val d :: r, ds, _, h, a => by
    cases a with
    | val a =>
      simp only [valsO] at h
      cases g : valsO r with
      | none => rw [g] at h; cases h
      | some es => rw [g] at h; cases h; rw [vals_ok g a]
  | .ref _ :: _, _, _, h, _ => nomatch h
end
end KM

set_option maxRecDepth 100000
set_option maxHeartbeats 4000000
/-! Km3: calls of defs, also of those that change what they are given; the rule of a def. -/
namespace KM
open PySem PySem.Spec PyProof.Rows L2 KD
section
variable {C : Str → Addr} {ax : Ax} {X : Cx} {W : WX} {a b c e : Expr} {ma mb mc : MC} {pos : Pos} {es : List Expr} {l : MA}
/-- nothing for another number of arguments -/
def Ar (n : Nat) (m : List D → P D) : Prop := ∀ ds, ds.length ≠ n → m ds = .bad
theorem xc_has {k n : Nat} {ps : List Str} {m : List D → P D} {x : Str} {p : Pos} (hA : Ar n m) (tk : Takes X W) (F : Has X.prog X.w X.K X.mg X.base k x ps (spP C n m)) (hr : Room k X.A) (hg : Gl X x) (ha : XAC C ax X W (e :: es) l) (hd : (x == ("__debug__" : Str)) = false := by decide)
    (hs : starEach (e :: es) X.env = (false, eval e X.env) :: starEach es X.env := by rfl) (hpl : (backTo pos (starEach es X.env)).any (·.1) = false := by rfl) :
    XC C ax X W (.Call (.Name x p) (e :: es) [] pos) (mFnC m l) := deI (de_has tk F hr hg ha hd hs hpl) fun E σ S Q ⟨fx, μ, β, k, ex, bd, Φ, r, z, h⟩ =>
  ⟨fx, μ, β, _, ex, bd, Φ, r, z.to fun as μ1 S1 r1 h1 ds hds => by
    obtain ⟨ds', e1, h1⟩ := gotO_ok h1 z.bad
    have := vals_ok e1 hds
    subst this
    refine ⟨Classical.byContradiction fun c => ?_, ?_⟩
    · rw [hA ds c] at h1; exact absurd h1 z.bad
    · cases g : m ds with
      | bad => rw [g] at h1; exact absurd h1 z.bad
      | ok d s => rw [g] at h1; exact z.k d μ1 S1 r1 h1
      | er c fs s => rw [g] at h1; exact z.ex c fs μ1 S1 r1 h1, h⟩
theorem xc_tup {x1} (h : XAC C ax X W es l) : XC C ax X W (.Tuple es x1 pos) (mTupC l) := deI (de_tup h) fun E σ S Q ⟨fx, μ, β, k, ex, bd, Φ, r, z, h⟩ =>
  ⟨fx, μ, β, _, ex, bd, Φ, r, z.to fun as μ1 S1 r1 h1 ds hds => by
    obtain ⟨ds', e1, h1⟩ := gotO_ok h1 z.bad
    have := vals_ok e1 hds
    subst this
    obtain ⟨hz, h1⟩ := guard_ok h1 z.bad
    exact ⟨size_dec hz, z.k _ μ1 S1 r1 h1⟩, h⟩
theorem xc_lst (h : XAC C ax X W es l) : XC C ax X W (.List es pos) (mLstC l) := deI (de_lst h) fun E σ S Q ⟨fx, μ, β, k, ex, bd, Φ, r, z, h⟩ =>
  ⟨fx, μ, β, _, ex, bd, Φ, r, z.to fun as μ1 S1 r1 h1 ds hds => by
    obtain ⟨ds', e1, h1⟩ := gotO_ok h1 z.bad
    have := vals_ok e1 hds
    subst this
    obtain ⟨hz, h1⟩ := guard_ok h1 z.bad
    exact ⟨size_dec hz, z.k _ μ1 S1 r1 h1⟩, h⟩
theorem vwl_refl {S : Sto} : ∀ {l : List D}, VwL S l l
  | [] => .nil
  | _ :: _ => .cons (.inl rfl) vwl_refl
theorem cl_okC {q : List D → Sto → DK → Prop} {f : List D → Option D} (hf : ClOk q f) {E : DEr} {σ : DSt} {S : Sto} {Q : DK} (h : rdC C ax (mCallC f l) E σ S Q) : dCall q (rdAC C ax l) E σ S Q := by
  obtain ⟨fx, μ, β, k, ex, bd, Φ, r, z, h⟩ := h
  exact ⟨fx, μ, β, _, ex, bd, Φ, r, z.to fun as μ1 S1 r1 h1 ds hds => by
    obtain ⟨ds', e1, h1⟩ := gotO_ok h1 z.bad
    have := vals_ok e1 hds
    subst this
    obtain ⟨d, e2, h1⟩ := gotO_ok h1 z.bad
    exact hf _ _ S1 d Q vwl_refl e2 (z.k _ μ1 S1 r1 h1), h⟩
theorem xc_callB {id : String} {x : Str} {p : Pos} {f : List D → Option D} {q : List D → Sto → DK → Prop} (hc : DC X (.builtin id) q) (hf : ClOk q f) (hg : Gl X x) (hm : X.mg x = none) (hv : bootBuiltins x = some (.builtin id)) (ha : XAC C ax X W (e :: es) l)
    (hn : x ≠ "__name__" := by decide) (hdb : (x == ("__debug__" : Str)) = false := by decide) (hs : starEach (e :: es) X.env = (false, eval e X.env) :: starEach es X.env := by rfl) (hpl : (backTo pos (starEach es X.env)).any (·.1) = false := by rfl) :
    XC C ax X W (.Call (.Name x p) (e :: es) [] pos) (mCallC f l) := deI (de_callB hc hg hm hv ha hn hdb hs hpl) fun E σ S Q h => cl_okC hf h
theorem xc_callTy {T : String} {x : Str} {p : Pos} {f : List D → Option D} {q : List D → Sto → DK → Prop} (hc : DC X (.type T) q) (hf : ClOk q f) (hg : Gl X x) (hm : X.mg x = none) (hv : bootBuiltins x = some (.type T)) (ha : XAC C ax X W (e :: es) l)
    (hn : x ≠ "__name__" := by decide) (hdb : (x == ("__debug__" : Str)) = false := by decide) (hs : starEach (e :: es) X.env = (false, eval e X.env) :: starEach es X.env := by rfl) (hpl : (backTo pos (starEach es X.env)).any (·.1) = false := by rfl) :
    XC C ax X W (.Call (.Name x p) (e :: es) [] pos) (mCallC f l) := deI (de_callTy hc hg hm hv ha hn hdb hs hpl) fun E σ S Q h => cl_okC hf h
end
def ax0 : Ax := ⟨0, 0, "", [], false⟩
/-! ### the promise of a def that changes what it is given -/
def spI (C : Str → Addr) (ps : List Pk) (m : List D → Ct ps → R (Ct ps) D) : DSp := fun ds S Q E => ds.length = ps.length ∧ ∃ (S0 : Sto) (io : Nat → Option Addr) (vs : List D) (c : Ct ps) (A : Nat → Addr), Rl ax0 ⟨ps.length, fun _ => none, S0, io⟩ (argE ps vs c) (ds.map some) S A ∧
  match m vs c with
  | .ok d c' => ∀ S', Rel ax0 ⟨ps.length, fun _ => none, S0, io⟩ (argU ps c') (ds.map some) S' → Q d S'
  | .er x fs c' => ∀ S', Rel ax0 ⟨ps.length, fun _ => none, S0, io⟩ (argU ps c') (ds.map some) S' → ∀ p, S' p = none → E (C x) p (put S' p (.xd fs))
  | .bad => False
section
variable {β : Type} {Φ : β → Prop} {b : β}
theorem nodup_ok : ∀ {l : List Nat}, nodupB l = true → l.Nodup
  | [], _ => List.nodup_nil
  | i :: r, h => by
    rw [nodupB, Bool.and_eq_true] at h
    exact List.nodup_cons.mpr ⟨by simpa using h.1, nodup_ok h.2⟩
/-- a slot that is handed on -/
def Hand (s t : SV) : Prop := (∃ q xs, s = .l q xs ∧ t = .l true xs) ∨ ∃ q xs, s = .k q xs ∧ t = .k true xs
theorem takeA_ok : ∀ {ps : List Pk} {as : List Act} {μ : Env} {k : List D → Ct ps → β}, Φ (takeA ps as μ k b) → ¬ Φ b → ∃ ds c, Φ (k ds c) ∧ (argE ps ds c).length = as.length ∧ ps.length = as.length ∧ (∀ (j : Nat) (d : D), as[j]? = some (Act.val d) → (argE ps ds c)[j]? = some (SV.v d)) ∧ ∀ j i : Nat, as[j]? = some (Act.ref i) → ∃ s t : SV, μ[i]? = some s ∧ (argE ps ds c)[j]? = some t ∧ Hand s t
  | [], [], μ, k, h, hb => ⟨[], (), h, rfl, rfl, fun j d e => by simp at e, fun j i e => by simp at e⟩
  | .v :: r, .val d :: as, μ, k, h, hb => by
    obtain ⟨ds, c, h1, h2, h0, h3, h4⟩ := takeA_ok (ps := r) (as := as) (k := fun ds c => k (d :: ds) c) h hb
    refine ⟨d :: ds, c, h1, by simp [argE, h2], by simp [h0], fun j d' e => ?_, fun j i e => ?_⟩
    · cases j with
      | zero => simp at e ⊢; subst e; rfl
      | succ j => exact h3 j d' (by simpa using e)
    · cases j with
      | zero => simp at e
      | succ j => exact h4 j i (by simpa using e)
  | .l :: r, .ref i0 :: as, μ, k, h, hb => by
    have key : ∃ q xs, μ[i0]? = some (.l q xs) ∧ Φ (takeA r as μ (fun ds c => k ds (xs, c)) b) := by
      unfold takeA at h
      split at h
      · exact ⟨_, _, by assumption, h⟩
      · exact absurd h hb
    obtain ⟨q, xs, hx, h⟩ := key
    obtain ⟨ds, c, h1, h2, h0, h3, h4⟩ := takeA_ok (ps := r) (as := as) (k := fun ds c => k ds (xs, c)) h hb
    refine ⟨ds, (xs, c), h1, by simp [argE, h2], by simp [h0], fun j d' e => ?_, fun j i e => ?_⟩
    · cases j with
      | zero => simp at e
      | succ j => exact h3 j d' (by simpa using e)
    · cases j with
      | zero => simp at e; subst e; exact ⟨_, _, hx, rfl, .inl ⟨q, xs, rfl, rfl⟩⟩
      | succ j => exact h4 j i (by simpa using e)
  | .k :: r, .ref i0 :: as, μ, k, h, hb => by
    have key : ∃ q xs, μ[i0]? = some (.k q xs) ∧ Φ (takeA r as μ (fun ds c => k ds (xs, c)) b) := by
      unfold takeA at h
      split at h
      · exact ⟨_, _, by assumption, h⟩
      · exact absurd h hb
    obtain ⟨q, xs, hx, h⟩ := key
    obtain ⟨ds, c, h1, h2, h0, h3, h4⟩ := takeA_ok (ps := r) (as := as) (k := fun ds c => k ds (xs, c)) h hb
    refine ⟨ds, (xs, c), h1, by simp [argE, h2], by simp [h0], fun j d' e => ?_, fun j i e => ?_⟩
    · cases j with
      | zero => simp at e
      | succ j => exact h3 j d' (by simpa using e)
    · cases j with
      | zero => simp at e; subst e; exact ⟨_, _, hx, rfl, .inr ⟨q, xs, rfl, rfl⟩⟩
      | succ j => exact h4 j i (by simpa using e)
  | [], _ :: _, _, _, h, hb => absurd h hb
  | .v :: _, [], _, _, h, hb => absurd h hb
  | .l :: _, [], _, _, h, hb => absurd h hb
  | .k :: _, [], _, _, h, hb => absurd h hb
  | .v :: _, .ref _ :: _, _, _, h, hb => absurd h hb
  | .l :: _, .val _ :: _, _, _, h, hb => absurd h hb
  | .k :: _, .val _ :: _, _, _, h, hb => absurd h hb
/-- the same list or dict, changed -/
def Like (s t u : SV) : Prop := (∃ q xs ys, s = .l q xs ∧ t = .l true ys ∧ u = .l q ys) ∨ ∃ q xs ys, s = .k q xs ∧ t = .k true ys ∧ u = .k q ys
theorem giveA_ok : ∀ {ps : List Pk} {as : List Act} {c : Ct ps} {μ : Env} {k : Env → β}, Φ (giveA ps as c μ k b) → ¬ Φ b → (refs as).Nodup → ∃ μ2, Φ (k μ2) ∧ μ2.length = μ.length ∧ (∀ i : Nat, i ∉ refs as → μ2[i]? = μ[i]?) ∧ ∀ i ∈ refs as, ∃ (j : Nat) (s t u : SV), as[j]? = some (Act.ref i) ∧ μ[i]? = some s ∧ (argU ps c)[j]? = some t ∧ μ2[i]? = some u ∧ Like s t u
  | [], [], c, μ, k, h, hb, _ => ⟨μ, h, rfl, fun _ _ => rfl, fun i hi => by simp [refs] at hi⟩
  | .v :: r, .val d :: as, c, μ, k, h, hb, nd => by
    obtain ⟨μ2, h1, h2, h3, h4⟩ := giveA_ok (ps := r) (as := as) (c := c) h hb nd
    refine ⟨μ2, h1, h2, h3, fun i hi => ?_⟩
    obtain ⟨j, s', t, u, q1, q2, q3, q4, q5⟩ := h4 i hi
    exact ⟨j + 1, s', t, u, by simpa using q1, q2, by simpa [argU] using q3, q4, q5⟩
  | .l :: r, .ref i0 :: as, c, μ, k, h, hb, nd => by
    have nd := List.nodup_cons.mp (show (i0 :: refs as).Nodup from nd)
    have key : ∃ q xs, μ[i0]? = some (.l q xs) ∧ Φ (giveA r as c.2 (μ.set i0 (.l q c.1)) k b) := by
      unfold giveA at h
      split at h
      · exact ⟨_, _, by assumption, h⟩
      · exact absurd h hb
    obtain ⟨q, xs, hs, h⟩ := key
    obtain ⟨μ2, h1, h2, h3, h4⟩ := giveA_ok (ps := r) (as := as) (c := c.2) h hb nd.2
    have li : i0 < μ.length := (List.getElem?_eq_some_iff.mp hs).1
    refine ⟨μ2, h1, by rw [h2, List.length_set], fun i hi => ?_, fun i hi => ?_⟩
    · simp only [refs, List.mem_cons, not_or] at hi
      rw [h3 i hi.2, List.getElem?_set_ne fun z => hi.1 z.symm]
    · rcases List.mem_cons.mp hi with rfl | hi
      · exact ⟨0, _, .l true c.1, _, by simp, hs, by simp [argU], by rw [h3 i nd.1, List.getElem?_set_self li], .inl ⟨q, xs, c.1, rfl, rfl, rfl⟩⟩
      · have ne : i0 ≠ i := fun z => nd.1 (by rw [z]; exact hi)
        obtain ⟨j, s2, t, u2, q1, q2, q3, q4, q5⟩ := h4 i hi
        exact ⟨j + 1, s2, t, u2, by simpa using q1, by rw [← List.getElem?_set_ne ne (a := SV.l q c.1)]; exact q2, by simpa [argU] using q3, q4, q5⟩
  | .k :: r, .ref i0 :: as, c, μ, k, h, hb, nd => by
    have nd := List.nodup_cons.mp (show (i0 :: refs as).Nodup from nd)
    have key : ∃ q xs, μ[i0]? = some (.k q xs) ∧ Φ (giveA r as c.2 (μ.set i0 (.k q c.1)) k b) := by
      unfold giveA at h
      split at h
      · exact ⟨_, _, by assumption, h⟩
      · exact absurd h hb
    obtain ⟨q, xs, hs, h⟩ := key
    obtain ⟨μ2, h1, h2, h3, h4⟩ := giveA_ok (ps := r) (as := as) (c := c.2) h hb nd.2
    have li : i0 < μ.length := (List.getElem?_eq_some_iff.mp hs).1
    refine ⟨μ2, h1, by rw [h2, List.length_set], fun i hi => ?_, fun i hi => ?_⟩
    · simp only [refs, List.mem_cons, not_or] at hi
      rw [h3 i hi.2, List.getElem?_set_ne fun z => hi.1 z.symm]
    · rcases List.mem_cons.mp hi with rfl | hi
      · exact ⟨0, _, .k true c.1, _, by simp, hs, by simp [argU], by rw [h3 i nd.1, List.getElem?_set_self li], .inr ⟨q, xs, c.1, rfl, rfl, rfl⟩⟩
      · have ne : i0 ≠ i := fun z => nd.1 (by rw [z]; exact hi)
        obtain ⟨j, s2, t, u2, q1, q2, q3, q4, q5⟩ := h4 i hi
        exact ⟨j + 1, s2, t, u2, by simpa using q1, by rw [← List.getElem?_set_ne ne (a := SV.k q c.1)]; exact q2, by simpa [argU] using q3, q4, q5⟩
  | [], _ :: _, _, _, _, h, hb, _ => absurd h hb
  | .v :: _, [], _, _, _, h, hb, _ => absurd h hb
  | .l :: _, [], _, _, _, h, hb, _ => absurd h hb
  | .k :: _, [], _, _, _, h, hb, _ => absurd h hb
  | .v :: _, .ref _ :: _, _, _, _, h, hb, _ => absurd h hb
  | .l :: _, .val _ :: _, _, _, _, h, hb, _ => absurd h hb
  | .k :: _, .val _ :: _, _, _, _, h, hb, _ => absurd h hb
end
section
variable {ax : Ax} {fx : Fx} {μ : Env} {σ : DSt} {S S' : Sto} {as : List Act} {ds : List D}
theorem act_get : ∀ {as : List Act} {ds : List D}, ActOk σ as ds → as.length = ds.length ∧ (∀ (j : Nat) (d : D), as[j]? = some (Act.val d) → ds[j]? = some d) ∧ ∀ j i : Nat, as[j]? = some (Act.ref i) → ∃ d : D, ds[j]? = some d ∧ σ[i]? = some (some d)
  | _, _, .nil => ⟨rfl, fun j d e => by simp at e, fun j i e => by simp at e⟩
  | _, _, .val a => by
    obtain ⟨h1, h2, h3⟩ := act_get a
    refine ⟨by simp [h1], fun j d e => ?_, fun j i e => ?_⟩
    · cases j with
      | zero => simp at e ⊢; exact e
      | succ j => simpa using h2 j d (by simpa using e)
    · cases j with
      | zero => simp at e
      | succ j => simpa using h3 j i (by simpa using e)
  | _, _, .ref hi a => by
    obtain ⟨h1, h2, h3⟩ := act_get a
    refine ⟨by simp [h1], fun j d e => ?_, fun j i e => ?_⟩
    · cases j with
      | zero => simp at e
      | succ j => simpa using h2 j d (by simpa using e)
    · cases j with
      | zero => simp at e ⊢; subst e; exact hi
      | succ j => simpa using h3 j i (by simpa using e)
theorem refs_mem : ∀ {as : List Act} {i : Nat}, i ∈ refs as ↔ ∃ j : Nat, as[j]? = some (.ref i)
  | [], i => by simp [refs]
  | .val d :: r, i => by
    rw [refs, refs_mem]
    constructor
    · rintro ⟨j, h⟩; exact ⟨j + 1, by simpa using h⟩
    · rintro ⟨j, h⟩
      cases j with
      | zero => simp at h
      | succ j => exact ⟨j, by simpa using h⟩
  | .ref k :: r, i => by
    rw [refs, List.mem_cons, refs_mem]
    constructor
    · rintro (rfl | ⟨j, h⟩)
      · exact ⟨0, by simp⟩
      · exact ⟨j + 1, by simpa using h⟩
    · rintro ⟨j, h⟩
      cases j with
      | zero => simp at h; exact .inl h.symm
      | succ j => exact .inr ⟨j, by simpa using h⟩
theorem refs_one : ∀ {as : List Act} {i j k : Nat}, (refs as).Nodup → as[j]? = some (.ref i) → as[k]? = some (.ref i) → j = k
  | [], i, j, k, _, h, _ => by simp at h
  | .val d :: r, i, j, k, nd, h, h' => by
    cases j with
    | zero => simp at h
    | succ j =>
      cases k with
      | zero => simp at h'
      | succ k => exact congrArg Nat.succ (refs_one (as := r) (i := i) nd (by simpa using h) (by simpa using h'))
  | .ref m :: r, i, j, k, nd, h, h' => by
    have nd := List.nodup_cons.mp (show (m :: refs r).Nodup from nd)
    cases j with
    | zero =>
      simp at h; subst h
      cases k with
      | zero => rfl
      | succ k => exact absurd (refs_mem.mpr ⟨k, by simpa using h'⟩) nd.1
    | succ j =>
      cases k with
      | zero =>
        simp at h'; subst h'
        exact absurd (refs_mem.mpr ⟨j, by simpa using h⟩) nd.1
      | succ k => exact congrArg Nat.succ (refs_one (as := r) (i := i) nd.2 (by simpa using h) (by simpa using h'))
open Classical in
/-- into a def and out of it -/
theorem Rel.call (r : Rel ax fx μ σ S) (ha : ActOk σ as ds) (nd : (refs as).Nodup) {μa : Env} (hl : μa.length = as.length) (hv : ∀ (j : Nat) (d : D), as[j]? = some (Act.val d) → μa[j]? = some (SV.v d)) (hr : ∀ (j i : Nat), as[j]? = some (.ref i) → ∃ s t : SV, μ[i]? = some s ∧ μa[j]? = some t ∧ Hand s t) :
    ∃ (S0 : Sto) (io : Nat → Option Addr) (Aa : Nat → Addr), Rl ax0 ⟨ds.length, fun _ => none, S0, io⟩ μa (ds.map some) S Aa ∧ ∀ μb S', Rel ax0 ⟨ds.length, fun _ => none, S0, io⟩ μb (ds.map some) S' → ∀ μ2, μ2.length = μ.length → (∀ i : Nat, i ∉ refs as → μ2[i]? = μ[i]?) →
      (∀ i ∈ refs as, ∃ (j : Nat) (s t u : SV), as[j]? = some (Act.ref i) ∧ μ[i]? = some s ∧ μb[j]? = some t ∧ μ2[i]? = some u ∧ Like s t u) → Rel ax fx μ2 σ S' := by
  obtain ⟨A, a⟩ := r
  obtain ⟨al, av, ar⟩ := act_get ha
  let Rf : Addr → Prop := fun p => ∃ i, i ∈ refs as ∧ A i = p
  let S0 : Sto := fun p => if Rf p then none else S p
  let Aa : Nat → Addr := fun j => match as[j]? with
    | some (.ref i) => A i
    | _ => 0
  have aA : ∀ j i : Nat, as[j]? = some (Act.ref i) → Aa j = A i := fun j i e => by simp only [Aa, e]
  have hand : ∀ {s t : SV} {i j : Nat} {d : D}, Hand s t → SlotOk ax A σ S i s → as[j]? = some (.ref i) → ds[j]? = some d → σ[i]? = some (some d) → SlotOk ax0 Aa (ds.map some) S j t ∧ (∃ m, t.dm = some m) ∧ ∃ m, s.dm = some m := fun {s t i j d} h q e f g => by
    have fd : (ds.map some)[j]? = some (some d) := by rw [List.getElem?_map, f]; rfl
    rcases h with ⟨w, xs, rfl, rfl⟩ | ⟨w, xs, rfl, rfl⟩
    · have := q.1
      rw [g] at this; cases this
      exact ⟨⟨by rw [aA j i e]; exact fd, by rw [aA j i e]; exact q.2⟩, ⟨_, rfl⟩, ⟨_, rfl⟩⟩
    · have := q.1
      rw [g] at this; cases this
      exact ⟨⟨by rw [aA j i e]; exact fd, by rw [aA j i e]; exact q.2⟩, ⟨_, rfl⟩, ⟨_, rfl⟩⟩
  have kind : ∀ (j : Nat) (s : SV), μa[j]? = some s → (∃ d : D, as[j]? = some (Act.val d) ∧ s = SV.v d) ∨ ∃ (i : Nat) (s' : SV), as[j]? = some (Act.ref i) ∧ μ[i]? = some s' ∧ Hand s' s := fun j s e => by
    have lj : j < as.length := by rw [← hl]; exact (List.getElem?_eq_some_iff.mp e).1
    cases f : as[j] with
    | val d =>
      have f' : as[j]? = some (.val d) := by rw [List.getElem?_eq_getElem lj, f]
      have := hv j d f'
      rw [e] at this; cases this
      exact .inl ⟨d, f', rfl⟩
    | ref i =>
      have f' : as[j]? = some (.ref i) := by rw [List.getElem?_eq_getElem lj, f]
      obtain ⟨s', t, h1, h2, h3⟩ := hr j i f'
      rw [e] at h2; cases h2
      exact .inr ⟨i, s', f', h1, h3⟩
  let io : Nat → Option Addr := fun j => match as[j]? with
    | some (.ref i) => some (A i)
    | _ => none
  have ioA : ∀ j i : Nat, as[j]? = some (Act.ref i) → io j = some (A i) := fun j i e => by simp only [io, e]
  refine ⟨S0, io, Aa, ⟨hl.trans al, by simp, fun j s e => ?_, fun j k s t m n e f g q w => ?_, fun j s m e g => ?_, fun p m e => ?_, (fun _ _ e => by cases e), fun j p e => ?_, fun j s e o => ?_, (fun _ m => by cases m)⟩, ?_⟩
  · rcases kind j s e with ⟨d, f, rfl⟩ | ⟨i, s', f, g, h⟩
    · show (ds.map some)[j]? = _
      rw [List.getElem?_map, av j d f]; rfl
    · obtain ⟨d, g1, g2⟩ := ar j i f
      exact (hand h (a.slot i s' g) f g1 g2).1
  · rcases kind j s e with ⟨d, _, rfl⟩ | ⟨i, s', f1, g1, h1⟩
    · cases g
    rcases kind k t f with ⟨d, _, rfl⟩ | ⟨i', t', f2, g2, h2⟩
    · cases q
    rw [aA j i f1, aA k i' f2] at w
    obtain ⟨d1, c1, c2⟩ := ar j i f1
    obtain ⟨d2, c3, c4⟩ := ar k i' f2
    obtain ⟨_, _, m1, e1⟩ := hand h1 (a.slot i s' g1) f1 c1 c2
    obtain ⟨_, _, m2, e2⟩ := hand h2 (a.slot i' t' g2) f2 c3 c4
    have := a.inj i i' s' t' m1 m2 g1 g2 e1 e2 w
    subst this
    exact refs_one nd f1 f2
  · rcases kind j s e with ⟨d, _, rfl⟩ | ⟨i, s', f1, g1, h1⟩
    · cases g
    show (if Rf (Aa j) then none else S (Aa j)) = none
    rw [if_pos ⟨i, refs_mem.mpr ⟨j, f1⟩, (aA j i f1).symm⟩]
  · show S p = some m
    by_cases c : Rf p
    · simp only [S0, if_pos c] at e; cases e
    · simp only [S0, if_neg c] at e; exact e
  · cases f : as[j]? with
    | none => simp only [io, f] at e; cases e
    | some w =>
      cases w with
      | val d => simp only [io, f] at e; cases e
      | ref i =>
        have e : io j = some p := e
        rw [ioA j i f] at e
        cases e
        obtain ⟨s, t, _, h2, h3⟩ := hr j i f
        refine ⟨aA j i f, t, h2, ?_⟩
        rcases h3 with ⟨_, _, _, rfl⟩ | ⟨_, _, _, rfl⟩ <;> rfl
  · rcases kind j s e with ⟨d, _, rfl⟩ | ⟨i, s', f1, g1, h1⟩
    · cases o
    · show (io j).isSome = true
      rw [ioA j i f1]; rfl
  · intro μb S' ⟨B, b⟩ μ2 h2 hne hre
    have hb : ∀ i ∈ refs as, ∃ s u : SV, μ[i]? = some s ∧ μ2[i]? = some u ∧ SlotOk ax A σ S' i u ∧ (∃ m, s.dm = some m) ∧ s.own = u.own := fun i hi => by
      obtain ⟨j, s, t, u, e1, e2, e3, e4, e5⟩ := hre i hi
      obtain ⟨d, g1, g2⟩ := ar j i e1
      have fd : (ds.map some)[j]? = some (some d) := by rw [List.getElem?_map, g1]; rfl
      have q := b.slot j t e3
      have qs := a.slot i s e2
      rcases e5 with ⟨w, xs, ys, rfl, rfl, rfl⟩ | ⟨w, xs, ys, rfl, rfl, rfl⟩
      · have z1 := qs.1
        rw [g2] at z1; cases z1
        have z2 := q.1
        rw [fd] at z2
        have z3 : B j = A i := by injection z2 with z2; injection z2 with z2; injection z2 with z2; exact z2.symm
        exact ⟨_, _, e2, e4, ⟨qs.1, by rw [← z3]; exact q.2⟩, ⟨_, rfl⟩, rfl⟩
      · have z1 := qs.1
        rw [g2] at z1; cases z1
        have z2 := q.1
        rw [fd] at z2
        have z3 : B j = A i := by injection z2 with z2; injection z2 with z2; injection z2 with z2; exact z2.symm
        exact ⟨_, _, e2, e4, ⟨qs.1, by rw [← z3]; exact q.2⟩, ⟨_, rfl⟩, rfl⟩
    have keep : ∀ p m, S p = some m → ¬ Rf p → S' p = some m := fun p m e c => b.ext p m (by show (if Rf p then none else S p) = _; rw [if_neg c]; exact e)
    have old : ∀ (i : Nat) (u : SV) (m : DM), μ2[i]? = some u → u.dm = some m → ∃ (s : SV) (m' : DM), μ[i]? = some s ∧ s.dm = some m' := fun i u m e g => by
      by_cases c : i ∈ refs as
      · obtain ⟨s, u', f1, f2, _, ⟨m', f4⟩, _⟩ := hb i c
        exact ⟨s, m', f1, f4⟩
      · rw [hne i c] at e; exact ⟨u, m, e, g⟩
    refine ⟨A, h2.trans a.lenμ, a.lenσ, fun i u e => ?_, fun i j s t m n e f g q w => ?_, fun i u m e g => ?_, fun p m e => ?_, fun i s e => ?_, fun i p e => ?_, fun i u e o => ?_, a.tb⟩
    · by_cases c : i ∈ refs as
      · obtain ⟨s, u', f1, f2, f3, _⟩ := hb i c
        rw [e] at f2; cases f2; exact f3
      · rw [hne i c] at e
        refine slot_same rfl rfl (fun m g => ?_) (a.slot i u e)
        have hS := slot_dm (a.slot i u e) g
        rw [hS]
        refine keep _ _ hS fun ⟨i', hi', w⟩ => ?_
        obtain ⟨s, _, f1, _, _, ⟨m', f4⟩, _⟩ := hb i' hi'
        have := a.inj i' i s u m' m f1 e f4 g w
        subst this; exact c hi'
    · obtain ⟨s', m', e1, e2⟩ := old i s m e g
      obtain ⟨t', n', f1, f2⟩ := old j t n f q
      exact a.inj i j s' t' m' n' e1 f1 e2 f2 w
    · obtain ⟨s', m', e1, e2⟩ := old i u m e g
      exact a.new i s' m' e1 e2
    · refine keep p m (a.ext p m e) fun ⟨i, hi, w⟩ => ?_
      obtain ⟨s, _, f1, _, _, ⟨m', f4⟩, _⟩ := hb i hi
      have := a.new i s m' f1 f4
      rw [w, e] at this; cases this
    · have f := a.fr i s e
      rw [hne i fun c => ?_]
      · exact f
      · obtain ⟨j, hj⟩ := refs_mem.mp c
        obtain ⟨s', t, h1, _, h3⟩ := hr j i hj
        rw [f] at h1; cases h1
        rcases h3 with ⟨q, xs, z, _⟩ | ⟨q, xs, z, _⟩ <;> cases z
    · obtain ⟨e1, s, e2, e3⟩ := a.io i p e
      refine ⟨e1, ?_⟩
      by_cases c : i ∈ refs as
      · obtain ⟨s', u, f1, f2, _, _, f5⟩ := hb i c
        rw [e2] at f1; cases f1
        exact ⟨u, f2, by rw [← f5]; exact e3⟩
      · exact ⟨s, by rw [hne i c]; exact e2, e3⟩
    · by_cases c : i ∈ refs as
      · obtain ⟨s', u', f1, f2, _, _, f5⟩ := hb i c
        rw [e] at f2; cases f2
        exact a.oi i s' f1 (by rw [f5]; exact o)
      · rw [hne i c] at e; exact a.oi i u e o
end
section
variable {C : Str → Addr} {ax : Ax} {X : Cx} {W : WX} {e : Expr} {pos : Pos} {es : List Expr} {l : MA}
theorem xc_hasI {k : Nat} {ps : List Pk} {ns : List Str} {m : List D → Ct ps → R (Ct ps) D} {x : Str} {p : Pos} (tk : Takes X W) (F : Has X.prog X.w X.K X.mg X.base k x ns (spI C ps m)) (hr : Room k X.A) (hg : Gl X x) (ha : XAC C ax X W (e :: es) l) (hd : (x == ("__debug__" : Str)) = false := by decide)
    (hs : starEach (e :: es) X.env = (false, eval e X.env) :: starEach es X.env := by rfl) (hpl : (backTo pos (starEach es X.env)).any (·.1) = false := by rfl) :
    XC C ax X W (.Call (.Name x p) (e :: es) [] pos) (mCallI ps m l) := deI (de_has tk F hr hg ha hd hs hpl) fun E σ S Q ⟨fx, μ, β, k, ex, bd, Φ, r, z, h⟩ =>
  ⟨fx, μ, β, _, ex, bd, Φ, r, z.to fun as μ1 S1 r1 h1 ds hds => by
    obtain ⟨hn, h1⟩ := guard_ok h1 z.bad
    have nd := nodup_ok hn
    obtain ⟨vs, c, h1, hl, hp, hv, hr⟩ := takeA_ok (Φ := Φ) h1 z.bad
    obtain ⟨S0, io, Aa, ra, back⟩ := r1.call hds nd hl hv hr
    have en : ds.length = ps.length := by rw [← (act_get hds).1, hp]
    rw [en] at ra back
    refine ⟨en, S0, io, vs, c, Aa, ra, ?_⟩
    cases g : m vs c with
    | bad => rw [g] at h1; exact absurd h1 z.bad
    | ok d c' =>
      rw [g] at h1
      intro S' rb
      obtain ⟨μ2, h2, q1, q2, q3⟩ := giveA_ok (Φ := Φ) h1 z.bad nd
      exact z.k d μ2 S' (back _ S' rb μ2 q1 q2 q3) h2
    | er y fs c' =>
      rw [g] at h1
      intro S' rb
      obtain ⟨μ2, h2, q1, q2, q3⟩ := giveA_ok (Φ := Φ) h1 z.bad nd
      exact z.ex y fs μ2 S' (back _ S' rb μ2 q1 q2 q3) h2, h⟩
end
/-! ### the rule of a def -/
def Sub (S' S : Sto) : Prop := ∀ b m, S' b = some m → S b = some m
def dropZ (Z : DEnds) : DEnds where
  nx := fun σ S => ∃ S', Sub S' S ∧ Z.nx σ S'
  rt := fun d S => ∃ S', Sub S' S ∧ Z.rt d S'
  bk := fun σ S => ∃ S', Sub S' S ∧ Z.bk σ S'
  ct := fun σ S => ∃ S', Sub S' S ∧ Z.ct σ S'
  ex := fun C d σ S => ∃ S', Sub S' S ∧ Z.ex C d σ S'
section
variable {K : PySem.W.Frag} {G H G' H' : Hp} {S S' S1 : Sto}
theorem wok_sub (w : Wok K G H S) (h : Sub S' S) : Wok K G H S' := ⟨w.ext, fun p m e => w.sto p m (h p m e), w.nt, fun p q l p' q' l' e e' => w.tt p q l p' q' l' (h p _ e) (h p' _ e')⟩
theorem fr_sub (f : Fr G H S G' H' S') (h : Sub S1 S') : Fr G H S G' H' S1 := ⟨f.g, fun a o e g s n => by
  obtain ⟨h1, h2, h3⟩ := f.fr a o e g s n
  refine ⟨h1, h2, ?_⟩
  cases q : S1 a with
  | none => rfl
  | some m => rw [h a m q] at h3; cases h3⟩
theorem dss_drop {X : Cx} {W : WX} {sts : List Stmt} {r : DTS} (h : DSs X W sts r) : DSs X W sts (fun Z σ S => r (dropZ Z) σ S) := by
  obtain ⟨t, p, ev⟩ := h
  refine ⟨t, p, ⟨fun Dd G H S σV σ Dh eo k s h => ev.run (dropZ Dd) G H S σV σ Dh ⟨⟨?_⟩, ?_, ⟨?_⟩, ⟨?_⟩, ?_⟩ k s h⟩⟩
  · exact fun σ' S' G' H' σV' ⟨S2, u, q⟩ k f s => eo.nx.go σ' S2 G' H' σV' q (wok_sub k u) (fr_sub f u) s
  · exact fun d S' G' H' v ⟨S2, u, q⟩ k f r => eo.rt d S2 G' H' v q (wok_sub k u) (fr_sub f u) r
  · exact fun σ' S' G' H' σV' ⟨S2, u, q⟩ k f s => eo.bk.go σ' S2 G' H' σV' q (wok_sub k u) (fr_sub f u) s
  · exact fun σ' S' G' H' σV' ⟨S2, u, q⟩ k f s => eo.ct.go σ' S2 G' H' σV' q (wok_sub k u) (fr_sub f u) s
  · exact fun C d σ' S' G' H' σV' ⟨S2, u, q⟩ k f s => eo.ex C d σ' S2 G' H' σV' q (wok_sub k u) (fr_sub f u) s
end
def zTop : ZM (P D) := ⟨fun _ => .ok .non (), fun d _ => .ok d (), fun _ => .bad, fun _ => .bad, fun c fs _ => .er c fs (), .bad⟩
def getC {β : Type} : (ps : List Pk) → Nat → Env → (Ct ps → β) → β → β
  | [], _, _, k, _ => k ()
  | .v :: r, n, μ, k, b => getC r (n + 1) μ k b
  | .l :: r, n, μ, k, b => match μ[n]? with
    | some (.l true xs) => getC r (n + 1) μ (fun c => k (xs, c)) b
    | _ => b
  | .k :: r, n, μ, k, b => match μ[n]? with
    | some (.k true xs) => getC r (n + 1) μ (fun c => k (xs, c)) b
    | _ => b
def zTopI (ps : List Pk) : ZM (R (Ct ps) D) := ⟨fun μ => getC ps 0 μ (fun c => .ok .non c) .bad, fun d μ => getC ps 0 μ (fun c => .ok d c) .bad, fun _ => .bad, fun _ => .bad, fun x fs μ => getC ps 0 μ (fun c => .er x fs c) .bad, .bad⟩
section
variable {P : Program} {w : World} {K : PySem.W.Frag} {mg : Str → Option Value} {base : Heap} {C : Str → Addr}
theorem start_get {N : List Str} {ds : List D} {i : Nat} {s : SV} (h : (ds.map SV.v ++ List.replicate (N.length - ds.length) SV.un)[i]? = some s) : s = .un ∨ ∃ d, s = .v d ∧ (dstart N ds)[i]? = some (some d) := by
  by_cases c : i < ds.length
  · rw [List.getElem?_append_left (by simpa using c), List.getElem?_map, List.getElem?_eq_getElem c] at h
    simp only [Option.map_some, Option.some.injEq] at h
    refine .inr ⟨ds[i], h.symm, ?_⟩
    unfold dstart
    rw [List.getElem?_append_left (by simpa using c), List.getElem?_map, List.getElem?_eq_getElem c]; rfl
  · rw [List.getElem?_append_right (by simpa using c), List.getElem?_replicate] at h
    split at h
    · cases h; exact .inl rfl
    · cases h
theorem pureX {ax : Ax} {N ps : List Str} {m : List D → KM.P D} {s : MS} (hN : ps.length ≤ N.length) (hm : ∀ ds, ds.length = ps.length → m ds = s _ zTop (ds.map .v ++ List.replicate (N.length - ds.length) .un)) (ds : List D) (S : Sto) (Q : DK) (E : DEr) (h : spP C ps.length m ds S Q E) (htb : ∀ e ∈ ax.tb, S e.1 = some (.tab e.2 ax.tb)) (hf : ax.fm = false := by rfl) : rdS C ax s (dropZ (dends Q E)) (dstart N ds) S := by
  obtain ⟨hl, hp⟩ := h
  rw [hm ds hl] at hp
  refine ⟨⟨N.length, fun _ => none, S, fun _ => none⟩, _, _, zTop, fun y => post C E S (fun d => Q d S) y, ⟨fun _ => 0, ?_⟩, ⟨id, ?_, ?_, ?_, ?_, ?_⟩, hp⟩
  · refine ⟨by simp; omega, by simp [dstart]; omega, fun i t e => ?_, fun i j t u a b e f g q _ => ?_, fun i t a e g => ?_, fun b a e => e, (fun i t e => by cases e), (fun i t e => by cases e), fun i t e o => ?_, htb⟩
    · rcases start_get e with rfl | ⟨d, rfl, h⟩
      · trivial
      · exact h
    · rcases start_get e with rfl | ⟨d, rfl, h⟩ <;> cases g
    · rcases start_get e with rfl | ⟨d, rfl, h⟩ <;> cases g
    · rcases start_get e with rfl | ⟨d, rfl, h⟩ <;> cases o
  · exact fun μ σ S' ⟨_, r⟩ h => ⟨S, r.ext, h⟩
  · exact fun d d0 μ σ S' ⟨_, r⟩ hr h => ⟨S, r.ext, by rw [hr.eq hf]; exact h⟩
  · exact fun μ σ S' _ h => h.elim
  · exact fun μ σ S' _ h => h.elim
  · intro c fs μ σ S' ⟨_, r⟩ h p hp
    have h0 : S p = none := by
      cases q : S p with
      | none => rfl
      | some a => have := r.ext p a q; rw [hp] at this; cases this
    refine ⟨put S p (.xd fs), fun b a e => ?_, h p h0⟩
    by_cases z : b = p
    · subst z; rw [put_same] at e ⊢; exact e
    · rw [put_ne z] at e ⊢; exact r.ext b a e
theorem pureP {N ps : List Str} {m : List D → KM.P D} {s : MS} (hN : ps.length ≤ N.length) (hm : ∀ ds, ds.length = ps.length → m ds = s _ zTop (ds.map .v ++ List.replicate (N.length - ds.length) .un)) (ds : List D) (S : Sto) (Q : DK) (E : DEr) (h : spP C ps.length m ds S Q E) : rdS C ax0 s (dropZ (dends Q E)) (dstart N ds) S := pureX hN hm ds S Q E h (fun _ m => by cases m)
theorem okP {x : Str} {st : Stmt} {N ps : List Str} {k : Nat} {m : List D → KM.P D} {s : MS} (A : At K mg x st ps) (Sc : FnScope N ps (defScope st)) (hN : ps.length ≤ N.length) (hm : ∀ ds, ds.length = ps.length → m ds = s _ zTop (ds.map .v ++ List.replicate (N.length - ds.length) .un))
    (hb : ∀ (f : Addr) (cdv : Value) (A : Around) (outer : List PySem.Env) (s0 : Shared) (H : Hp) (E : XK), Room k (A.deeper (envOfC x (defScope st) s0.heap.objs.size f cdv)) →
      XSs C ax0 (cxOf (L2.CX P w) P w K mg base N x (defScope st) f cdv A outer s0 H E) (fun cls d _ H' => E cls d H') (defBody st) s) : Has P w K mg base (k + 1) x ps (spP C ps.length m) :=
  okH (k := k) A Sc (fun ds S Q E h => h.1) fun f cdv A outer s0 H E hr => ⟨_, dss_drop (hb f cdv A outer s0 H E hr), pureP hN hm⟩
/-- the law's own def -/
theorem okLaw {st : Stmt} {f : Addr} {fd : FuncData} {N : List Str} {k : Nat} {m : D → KM.P D} {s : MS} (F : Fun K "law" "law" st f fd) (Sc : FnScope N ["script"] (defScope st)) (hN : 1 ≤ N.length) (hm : ∀ d, m d = s _ zTop (SV.v d :: List.replicate (N.length - 1) .un)) (hl : ∀ ns : List Int, ns.length ≤ 63 → m (.scr ns) = .ok (.bl true) ())
    (hb : ∀ (f : Addr) (cdv : Value) (A : Around) (outer : List PySem.Env) (s0 : Shared) (H : Hp) (E : XK), Room k (A.deeper (envOfC "law" (defScope st) s0.heap.objs.size f cdv)) →
      XSs C ax0 (cxOf (L2.CX P w) P w K mg base N "law" (defScope st) f cdv A outer s0 H E) (fun cls d _ H' => E cls d H') (defBody st) s) : FnOk P w K mg base (L2.CX P w) (k + 1) f fd ["script"] (lift K spLaw) :=
  okD (k := k) F Sc (fun ds S Q E h => by obtain ⟨ns, rfl, _⟩ := h; rfl) fun cdv A outer s0 H E hr => ⟨_, dss_drop (hb f cdv A outer s0 H E hr), fun ds S Q E ⟨ns, e1, e2, e3, e4⟩ => by
    subst e1
    refine pureP (m := fun ds => match ds with | [d] => m d | _ => .bad) (ps := ["script"]) hN (fun ds hd => ?_) _ S Q E ⟨rfl, ?_⟩
    · match ds, hd with
      | [d], _ => exact hm d
    · show post C E S _ (m (.scr ns))
      rw [hl ns e2]; exact e4 S⟩
theorem getC_ok {β : Type} {Φ : β → Prop} {b : β} : ∀ {ps : List Pk} {n : Nat} {μ : Env} {k : Ct ps → β}, Φ (getC ps n μ k b) → ¬ Φ b → ∃ c, Φ (k c) ∧ ∀ (j : Nat) (t : SV), (argU ps c)[j]? = some t → t = .un ∨ (μ[n + j]? = some t ∧ t.own = true ∧ ((∃ xs, t = .l true xs) ∨ ∃ xs, t = .k true xs))
  | [], n, μ, k, h, hb => ⟨(), h, fun j t e => by simp [argU] at e⟩
  | .v :: r, n, μ, k, h, hb => by
    obtain ⟨c, h1, h2⟩ := getC_ok (ps := r) (n := n + 1) h hb
    refine ⟨c, h1, fun j t e => ?_⟩
    cases j with
    | zero => simp [argU] at e; exact .inl e.symm
    | succ j =>
      rcases h2 j t (by simpa [argU] using e) with h | h
      · exact .inl h
      · exact .inr (by rw [show n + (j + 1) = n + 1 + j by omega]; exact h)
  | .l :: r, n, μ, k, h, hb => by
    have key : ∃ xs, μ[n]? = some (.l true xs) ∧ Φ (getC r (n + 1) μ (fun c => k (xs, c)) b) := by
      unfold getC at h
      split at h
      · exact ⟨_, by assumption, h⟩
      · exact absurd h hb
    obtain ⟨xs, hx, h⟩ := key
    obtain ⟨c, h1, h2⟩ := getC_ok (ps := r) (n := n + 1) h hb
    refine ⟨(xs, c), h1, fun j t e => ?_⟩
    cases j with
    | zero => simp [argU] at e; subst e; exact .inr ⟨hx, rfl, .inl ⟨xs, rfl⟩⟩
    | succ j =>
      rcases h2 j t (by simpa [argU] using e) with h | h
      · exact .inl h
      · exact .inr (by rw [show n + (j + 1) = n + 1 + j by omega]; exact h)
  | .k :: r, n, μ, k, h, hb => by
    have key : ∃ xs, μ[n]? = some (.k true xs) ∧ Φ (getC r (n + 1) μ (fun c => k (xs, c)) b) := by
      unfold getC at h
      split at h
      · exact ⟨_, by assumption, h⟩
      · exact absurd h hb
    obtain ⟨xs, hx, h⟩ := key
    obtain ⟨c, h1, h2⟩ := getC_ok (ps := r) (n := n + 1) h hb
    refine ⟨(xs, c), h1, fun j t e => ?_⟩
    cases j with
    | zero => simp [argU] at e; subst e; exact .inr ⟨hx, rfl, .inr ⟨xs, rfl⟩⟩
    | succ j =>
      rcases h2 j t (by simpa [argU] using e) with h | h
      · exact .inl h
      · exact .inr (by rw [show n + (j + 1) = n + 1 + j by omega]; exact h)
theorem argU_len : ∀ {ps : List Pk} {c : Ct ps}, (argU ps c).length = ps.length
  | [], _ => rfl
  | .v :: r, c => by simp [argU, argU_len (ps := r)]
  | .l :: r, c => by simp [argU, argU_len (ps := r)]
  | .k :: r, c => by simp [argU, argU_len (ps := r)]
theorem argE_own : ∀ {ps : List Pk} {ds : List D} {c c' : Ct ps} {i : Nat} {t : SV}, (argE ps ds c)[i]? = some t → t.core = t ∧ (t.own = true → ∃ u : SV, (argU ps c')[i]? = some u ∧ u.own = true)
  | [], ds, c, c', i, t, e => by simp [argE] at e
  | .v :: r, d :: ds, c, c', i, t, e => by
    cases i with
    | zero => simp [argE] at e; subst e; exact ⟨rfl, fun h => by cases h⟩
    | succ i => simpa [argU] using argE_own (ps := r) (ds := ds) (c := c) (c' := c') (i := i) (by simpa [argE] using e)
  | .v :: r, [], c, c', i, t, e => by
    cases i with
    | zero => simp [argE] at e; subst e; exact ⟨rfl, fun h => by cases h⟩
    | succ i => simpa [argU] using argE_own (ps := r) (ds := []) (c := c) (c' := c') (i := i) (by simpa [argE] using e)
  | .l :: r, ds, c, c', i, t, e => by
    cases i with
    | zero => simp [argE] at e; subst e; exact ⟨rfl, fun h => ⟨.l true c'.1, by simp [argU], rfl⟩⟩
    | succ i => simpa [argU] using argE_own (ps := r) (ds := ds) (c := c.2) (c' := c'.2) (i := i) (by simpa [argE] using e)
  | .k :: r, ds, c, c', i, t, e => by
    cases i with
    | zero => simp [argE] at e; subst e; exact ⟨rfl, fun h => ⟨.k true c'.1, by simp [argU], rfl⟩⟩
    | succ i => simpa [argU] using argE_own (ps := r) (ds := ds) (c := c.2) (c' := c'.2) (i := i) (by simpa [argE] using e)
theorem core_p : ∀ {t s : SV}, t.core ≠ .p s
  | .un, _, h => nomatch h
  | .v _, _, h => nomatch h
  | .l _ _, _, h => nomatch h
  | .k _ _, _, h => nomatch h
  | .x _ _, _, h => nomatch h
  | .p t, _, h => core_p (t := t) h
theorem okI {x : Str} {st : Stmt} {N ns : List Str} {k : Nat} {ps : List Pk} {m : List D → Ct ps → R (Ct ps) D} {s : MS} (A : At K mg x st ns) (Sc : FnScope N ns (defScope st)) (hn : ns.length = ps.length) (hN : ps.length ≤ N.length) (hm : ∀ vs c, m vs c = .bad ∨ m vs c = s _ (zTopI ps) (argE ps vs c ++ List.replicate (N.length - ps.length) .un))
    (hb : ∀ (f : Addr) (cdv : Value) (A : Around) (outer : List PySem.Env) (s0 : Shared) (H : Hp) (E : XK), Room k (A.deeper (envOfC x (defScope st) s0.heap.objs.size f cdv)) →
      XSs C ax0 (cxOf (L2.CX P w) P w K mg base N x (defScope st) f cdv A outer s0 H E) (fun cls d _ H' => E cls d H') (defBody st) s) : Has P w K mg base (k + 1) x ns (spI C ps m) := by
  have key : ∀ ds S Q E, spI C ps m ds S Q E → rdS C ax0 s (dends Q E) (dstart N ds) S := by
    intro ds S Q E ⟨hl, S0, io, vs, c, B, r, hp⟩
    rcases hm vs c with hf | hf
    · rw [hf] at hp; exact hp.elim
    rw [hf] at hp
    generalize hμ : argE ps vs c = μ at r hp
    have lm : μ.length = ps.length := r.lenμ
    have hcore : ∀ (i : Nat) (t : SV), μ[i]? = some t → t.core = t := fun i t e => (argE_own (c' := c) (by rw [hμ]; exact e)).1
    have sg : ∀ {i : Nat} {t : SV}, (μ ++ List.replicate (N.length - ps.length) SV.un)[i]? = some t → t = .un ∨ (i < ps.length ∧ μ[i]? = some t) := fun {i t} e => by
      by_cases c : i < μ.length
      · rw [List.getElem?_append_left c] at e
        exact .inr ⟨by omega, e⟩
      · rw [List.getElem?_append_right (by omega), List.getElem?_replicate] at e
        split at e
        · cases e; exact .inl rfl
        · cases e
    have dg : ∀ i, i < ps.length → (dstart N ds)[i]? = (ds.map some)[i]? := fun i h => by
      unfold dstart; rw [List.getElem?_append_left (by simp; omega)]
    have start : Rl ax0 ⟨N.length, fun _ => none, S0, io⟩ (μ ++ List.replicate (N.length - ps.length) SV.un) (dstart N ds) S B := by
      refine ⟨by simp; omega, by simp [dstart]; omega, fun i t e => ?_, fun i j t u a b e f g q z => ?_, fun i t a e g => ?_, r.ext, (fun i t e => by cases e), fun i p e => ?_, fun i t e o => ?_, (fun _ m => by cases m)⟩
      · rcases sg e with rfl | ⟨h, e⟩
        · trivial
        · exact slot_same (dg i h) rfl (fun _ _ => rfl) (r.slot i t e)
      · rcases sg e with rfl | ⟨h, e⟩
        · cases g
        rcases sg f with rfl | ⟨h, f⟩
        · cases q
        exact r.inj i j t u a b e f g q z
      · rcases sg e with rfl | ⟨h, e⟩
        · cases g
        exact r.new i t a e g
      · obtain ⟨e1, t, e2, e3⟩ := r.io i p e
        exact ⟨e1, t, by rw [List.getElem?_append_left (List.getElem?_eq_some_iff.mp e2).1]; exact e2, e3⟩
      · rcases sg e with rfl | ⟨h, e⟩
        · cases o
        exact r.oi i t e o
    have fin : ∀ μ' σ S' (c' : Ct ps), Rel ax0 ⟨N.length, fun _ => none, S0, io⟩ μ' σ S' → (∀ (j : Nat) (t : SV), (argU ps c')[j]? = some t → t = .un ∨ (μ'[0 + j]? = some t ∧ t.own = true ∧ ((∃ xs, t = .l true xs) ∨ ∃ xs, t = .k true xs))) → Rel ax0 ⟨ps.length, fun _ => none, S0, io⟩ (argU ps c') (ds.map some) S' := fun μ' σ S' c' ⟨A', r'⟩ hc => by
      have hc : ∀ (j : Nat) (t : SV), (argU ps c')[j]? = some t → t = .un ∨ (μ'[j]? = some t ∧ t.own = true ∧ ((∃ xs, t = .l true xs) ∨ ∃ xs, t = .k true xs)) := fun j t e => by have := hc j t e; rwa [Nat.zero_add] at this
      have own : ∀ i t, μ'[i]? = some t → t.own = true → ∃ p, io i = some p ∧ A' i = p ∧ (ds.map some)[i]? = some (some (.ref p)) := fun i t e o => by
        have := r'.oi i t e o
        cases q : io i with
        | none => rw [show (Fx.mk N.length (fun _ => none) S0 io).io i = io i from rfl, q] at this; cases this
        | some p =>
          obtain ⟨e1, _⟩ := r'.io i p q
          obtain ⟨e2, t', e3, e4⟩ := r.io i p q
          refine ⟨p, rfl, e1, ?_⟩
          have sl := r.slot i t' e3
          have hc := hcore i t' e3
          rw [← e2]
          cases t' with
          | l _ xs => exact sl.1
          | k _ xs => exact sl.1
          | p t' => exact absurd hc core_p
          | _ => cases e4
      refine ⟨A', argU_len, by simp [hl], fun i t e => ?_, fun i j t u a b e f g q z => ?_, fun i t a e g => ?_, r'.ext, (fun i t e => by cases e), fun i p e => ?_, fun i t e o => ?_, (fun _ m => by cases m)⟩
      · rcases hc i t e with rfl | ⟨e', o, w⟩
        · trivial
        · obtain ⟨p, _, h2, h3⟩ := own i t e' o
          have sl := r'.slot i t e'
          rcases w with ⟨xs, rfl⟩ | ⟨xs, rfl⟩
          · exact ⟨by rw [h2]; exact h3, sl.2⟩
          · exact ⟨by rw [h2]; exact h3, sl.2⟩
      · rcases hc i t e with rfl | ⟨e', _⟩
        · cases g
        rcases hc j u f with rfl | ⟨f', _⟩
        · cases q
        exact r'.inj i j t u a b e' f' g q z
      · rcases hc i t e with rfl | ⟨e', _⟩
        · cases g
        exact r'.new i t a e' g
      · obtain ⟨e1, _⟩ := r'.io i p e
        obtain ⟨_, t, e2, e3⟩ := r.io i p e
        exact ⟨e1, (argE_own (c' := c') (by rw [hμ]; exact e2)).2 e3⟩
      · rcases hc i t e with rfl | ⟨e', _⟩
        · cases o
        exact r'.oi i t e' o
    let Φ : R (Ct ps) D → Prop := fun y => (match y with
      | .ok d c' => ∀ S', Rel ax0 ⟨ps.length, fun _ => none, S0, io⟩ (argU ps c') (ds.map some) S' → Q d S'
      | .er x fs c' => ∀ S', Rel ax0 ⟨ps.length, fun _ => none, S0, io⟩ (argU ps c') (ds.map some) S' → ∀ p, S' p = none → E (C x) p (put S' p (.xd fs))
      | .bad => False)
    have nb : ¬ Φ .bad := id
    refine ⟨⟨N.length, fun _ => none, S0, io⟩, _, _, zTopI ps, Φ, ⟨B, start⟩, ⟨nb, ?_, ?_, ?_, ?_, ?_⟩, hp⟩
    · intro μ' σ S' r' h
      obtain ⟨c', h, q⟩ := getC_ok (Φ := Φ) h nb
      exact h S' (fin μ' σ S' c' r' q)
    · intro d d0 μ' σ S' r' hr h
      obtain ⟨c', h, q⟩ := getC_ok (Φ := Φ) h nb
      rw [hr.eq rfl]
      exact h S' (fin μ' σ S' c' r' q)
    · exact fun μ' σ S' _ h => h.elim
    · exact fun μ' σ S' _ h => h.elim
    · intro x fs μ' σ S' r' h p hp
      obtain ⟨c', h, q⟩ := getC_ok (Φ := Φ) h nb
      exact h S' (fin μ' σ S' c' r' q) p hp
  exact okH (k := k) A Sc (fun ds S Q E h => h.1.trans hn.symm) fun f cdv A outer s0 H E hr => ⟨_, hb f cdv A outer s0 H E hr, fun ds S Q E h => key ds S Q E h⟩
end
end KM

set_option maxRecDepth 100000
set_option maxHeartbeats 4000000
/-! Km4: operators and built-ins as functions upon data. -/
namespace KM
open PySem PySem.Spec PyProof.Rows L2 KD
section
variable {S : Sto} {x0 x y0 y : D}
theorem vwx (h : Vw S x0 x) (hx : ∀ p, x ≠ .ref p) : vw S x0 = x := by
  rcases h with rfl | h
  · cases x0 <;> first | rfl | exact absurd rfl (hx _)
  · exact h
theorem vw_refs {p : Addr} : (∃ xs, vw S (.ref p) = .lst xs) ∨ (∃ xs, vw S (.ref p) = .dic xs) ∨ (∃ xs, vw S (.ref p) = .dit xs) ∨ vw S (.ref p) = .ref p := by
  simp only [vw]
  split <;> simp
theorem vw_exact (h : Vw S x0 x) (h1 : ∀ xs, x ≠ .lst xs) (h2 : ∀ xs, x ≠ .dic xs) (h3 : ∀ xs, x ≠ .dit xs) : x0 = x := by
  rcases h with h | h
  · exact h
  · cases x0 with
    | ref p =>
      rcases vw_refs (S := S) (p := p) with ⟨_, e⟩ | ⟨_, e⟩ | ⟨_, e⟩ | e
      · exact absurd (h.symm.trans e) (h1 _)
      · exact absurd (h.symm.trans e) (h2 _)
      · exact absurd (h.symm.trans e) (h3 _)
      · exact e.symm.trans h
    | _ => exact h
theorem vw_flatD (h : Vw S x0 x) (hx : flatD x = true) : x0 = x := vw_exact h (fun _ e => by subst e; cases hx) (fun _ e => by subst e; cases hx) (fun _ e => by subst e; cases hx)
end
/-! ### ints -/
def intOp (g : Int → Int → Option D) : D → D → Option D := fun x y => match x, y with
  | .int i, .int j => g i j
  | _, _ => none
theorem intOp_ok {g : Int → Int → Option D} {x y d : D} (h : intOp g x y = some d) : ∃ i j, x = .int i ∧ y = .int j ∧ g i j = some d := by
  cases x <;> cases y <;> first | (cases h; done) | exact ⟨_, _, rfl, rfl, h⟩
theorem ok_I {P : Int → Int → Prop} {g' : Int → Int → D} {g : Int → Int → Option D} (h : ∀ i j d, g i j = some d → P i j ∧ d = g' i j) : OpOk (dI P g') (intOp g) := fun x y x0 y0 S d Q v w e q => by
  obtain ⟨i, j, rfl, rfl, e⟩ := intOp_ok e
  obtain ⟨h1, rfl⟩ := h i j d e
  have := vw_flatD v rfl; subst this
  have := vw_flatD w rfl; subst this
  exact ⟨h1, q⟩
theorem ok_I0 {g' : Int → Int → D} {g : Int → Int → Option D} (h : ∀ i j d, g i j = some d → d = g' i j) : OpOk (dI0 g') (intOp g) := fun x y x0 y0 S d Q v w e q => by
  obtain ⟨i, j, rfl, rfl, e⟩ := intOp_ok e
  have := h i j d e; subst this
  have := vw_flatD v rfl; subst this
  have := vw_flatD w rfl; subst this
  exact q
def subD : D → D → Option D := intOp fun i j => some (.int (i - j))
def modD : D → D → Option D := intOp fun i j => if 0 < j then some (.int (i % j)) else none
def fdivD : D → D → Option D := intOp fun i j => if 0 < j ∧ j < 18446744073709551616 then some (.int (i / j)) else none
def powD : D → D → Option D := intOp fun i j => if 0 ≤ j ∧ j ≤ 1000000 ∧ i.natAbs < 18446744073709551616 then some (.int (i ^ j.toNat)) else none
def xorD : D → D → Option D := intOp fun i j => some (.int (Builtin.bitXor i j))
theorem ok_sub : OpOk dSub subD := ok_I0 fun i j d h => (Option.some.inj h).symm
theorem ok_xor : OpOk dXor xorD := ok_I0 fun i j d h => (Option.some.inj h).symm
theorem ok_mod : OpOk dMod modD := ok_I fun i j d h => by
  split at h
  · exact ⟨by assumption, (Option.some.inj h).symm⟩
  · cases h
theorem ok_fdiv : OpOk dFdiv fdivD := ok_I fun i j d h => by
  split at h
  · rename_i c
    refine ⟨⟨c.1, ?_⟩, (Option.some.inj h).symm⟩
    have h0 : j.natAbs ≠ 0 := by omega
    have h1 : j.natAbs < 2 ^ 64 := by omega
    exact Nat.lt_of_lt_of_le ((Nat.log2_lt h0).mpr h1) (by decide)
  · cases h
theorem ok_pow : OpOk dPow powD := ok_I fun i j d h => by
  split at h
  · rename_i c
    exact ⟨c, (Option.some.inj h).symm⟩
  · cases h
def cmpI (g : Int → Int → Bool) : D → D → Option Bool := fun x y => match x, y with
  | .int i, .int j => some (g i j)
  | _, _ => none
theorem ok_cmp {g : Int → Int → Bool} : CmOk (dI0 fun i j => .bl (g i j)) (cmpI g) := fun x y x0 y0 S d Q v w e q => by
  cases x <;> cases y <;> simp only [cmpI, reduceCtorEq, Option.some.injEq] at e
  subst e
  have := vw_flatD v rfl; subst this
  have := vw_flatD w rfl; subst this
  exact q
def ltD := cmpI fun i j => decide (i < j)
def leD := cmpI fun i j => decide (i ≤ j)
def gtD := cmpI fun i j => decide (j < i)
def geD := cmpI fun i j => decide (j ≤ i)
theorem ok_lt : CmOk dLt ltD := ok_cmp
theorem ok_le : CmOk dLe leD := ok_cmp
theorem ok_gt : CmOk dGt gtD := ok_cmp
theorem ok_ge : CmOk dGe geD := ok_cmp
def negD : D → Option D
  | .int i => some (.int (-i))
  | _ => none
theorem ok_neg : UnOk (fun i => -i) negD := fun x d h => by
  cases x <;> simp only [negD, reduceCtorEq, Option.some.injEq] at h
  exact ⟨_, rfl, h.symm⟩
/-! ### + and * -/
def szO {α : Type} (n : Nat) (a : α) : Option α := if n ≤ 16777216 then some a else none
theorem szO_ok {α : Type} {n : Nat} {a d : α} (h : szO n a = some d) : n ≤ sizeLine ∧ d = a := by
  unfold szO at h
  split at h
  · exact ⟨size_ok (by assumption), (Option.some.inj h).symm⟩
  · cases h
def addD (x y : D) : Option D := match x, y with
  | .int i, .int j => some (.int (i + j))
  | .str i, .str j => szO (i.length + j.length) (.str (i ++ j))
  | .lst xs, .lst ys => szO (xs.length + ys.length) (.lst (xs ++ ys))
  | .tup xs, .tup ys => szO (xs.length + ys.length) (.tup (xs ++ ys))
  | _, _ => none
theorem ok_add : OpOk dAdd addD := fun x y x0 y0 S d Q v w e q => by
  unfold dAdd
  cases x <;> cases y <;> simp only [addD, reduceCtorEq] at e
  · rw [vwx v (by simp), vwx w (by simp)]; cases e; exact q
  · rw [vwx v (by simp), vwx w (by simp)]
    obtain ⟨h1, rfl⟩ := szO_ok e; exact ⟨h1, q⟩
  · rw [vwx v (by simp), vwx w (by simp)]
    obtain ⟨h1, rfl⟩ := szO_ok e; exact ⟨h1, q⟩
  · rw [vwx v (by simp), vwx w (by simp)]
    obtain ⟨h1, rfl⟩ := szO_ok e; exact ⟨h1, q⟩
def mulOk (i j : Int) : Prop := i.natAbs < 18446744073709551616 ∨ j.natAbs < 18446744073709551616
instance {i j : Int} : Decidable (mulOk i j) := inferInstanceAs (Decidable (_ ∨ _))
theorem mulOk_ok {i j : Int} (h : mulOk i j) : IntMulOk i j := by
  rcases h with h | h
  · exact CMul.ok (.inl ⟨by omega, by omega⟩)
  · exact CMul.ok (.inr ⟨by omega, by omega⟩)
def mulD (x y : D) : Option D := match x, y with
  | .int i, .int j => if mulOk i j then some (.int (i * j)) else none
  | .lst xs, .int k => if -9223372036854775808 ≤ k ∧ k < 9223372036854775808 ∧ xs.length * k.toNat ≤ 16777216 then some (.lst (List.replicate k.toNat xs).flatten) else none
  | .tup xs, .int k => if 1 ≤ k ∧ k ≤ 1000 ∧ xs.length ≤ 1000 then some (.tup (List.replicate k.toNat xs).flatten) else none
  | _, _ => none
theorem ok_mul : OpOk dMulG mulD := fun x y x0 y0 S d Q v w e q => by
  unfold dMulG
  cases x <;> cases y <;> simp only [mulD, reduceCtorEq] at e
  · rw [vwx v (by simp)]; have := vw_flatD w rfl; subst this
    split at e
    · cases e; exact ⟨mulOk_ok (by assumption), q⟩
    · cases e
  · rw [vwx v (by simp)]; have := vw_flatD w rfl; subst this
    split at e
    · rename_i c
      cases e; exact ⟨by omega, by omega, size_ok c.2.2, q⟩
    · cases e
  · rw [vwx v (by simp)]; have := vw_flatD w rfl; subst this
    split at e
    · rename_i c
      cases e; exact ⟨c.1, c.2.1, c.2.2, q⟩
    · cases e
/-! ### == -/
def eqC (x y : D) : Option Bool := match flatD x && flatD y with
  | true => some (eqF x y)
  | false => match x, y with
    | .lst [], .lst ys => some ys.isEmpty
    | .lst xs, .lst [] => some xs.isEmpty
    | _, _ => if plD 64 x = true ∧ plD 64 y = true then some (eqD x y) else match x, y with
      | .lst xs, .lst ys => if xs.length ≠ ys.length then some false else none
      | _, _ => none
theorem eq_flat (v : Vw S x0 x) (w : Vw S y0 y) (h : (flatD x && flatD y) = false) : (match flatD x0, flatD y0 with | true, true => false | _, _ => true) = true := by
  split
  · rename_i h1 h2
    have e1 : x = x0 := by rcases v with v | v; exact v.symm; rw [vw_flat h1] at v; exact v.symm
    have e2 : y = y0 := by rcases w with v | v; exact v.symm; rw [vw_flat h2] at v; exact v.symm
    rw [e1, e2, h1, h2] at h; cases h
  · rfl
theorem eqC_ok {x y : D} {b : Bool} (h : eqC x y = some b) (hf : (flatD x && flatD y) = false) : (∀ p, x ≠ .ref p) ∧ (∀ p, y ≠ .ref p) ∧ ((∃ p q, toPy x = some p ∧ toPy y = some q ∧ SeqAt.shaped p = true ∧ SeqAt.shaped q = true ∧ b = PyData.eqv p q) ∨ ∃ xs ys, x = .lst xs ∧ y = .lst ys ∧ ((xs.length ≠ ys.length ∧ b = false) ∨ (xs = [] ∧ ys = [] ∧ b = true))) := by
  unfold eqC at h
  rw [hf] at h
  dsimp only at h
  have lcase : ∀ (xs ys : List D) (b : Bool), (xs = [] ∧ b = ys.isEmpty) ∨ (ys = [] ∧ b = xs.isEmpty) → (xs.length ≠ ys.length ∧ b = false) ∨ (xs = [] ∧ ys = [] ∧ b = true) := fun xs ys b h => by
    rcases h with ⟨rfl, rfl⟩ | ⟨rfl, rfl⟩
    · cases ys with
      | nil => exact .inr ⟨rfl, rfl, rfl⟩
      | cons a l => exact .inl ⟨by simp, rfl⟩
    · cases xs with
      | nil => exact .inr ⟨rfl, rfl, rfl⟩
      | cons a l => exact .inl ⟨by simp, rfl⟩
  split at h
  · cases h; exact ⟨by simp, by simp, .inr ⟨_, _, rfl, rfl, lcase _ _ _ (.inl ⟨rfl, rfl⟩)⟩⟩
  · cases h; exact ⟨by simp, by simp, .inr ⟨_, _, rfl, rfl, lcase _ _ _ (.inr ⟨rfl, rfl⟩)⟩⟩
  · split at h
    · rename_i c
      obtain ⟨p, h1, h2, h3⟩ := py_of 64 x c.1
      obtain ⟨q, h4, h5, h6⟩ := py_of 64 y c.2
      cases h
      refine ⟨fun p e => by subst e; simp [toPy] at h1, fun p e => by subst e; simp [toPy] at h4, .inl ⟨p, q, h1, h4, ?_, ?_, (eqv_eqD x y p q h1 h4).symm⟩⟩
      · unfold SeqAt.shaped; rw [h2, decide_eq_true h3]; rfl
      · unfold SeqAt.shaped; rw [h5, decide_eq_true h6]; rfl
    · split at h
      · split at h
        · cases h; exact ⟨by simp, by simp, .inr ⟨_, _, rfl, rfl, .inl ⟨by assumption, rfl⟩⟩⟩
        · cases h
      · cases h
theorem ok_eq : CmOk dEqG eqC := fun x y x0 y0 S b Q v w e q => by
  cases hf : flatD x && flatD y with
  | true =>
    have hf2 := hf
    rw [Bool.and_eq_true] at hf
    have := vw_flatD v hf.1; subst this
    have := vw_flatD w hf.2; subst this
    unfold dEqG
    rw [hf.1, hf.2]
    unfold eqC at e
    rw [hf2] at e; cases e; exact q
  | false =>
    obtain ⟨n1, n2, h⟩ := eqC_ok e hf
    have z := eq_flat v w hf
    have g : dEq x0 y0 S Q ∨ dEqLen false x0 y0 S Q := by
      rcases h with ⟨p, q', h1, h2, h3, h4, rfl⟩ | ⟨xs, ys, rfl, rfl, h⟩
      · exact .inl ⟨p, q', by rw [vwx v n1]; exact h1, by rw [vwx w n2]; exact h2, h3, h4, q⟩
      · refine .inr ⟨xs, ys, vwx v n1, vwx w n2, ?_⟩
        rcases h with ⟨h, rfl⟩ | ⟨h1, h2, rfl⟩
        · exact .inl ⟨h, q⟩
        · exact .inr ⟨h1, h2, q⟩
    unfold dEqG
    split at z
    · cases z
    · first
      | exact g
      | (split
         · rename_i a b; simp_all
         · exact g)
def neC (x y : D) : Option Bool := match eqC x y with
  | some b => some (!b)
  | none => none
theorem ok_ne : CmOk dNeG neC := fun x y x0 y0 S b Q v w e q => by
  unfold neC at e
  cases e2 : eqC x y with
  | none => rw [e2] at e; cases e
  | some c =>
    rw [e2] at e; cases e
    cases hf : flatD x && flatD y with
    | true =>
      have hf2 := hf
      rw [Bool.and_eq_true] at hf
      have := vw_flatD v hf.1; subst this
      have := vw_flatD w hf.2; subst this
      unfold dNeG
      rw [hf.1, hf.2]
      unfold eqC at e2
      rw [hf2] at e2; cases e2; exact q
    | false =>
      obtain ⟨n1, n2, h⟩ := eqC_ok e2 hf
      have z := eq_flat v w hf
      have g : dNe x0 y0 S Q ∨ dEqLen true x0 y0 S Q := by
        rcases h with ⟨p, q', h1, h2, h3, h4, rfl⟩ | ⟨xs, ys, rfl, rfl, h⟩
        · exact .inl ⟨p, q', by rw [vwx v n1]; exact h1, by rw [vwx w n2]; exact h2, h3, h4, q⟩
        · refine .inr ⟨xs, ys, vwx v n1, vwx w n2, ?_⟩
          rcases h with ⟨h, rfl⟩ | ⟨h1, h2, rfl⟩
          · exact .inl ⟨h, q⟩
          · exact .inr ⟨h1, h2, q⟩
      unfold dNeG
      split at z
      · cases z
      · first
        | exact g
        | (split
           · rename_i a b; simp_all
           · exact g)
/-! ### in -/
def inC (x y : D) : Option Bool := match y with
  | .lst xs => if flatD x = true ∧ xs.all flatD = true then some (inF x xs) else none
  | .tup xs => if flatD x = true ∧ xs.all flatD = true then some (inF x xs) else none
  | .str z => match x with
    | .str s => some (inStr s z)
    | _ => none
  | .dic kvs => match keyOf x with
    | some k => some (valD kvs k).isSome
    | none => none
  | _ => none
def notInC (x y : D) : Option Bool := match inC x y with
  | some b => some (!b)
  | none => none
theorem ok_inB (neg : Bool) {b : Bool} {x y x0 y0 : D} {S : Sto} {Q : DK} (v : Vw S x0 x) (w : Vw S y0 y) (e : inC x y = some b) (q : Q (.bl (if neg then !b else b)) S) : dInGB neg x0 y0 S Q := by
  unfold dInGB
  cases y <;> simp only [inC, reduceCtorEq] at e
  · rw [vwx w (by simp)]
    cases x <;> simp only [reduceCtorEq, Option.some.injEq] at e
    have := vw_flatD v rfl; subst this
    subst e; exact q
  · rw [vwx w (by simp)]
    split at e
    · rename_i c
      have := vw_flatD v c.1; subst this
      cases e; exact ⟨c.1, c.2, q⟩
    · cases e
  · rw [vwx w (by simp)]
    split at e
    · rename_i c
      have := vw_flatD v c.1; subst this
      cases e; exact ⟨c.1, c.2, q⟩
    · cases e
  · rw [vwx w (by simp)]
    split at e
    · rename_i k hk
      have : flatD x = true := by cases x <;> first | rfl | (cases hk; done)
      have := vw_flatD v this; subst this
      cases e; exact ⟨k, hk, q⟩
    · cases e
theorem ok_in : CmOk dInG inC := fun x y x0 y0 S b Q v w e q => ok_inB false v w e q
theorem ok_notIn : CmOk dNotInG notInC := fun x y x0 y0 S b Q v w e q => by
  unfold notInC at e
  split at e
  · cases e; exact ok_inB true v w (by assumption) q
  · cases e
/-! ### subscripts, slices -/
def ixD (x y : D) : Option D := match x with
  | .dic kvs => match keyOf y with
    | some k => valD kvs k
    | none => none
  | .lst xs => match y with
    | .int i => atI xs i
    | _ => none
  | .tup xs => match y with
    | .int i => atI xs i
    | _ => none
  | .scr ns => match y with
    | .int i => match atI ns i with
      | some n => some (.int n)
      | none => none
    | _ => none
  | .str z => match y with
    | .int i => if z.length ≤ 16777216 then match atI z.cps.toList i with
      | some c => some (.str ⟨#[c]⟩)
      | none => none else none
    | _ => none
  | _ => none
theorem ok_ix : OpOk dIxG ixD := fun x y x0 y0 S d Q v w e q => by
  unfold dIxG
  cases x <;> simp only [ixD, reduceCtorEq] at e
  · rw [vwx v (by simp)]
    cases y <;> simp only [reduceCtorEq] at e
    have := vw_flatD w rfl; subst this
    split at e
    · rename_i hz
      split at e
      · rename_i c hc
        cases e; exact ⟨size_ok hz, c, hc, q⟩
      · cases e
    · cases e
  · rw [vwx v (by simp)]
    cases y <;> simp only [reduceCtorEq] at e
    have := vw_flatD w rfl; subst this
    exact ⟨d, e, q⟩
  · rw [vwx v (by simp)]
    cases y <;> simp only [reduceCtorEq] at e
    have := vw_flatD w rfl; subst this
    exact ⟨d, e, q⟩
  · rw [vwx v (by simp)]
    split at e
    · rename_i k hk
      have : flatD y = true := by cases y <;> first | rfl | (cases hk; done)
      have := vw_flatD w this; subst this
      exact ⟨k, d, hk, e, q⟩
    · cases e
  · rw [vwx v (by simp)]
    cases y <;> simp only [reduceCtorEq] at e
    have := vw_flatD w rfl; subst this
    split at e
    · rename_i n hn
      cases e; exact ⟨n, hn, q⟩
    · cases e
def slD (x : D) (lo hi : Option Int) : Option D := match x with
  | .lst xs => some (.lst (cutD xs lo hi))
  | .tup xs => some (.tup (cutD xs lo hi))
  | .str z => szO z.length (.str (cutS z lo hi))
  | _ => none
theorem ok_sl : SlOk dSlQ slD := fun x x0 lo hi S d Q v e q => by
  unfold dSlQ
  cases x <;> simp only [slD, reduceCtorEq] at e
  · rw [vwx v (by simp)]
    obtain ⟨h1, rfl⟩ := szO_ok e; exact ⟨h1, q⟩
  · rw [vwx v (by simp)]; cases e; exact q
  · rw [vwx v (by simp)]; cases e; exact q
/-! ### truth -/
def truD (x : D) : Option Bool := match x with
  | .non => some false
  | .bl b => some b
  | .int i => some (i != 0)
  | .str x => szO x.length ((x.length : Int) != 0)
  | .lst xs => some (!xs.isEmpty)
  | .tup xs => some (!xs.isEmpty)
  | _ => none
theorem ok_tru : TrOk truD := fun x x0 S b Q v e q => by
  unfold dTruth
  cases x <;> simp only [truD, reduceCtorEq] at e
  · rw [vwx v (by simp)]; cases e; exact q
  · rw [vwx v (by simp)]; cases e; exact q
  · rw [vwx v (by simp)]; cases e; exact q
  · rw [vwx v (by simp)]; obtain ⟨h1, rfl⟩ := szO_ok e; exact ⟨h1, q⟩
  · rw [vwx v (by simp)]; cases e; exact q
  · rw [vwx v (by simp)]; cases e; exact q
/-! ### built-ins -/
def on1 {α : Type} (f : D → Option α) : List D → Option α
  | [x] => f x
  | _ => none
def on2 {α : Type} (f : D → D → Option α) : List D → Option α
  | [x, y] => f x y
  | _ => none
theorem on1_ok {α : Type} {f : D → Option α} {xs xs0 : List D} {S : Sto} {a : α} (v : VwL S xs0 xs) (h : on1 f xs = some a) : ∃ x0 x, xs0 = [x0] ∧ Vw S x0 x ∧ f x = some a := by
  cases v with
  | nil => cases h
  | cons v1 v2 =>
    cases v2 with
    | nil => exact ⟨_, _, rfl, v1, h⟩
    | cons _ _ => cases h
theorem on2_ok {α : Type} {f : D → D → Option α} {xs xs0 : List D} {S : Sto} {a : α} (v : VwL S xs0 xs) (h : on2 f xs = some a) : ∃ x0 x y0 y, xs0 = [x0, y0] ∧ Vw S x0 x ∧ Vw S y0 y ∧ f x y = some a := by
  cases v with
  | nil => cases h
  | cons v1 v2 =>
    cases v2 with
    | nil => cases h
    | cons v2 v3 =>
      cases v3 with
      | nil => exact ⟨_, _, _, _, rfl, v1, v2, h⟩
      | cons _ _ => cases h
def lenD (x : D) : Option D := match x with
  | .lst xs => some (.int xs.length)
  | .tup xs => some (.int xs.length)
  | .scr ns => some (.int ns.length)
  | .str z => szO z.length (.int z.length)
  | .dic kvs => some (.int kvs.length)
  | _ => none
theorem ok_len : ClOk dLenG (on1 lenD) := fun xs xs0 S d Q v e q => by
  obtain ⟨x0, x, rfl, v, e⟩ := on1_ok v e
  unfold dLenG
  cases x <;> simp only [lenD, reduceCtorEq] at e
  · simp only [vwx v (by simp)]; obtain ⟨h1, rfl⟩ := szO_ok e; exact ⟨h1, q⟩
  · simp only [vwx v (by simp)]; cases e; exact q
  · simp only [vwx v (by simp)]; cases e; exact q
  · simp only [vwx v (by simp)]; cases e; exact q
  · simp only [vwx v (by simp)]; cases e; exact q
def listD (x : D) : Option D := match x with
  | .lst xs => some (.lst xs)
  | .tup xs => some (.lst xs)
  | .dic kvs => some (.lst (kvs.map fun kv => kD kv.1))
  | _ => none
theorem ok_list : ClOk dListG (on1 listD) := fun xs xs0 S d Q v e q => by
  obtain ⟨x0, x, rfl, v, e⟩ := on1_ok v e
  unfold dListG
  cases x <;> simp only [listD, reduceCtorEq] at e
  · simp only [vwx v (by simp)]; cases e; exact q
  · simp only [vwx v (by simp)]; cases e; exact q
  · simp only [vwx v (by simp)]; cases e; exact q
def tupleD (x : D) : Option D := match x with
  | .lst xs => some (.tup xs)
  | .tup xs => some (.tup xs)
  | _ => none
theorem ok_tuple : ClOk dTuple1 (on1 tupleD) := fun xs xs0 S d Q v e q => by
  obtain ⟨x0, x, rfl, v, e⟩ := on1_ok v e
  unfold dTuple1
  cases x <;> simp only [tupleD, reduceCtorEq] at e
  · simp only [vwx v (by simp)]; cases e; exact q
  · simp only [vwx v (by simp)]; cases e; exact q
def intD (x : D) : Option D := match x with
  | .int i => some (.int i)
  | .bl b => some (.int (if b then 1 else 0))
  | _ => none
theorem ok_int : ClOk dInt1 (on1 intD) := fun xs xs0 S d Q v e q => by
  obtain ⟨x0, x, rfl, v, e⟩ := on1_ok v e
  unfold dInt1
  cases x <;> simp only [intD, reduceCtorEq] at e
  · have := vw_flatD v rfl; subst this; cases e; exact q
  · have := vw_flatD v rfl; subst this; cases e; exact q
def max2D : D → D → Option D := intOp fun i j => some (.int (if j > i then j else i))
def min2D : D → D → Option D := intOp fun i j => some (.int (if j < i then j else i))
theorem ok_max2 : ClOk dMax2 (on2 max2D) := fun xs xs0 S d Q v e q => by
  obtain ⟨x0, x, y0, y, rfl, v, w, e⟩ := on2_ok v e
  obtain ⟨i, j, rfl, rfl, e⟩ := intOp_ok e
  have := vw_flatD v rfl; subst this
  have := vw_flatD w rfl; subst this
  cases e; exact q
theorem ok_min2 : ClOk dMin2 (on2 min2D) := fun xs xs0 S d Q v e q => by
  obtain ⟨x0, x, y0, y, rfl, v, w, e⟩ := on2_ok v e
  obtain ⟨i, j, rfl, rfl, e⟩ := intOp_ok e
  have := vw_flatD v rfl; subst this
  have := vw_flatD w rfl; subst this
  cases e; exact q
def sumD (x : D) : Option D := match x with
  | .lst xs => match intsOf xs with
    | some ns => some (.int ns.sum)
    | none => none
  | .tup xs => match intsOf xs with
    | some ns => some (.int ns.sum)
    | none => none
  | _ => none
theorem ok_sum : ClOk dSum (on1 sumD) := fun xs xs0 S d Q v e q => by
  obtain ⟨x0, x, rfl, v, e⟩ := on1_ok v e
  unfold dSum
  cases x <;> simp only [sumD, reduceCtorEq] at e
  all_goals
    simp only [vwx v (by simp)]
    split at e
    · rename_i ns h
      cases e; exact ⟨ns, h, q⟩
    · cases e
def allB (f : List Bool → Bool) (x : D) : Option Bool := match x with
  | .lst xs => match blsOf xs with
    | some ns => some (f ns)
    | none => none
  | _ => none
theorem ok_allB {f : List Bool → Bool} : ClOkB (dAllB f) (on1 (allB f)) := fun xs xs0 S d Q v e q => by
  obtain ⟨x0, x, rfl, v, e⟩ := on1_ok v e
  unfold dAllB
  cases x <;> simp only [allB, reduceCtorEq] at e
  simp only [vwx v (by simp)]
  split at e
  · rename_i ns h
    cases e; exact ⟨ns, h, q⟩
  · cases e
def allD := allB fun bs => bs.all id
def anyD := allB fun bs => bs.any id
theorem ok_all : ClOkB dAll (on1 allD) := ok_allB
theorem ok_any : ClOkB dAny (on1 anyD) := ok_allB
def ordD (x : D) : Option D := match x with
  | .str x => if x.length = 1 then some (.int (x.cps.getD 0 0 : Nat)) else none
  | _ => none
theorem ok_ord : ClOk dOrd (on1 ordD) := fun xs xs0 S d Q v e q => by
  obtain ⟨x0, x, rfl, v, e⟩ := on1_ok v e
  unfold dOrd
  cases x <;> simp only [ordD, reduceCtorEq] at e
  have := vw_flatD v rfl; subst this
  split at e
  · cases e; exact ⟨by assumption, q⟩
  · cases e
def isiD (x y : D) : Option Bool := match tyN x with
  | some a => match y with
    | .ty b => isaT a b
    | .tup cs => isaAny a cs
    | _ => none
  | none => none
theorem tyN_ref {x : D} {a : String} (h : tyN x = some a) : ∀ p, x ≠ .ref p := fun p e => by subst e; cases h
theorem ok_isi : ClOkB dIsi (on2 isiD) := fun xs xs0 S d Q v e q => by
  obtain ⟨x0, x, y0, y, rfl, v, w, e⟩ := on2_ok v e
  unfold isiD at e
  split at e
  · rename_i a ha
    have hv := vwx v (tyN_ref ha)
    split at e
    · rename_i b
      have hy : y0 = .ty b := vw_exact w (by simp) (by simp) (by simp)
      subst hy
      unfold dIsi
      simp only [hv, ha, e]; exact q
    · rename_i cs
      have hy : y0 = .tup cs := vw_exact w (by simp) (by simp) (by simp)
      subst hy
      unfold dIsi
      simp only [hv, ha, e]; exact q
    · cases e
  · cases e
/-! ### arguments by number -/
def ap1 (f : D → P D) : List D → P D
  | [a] => f a
  | _ => .bad
def ap2 (f : D → D → P D) : List D → P D
  | [a, b] => f a b
  | _ => .bad
def ap3 (f : D → D → D → P D) : List D → P D
  | [a, b, c] => f a b c
  | _ => .bad
def ap4 (f : D → D → D → D → P D) : List D → P D
  | [a, b, c, d] => f a b c d
  | _ => .bad
def ap5 (f : D → D → D → D → D → P D) : List D → P D
  | [a, b, c, d, e] => f a b c d e
  | _ => .bad
def ap6 (f : D → D → D → D → D → D → P D) : List D → P D
  | [a, b, c, d, e, g] => f a b c d e g
  | _ => .bad
theorem ar1 {f : D → P D} : Ar 1 (ap1 f) := fun ds h => by
  unfold ap1; split
  · exact absurd rfl h
  · rfl
theorem ar2 {f : D → D → P D} : Ar 2 (ap2 f) := fun ds h => by
  unfold ap2; split
  · exact absurd rfl h
  · rfl
theorem ar3 {f : D → D → D → P D} : Ar 3 (ap3 f) := fun ds h => by
  unfold ap3; split
  · exact absurd rfl h
  · rfl
theorem ar4 {f : D → D → D → D → P D} : Ar 4 (ap4 f) := fun ds h => by
  unfold ap4; split
  · exact absurd rfl h
  · rfl
theorem ar5 {f : D → D → D → D → D → P D} : Ar 5 (ap5 f) := fun ds h => by
  unfold ap5; split
  · exact absurd rfl h
  · rfl
theorem ar6 {f : D → D → D → D → D → D → P D} : Ar 6 (ap6 f) := fun ds h => by
  unfold ap6; split
  · exact absurd rfl h
  · rfl
end KM

set_option maxRecDepth 100000
set_option maxHeartbeats 4000000
/-! Km5: targets, what is walked, comprehensions, texts. -/
namespace KM
open PySem PySem.Spec PyProof.Rows L2 KD
/-! ### targets -/
def un2 {β : Type} (d : D) (k : D → D → β) (b : β) : β := match d with
  | .tup [x, y] => k x y
  | .lst [x, y] => k x y
  | _ => b
def un3 {β : Type} (d : D) (k : D → D → D → β) (b : β) : β := match d with
  | .tup [x, y, z] => k x y z
  | .lst [x, y, z] => k x y z
  | _ => b
def un4 {β : Type} (d : D) (k : D → D → D → D → β) (b : β) : β := match d with
  | .tup [x, y, z, w] => k x y z w
  | .lst [x, y, z, w] => k x y z w
  | _ => b
def mG2 (g h : MG) : MG := fun β d μ k b => un2 d (fun x y => g β x μ (fun μ1 => h β y μ1 k b) b) b
def mG3 (g h i : MG) : MG := fun β d μ k b => un3 d (fun x y z => g β x μ (fun μ1 => h β y μ1 (fun μ2 => i β z μ2 k b) b) b) b
def mG4 (g h i j : MG) : MG := fun β d μ k b => un4 d (fun x y z w => g β x μ (fun μ1 => h β y μ1 (fun μ2 => i β z μ2 (fun μ3 => j β w μ3 k b) b) b) b) b
theorem gok2 {g h : DTG} {m n : MG} {js ks : List Nat} (hg : GOk js g m) (hh : GOk ks h n) : GOk (js ++ (ks ++ [])) (dgTupG 2 (dgCons g (dgCons h dgNil))) (mG2 m n) := fun ax fx β d μ σ S k b Φ N r hb hk e => by
  have key : ∀ x y, Φ (m β x μ (fun μ1 => n β y μ1 k b) b) → dgCons g (dgCons h dgNil) [x, y] σ S N := fun x y e =>
    hg ax fx β x μ σ S _ b Φ _ r hb (fun μ1 σ1 r1 q1 e1 => hh ax fx β y μ1 σ1 S k b Φ _ r1 hb (fun μ2 σ2 r2 q2 e2 => ⟨rfl, hk μ2 σ2 r2 (fun w hw => by simp only [List.mem_append, not_or] at hw; rw [q2 w hw.2.1, q1 w hw.1]) e2⟩) e1) e
  unfold mG2 un2 at e
  split at e
  · exact ⟨rfl, key _ _ e⟩
  · exact ⟨rfl, key _ _ e⟩
  · exact absurd e hb
theorem gok3 {g h i : DTG} {m n o : MG} {js ks ls : List Nat} (hg : GOk js g m) (hh : GOk ks h n) (hi : GOk ls i o) : GOk (js ++ (ks ++ (ls ++ []))) (dgTupG 3 (dgCons g (dgCons h (dgCons i dgNil)))) (mG3 m n o) := fun ax fx β d μ σ S k b Φ N r hb hk e => by
  have key : ∀ x y z, Φ (m β x μ (fun μ1 => n β y μ1 (fun μ2 => o β z μ2 k b) b) b) → dgCons g (dgCons h (dgCons i dgNil)) [x, y, z] σ S N := fun x y z e =>
    hg ax fx β x μ σ S _ b Φ _ r hb (fun μ1 σ1 r1 q1 e1 => hh ax fx β y μ1 σ1 S _ b Φ _ r1 hb (fun μ2 σ2 r2 q2 e2 => hi ax fx β z μ2 σ2 S k b Φ _ r2 hb (fun μ3 σ3 r3 q3 e3 => ⟨rfl, hk μ3 σ3 r3 (fun w hw => by simp only [List.mem_append, not_or] at hw; rw [q3 w hw.2.2.1, q2 w hw.2.1, q1 w hw.1]) e3⟩) e2) e1) e
  unfold mG3 un3 at e
  split at e
  · exact ⟨rfl, key _ _ _ e⟩
  · exact ⟨rfl, key _ _ _ e⟩
  · exact absurd e hb
theorem gok4 {g h i j : DTG} {m n o p : MG} {js ks ls os : List Nat} (hg : GOk js g m) (hh : GOk ks h n) (hi : GOk ls i o) (hj : GOk os j p) : GOk (js ++ (ks ++ (ls ++ (os ++ [])))) (dgTupG 4 (dgCons g (dgCons h (dgCons i (dgCons j dgNil))))) (mG4 m n o p) := fun ax fx β d μ σ S k b Φ N r hb hk e => by
  have key : ∀ x y z w, Φ (m β x μ (fun μ1 => n β y μ1 (fun μ2 => o β z μ2 (fun μ3 => p β w μ3 k b) b) b) b) → dgCons g (dgCons h (dgCons i (dgCons j dgNil))) [x, y, z, w] σ S N := fun x y z w e =>
    hg ax fx β x μ σ S _ b Φ _ r hb (fun μ1 σ1 r1 q1 e1 => hh ax fx β y μ1 σ1 S _ b Φ _ r1 hb (fun μ2 σ2 r2 q2 e2 => hi ax fx β z μ2 σ2 S _ b Φ _ r2 hb (fun μ3 σ3 r3 q3 e3 => hj ax fx β w μ3 σ3 S k b Φ _ r3 hb (fun μ4 σ4 r4 q4 e4 => ⟨rfl, hk μ4 σ4 r4 (fun w hw => by simp only [List.mem_append, not_or] at hw; rw [q4 w hw.2.2.2.1, q3 w hw.2.2.1, q2 w hw.2.1, q1 w hw.1]) e4⟩) e3) e2) e1) e
  unfold mG4 un4 at e
  split at e
  · exact ⟨rfl, key _ _ _ _ e⟩
  · exact ⟨rfl, key _ _ _ _ e⟩
  · exact absurd e hb
def mAsg (g : MG) (e : MC) : MS := fun β z μ => e β μ (fun d μ1 => g β d μ1 z.nx z.bad) z.ex z.bad
def mPar (i j : Nat) (a b : MC) : MS := fun β z μ => a β μ (fun x μ1 => b β μ1 (fun y μ2 => setS i (.v x) μ2 (fun μ3 => setS j (.v y) μ3 z.nx z.bad) z.bad) z.ex z.bad) z.ex z.bad
def mPar3 (i j l : Nat) (a b c : MC) : MS := fun β z μ => a β μ (fun x μ1 => b β μ1 (fun y μ2 => c β μ2 (fun w μ3 => setS i (.v x) μ3 (fun μ4 => setS j (.v y) μ4 (fun μ5 => setS l (.v w) μ5 z.nx z.bad) z.bad) z.bad) z.ex z.bad) z.ex z.bad) z.ex z.bad
def augD (f : D → D → Option D) (i : Nat) (e : MC) : MS := fun β z μ => gotO (lookE μ i) (fun x => e β μ (fun y μ1 => gotO (f x y) (fun w => setS i (.v w) μ1 z.nx z.bad) z.bad) z.ex z.bad) z.bad
section
variable {C : Str → Addr} {ax : Ax} {X : Cx} {W : WX} {a b c e : Expr} {ma mb mc : MC} {pos : Pos} {st : Stmt}
theorem xs_asg {g : DTG} {m : MG} {js : List Nat} (hg : GOk js g m) (h : DS X W st (dAsg (rdC C ax ma) g)) : XS C ax X W st (mAsg m ma) := dsI h fun Z σ S ⟨fx, μ, β, z, Φ, r, o, h⟩ =>
  ⟨fx, μ, β, _, z.ex, z.bad, Φ, r, o.kok fun d μ1 S1 r1 h1 => hg ax fx β d μ1 σ S1 z.nx z.bad Φ _ r1 o.bad (fun μ2 σ2 r2 _ h2 => o.nx μ2 σ2 S1 r2 h2) h1, h⟩
theorem xs_par {i j : Nat} (h : DS X W st (dPar i j (dCons (rdC C ax ma) (dCons (rdC C ax mb) dNil)))) : XS C ax X W st (mPar i j ma mb) := dsI h fun Z σ S ⟨fx, μ, β, z, Φ, r, o, h⟩ =>
  ⟨fx, μ, β, _, z.ex, z.bad, Φ, r, o.kok fun x μ1 S1 r1 h1 => ⟨fx, μ1, β, _, z.ex, z.bad, Φ, r1, o.kok fun y μ2 S2 r2 h2 => by
    obtain ⟨h3, u, q1, q2, q3⟩ := setS_ok h2 o.bad
    obtain ⟨h4, u', q4, q5, q6⟩ := setS_ok h3 o.bad
    exact o.nx _ _ S2 ((r2.setV x q2 q1 q3).setV y q5 q4 q6) h4, h1⟩, h⟩
theorem xs_par3 {i j l : Nat} (h : DS X W st (dPar3 i j l (dCons (rdC C ax ma) (dCons (rdC C ax mb) (dCons (rdC C ax mc) dNil))))) : XS C ax X W st (mPar3 i j l ma mb mc) := dsI h fun Z σ S ⟨fx, μ, β, z, Φ, r, o, h⟩ =>
  ⟨fx, μ, β, _, z.ex, z.bad, Φ, r, o.kok fun x μ1 S1 r1 h1 => ⟨fx, μ1, β, _, z.ex, z.bad, Φ, r1, o.kok fun y μ2 S2 r2 h2 => ⟨fx, μ2, β, _, z.ex, z.bad, Φ, r2, o.kok fun w μ3 S3 r3 h3 => by
    obtain ⟨h4, u, q1, q2, q3⟩ := setS_ok h3 o.bad
    obtain ⟨h5, u', q4, q5, q6⟩ := setS_ok h4 o.bad
    obtain ⟨h6, u'', q7, q8, q9⟩ := setS_ok h5 o.bad
    exact o.nx _ _ S3 (((r3.setV x q2 q1 q3).setV y q5 q4 q6).setV w q8 q7 q9) h6, h2⟩, h1⟩, h⟩
theorem xs_aug {i : Nat} {q : D → D → Sto → DK → Prop} {f : D → D → Option D} (hf : OpOk q f) (h : DS X W st (dAug i (rdC C ax ma) q)) : XS C ax X W st (augD f i ma) := dsI h fun Z σ S ⟨fx, μ, β, z, Φ, r, o, h⟩ => by
  obtain ⟨x, e, h⟩ := gotO_ok h o.bad
  have hx : σ[i]? = some (some x) := by
    obtain ⟨A, a⟩ := r
    unfold lookE at e
    split at e
    · exact slot_look (a.slot i _ (by assumption)) e
    · cases e
  unfold dAug
  rw [hx]
  refine ⟨fx, μ, β, _, z.ex, z.bad, Φ, r, o.kok fun y μ1 S1 r1 h1 => ?_, h⟩
  obtain ⟨w, e, h2⟩ := gotO_ok h1 o.bad
  obtain ⟨h3, u, q1, q2, q3⟩ := setS_ok h2 o.bad
  exact hf x y x y S1 w _ (.inl rfl) (.inl rfl) e (o.nx _ _ S1 (r1.setV w q2 q1 q3) h3)
end
/-! ### what is walked -/
def iterD : D → Option (List D)
  | .lst xs => some xs
  | .tup xs => some xs
  | .str z => some (signs z)
  | .scr ns => some (ns.map .int)
  | .dic kvs => some (kvs.map fun kv => kD kv.1)
  | _ => none
def rng1 (x : D) : Option (List D) := match x with
  | .int j => if -4611686018427387904 ≤ j ∧ j < 4611686018427387904 then some (rangeD 0 j.toNat) else none
  | _ => none
def rng2 (x y : D) : Option (List D) := match x, y with
  | .int i, .int j => if -4611686018427387904 ≤ i ∧ i < 4611686018427387904 ∧ -4611686018427387904 ≤ j ∧ j < 4611686018427387904 then some (rangeD i (j - i).toNat) else none
  | _, _ => none
def enumI (x : D) : Option (List D) := match itemsOf x with
  | some xs => some (enumD xs)
  | none => none
def zipI (x y : D) : Option (List D) := match itemsOf x, itemsOf y with
  | some xs, some ys => some (zipD xs ys)
  | _, _ => none
def mIt1 (f : D → Option (List D)) (a : Env → P D) : Env → P (List D) := fun μ => bind (a μ) fun x => opt (f x)
def mIt2 (f : D → D → Option (List D)) (a b : Env → P D) : Env → P (List D) := fun μ => bind (a μ) fun x => bind (b μ) fun y => opt (f x y)
section
variable {C : Str → Addr} {ax : Ax} {X : Cx} {W : WX} {a b e tg : Expr} {ma mb : Env → P D} {pos : Pos}
theorem xi_any (h : XE C ax X W e ma) : XI C ax X W tg e (mIt1 iterD ma) := diI (di_any h) fun E σ S Q ⟨fx, μ, r, p⟩ => by
  unfold mIt1 at p; rw [post_bind] at p
  refine ⟨fx, μ, r, post_mono (fun x p => ?_) p⟩
  obtain ⟨xs, e, q⟩ := post_opt p
  cases x <;> simp only [iterD, reduceCtorEq, Option.some.injEq] at e <;> (subst e; exact q)
theorem xi_range1 {p : Pos} (hg : Gl X "range") (hm : X.mg "range" = none) (ha : XE C ax X W a ma) (hs : starEach [a] X.env = [(false, eval a X.env)] := by rfl) (hs' : starEach [a] X.env = (false, eval a X.env) :: starEach [] X.env := by rfl) : XI C ax X W tg (.Call (.Name "range" p) [a] [] pos) (mIt1 rng1 ma) :=
  diI (di_range1 hg hm (da_cons ha da_nil hs') hs) fun E σ S Q ⟨fx, μ, r, p⟩ => by
    unfold mIt1 at p; rw [post_bind] at p
    refine ⟨fx, μ, r, post_mono (fun x p => ?_) p⟩
    obtain ⟨xs, e, q⟩ := post_opt p
    cases x <;> simp only [rng1, reduceCtorEq] at e
    split at e
    · rename_i c
      cases e; exact ⟨by omega, by omega, q⟩
    · cases e
theorem xi_range2 {p : Pos} (hg : Gl X "range") (hm : X.mg "range" = none) (ha : XE C ax X W a ma) (hb : XE C ax X W b mb) (hs : starEach [a, b] X.env = [(false, eval a X.env), (false, eval b X.env)] := by rfl) (hs2 : starEach [b] X.env = [(false, eval b X.env)] := by rfl)
    (hs' : starEach [a, b] X.env = (false, eval a X.env) :: starEach [b] X.env := by rfl) (hs'' : starEach [b] X.env = (false, eval b X.env) :: starEach [] X.env := by rfl) : XI C ax X W tg (.Call (.Name "range" p) [a, b] [] pos) (mIt2 rng2 ma mb) :=
  diI (di_range2 hg hm (da_cons ha (da_cons hb da_nil hs'') hs') hs hs2) fun E σ S Q ⟨fx, μ, r, p⟩ => by
    unfold mIt2 at p; rw [post_bind] at p
    refine ⟨fx, μ, r, post_mono (fun x p => ?_) p⟩
    rw [post_bind] at p
    refine ⟨fx, μ, r, post_mono (fun y p => ?_) p⟩
    obtain ⟨xs, e, q⟩ := post_opt p
    cases x <;> cases y <;> simp only [rng2, reduceCtorEq] at e
    split at e
    · rename_i c
      cases e; exact ⟨⟨by omega, by omega, by omega, by omega⟩, q⟩
    · cases e
theorem xi_enum {p tpos : Pos} {elts : List Expr} {kk : Nat} (hg : Gl X "enumerate") (hm : X.mg "enumerate" = none) (ha : XE C ax X W a ma) (hs : starEach [a] X.env = [(false, eval a X.env)] := by rfl) (hs' : starEach [a] X.env = (false, eval a X.env) :: starEach [] X.env := by rfl) : XI C ax X W (.Tuple elts kk tpos) (.Call (.Name "enumerate" p) [a] [] pos) (mIt1 enumI ma) :=
  diI (di_enum hg hm (da_cons ha da_nil hs') hs) fun E σ S Q ⟨fx, μ, r, p⟩ => by
    unfold mIt1 at p; rw [post_bind] at p
    refine ⟨fx, μ, r, post_mono (fun x p => ?_) p⟩
    obtain ⟨xs, e, q⟩ := post_opt p
    unfold enumI at e
    split at e
    · rename_i ys h
      cases e
      show match itemsOf x with | some xs => Q (enumD xs) S | none => False
      rw [h]; exact q
    · cases e
theorem xi_zip {p tpos : Pos} {elts : List Expr} {kk : Nat} (hg : Gl X "zip") (hm : X.mg "zip" = none) (ha : XE C ax X W a ma) (hb : XE C ax X W b mb) (hs' : starEach [a, b] X.env = (false, eval a X.env) :: starEach [b] X.env := by rfl) (hs'' : starEach [b] X.env = (false, eval b X.env) :: starEach [] X.env := by rfl)
    (hpl : (backTo pos (starEach [b] X.env)).any (·.1) = false := by rfl) : XI C ax X W (.Tuple elts kk tpos) (.Call (.Name "zip" p) [a, b] [] pos) (mIt2 zipI ma mb) :=
  diI (di_zip hg hm (da_cons ha (da_cons hb da_nil hs'') hs') hs' hpl) fun E σ S Q ⟨fx, μ, r, p⟩ => by
    unfold mIt2 at p; rw [post_bind] at p
    refine ⟨fx, μ, r, post_mono (fun x p => ?_) p⟩
    rw [post_bind] at p
    refine ⟨fx, μ, r, post_mono (fun y p => ?_) p⟩
    obtain ⟨xs, e, q⟩ := post_opt p
    unfold zipI at e
    split at e
    · rename_i ys zs h1 h2
      cases e
      show match itemsOf x, itemsOf y with | some xs, some ys => Q (zipD xs ys) S | _, _ => False
      rw [h1, h2]; exact q
    · cases e
end
/-! ### comprehensions -/
def noer {α : Type} (x : P α) : P α := match x with
  | .er _ _ _ => .bad
  | y => y
def lcR (f : D → P (Option D)) : List D → P (List D)
  | [] => .ok [] ()
  | x :: xs => bind (f x) fun o => bind (lcR f xs) fun ys => match o with
    | some d => .ok (d :: ys) ()
    | none => .ok ys ()
def mapR (f : D → P D) : List D → P (List D)
  | [] => .ok [] ()
  | x :: xs => bind (f x) fun d => bind (mapR f xs) fun ys => .ok (d :: ys) ()
def chkR (x : P (List D)) : P (List D) := match x with
  | .ok ys _ => guard (sizeB ys.length) (.ok ys ()) .bad
  | _ => .bad
def mLc (K : List Nat) (it : Env → P (List D)) (g : MG) (t : Env → P Bool) (e : Env → P D) : Env → P (List D) := fun μ => guard (freeK K μ)
  (bind (it μ) fun xs => chkR (lcR (fun x => g _ x (killK K μ) (fun μ1 => bind (noer (t μ1)) fun b => if b then bind (noer (e μ1)) fun d => .ok (some d) () else .ok none ()) .bad) xs)) .bad
def mLcM (K : List Nat) (it : Env → P (List D)) (g : MG) (e : Env → P D) : Env → P (List D) := fun μ => guard (freeK K μ)
  (bind (it μ) fun xs => chkR (mapR (fun x => g _ x (killK K μ) (fun μ1 => noer (e μ1)) .bad) xs)) .bad
def rdTs (C : Str → Addr) (ax : Ax) (m : Env → P Bool) : DTT := fun E σ S Q => ∃ fx μ, Rel ax fx μ σ S ∧ post C E S (fun b => Q b S) (noer (m μ))
def rdEs (C : Str → Addr) (ax : Ax) (m : Env → P D) : DTE := fun E σ S Q => ∃ fx μ, Rel ax fx μ σ S ∧ post C E S (fun d => Q d S) (noer (m μ))
section
variable {C : Str → Addr} {ax : Ax} {fx : Fx} {σ : DSt} {S : Sto} {μ : Env} {K : List Nat}
theorem noer_ok {α : Type} {x : P α} {E E' : DEr} {Q : α → Prop} (h : post C E S Q (noer x)) : post C E' S Q x := by
  cases x with
  | ok a s => exact h
  | er c fs s => exact h.elim
  | bad => exact h
theorem Rel.kill : ∀ {K : List Nat}, Rel ax fx μ σ S → freeK K μ = true → Rel ax fx (killK K μ) (dwipe σ K) S
  | [], r, _ => r
  | i :: K, r, h => by
    rw [freeK, Bool.and_eq_true] at h
    obtain ⟨s, h1, h2, h3⟩ := freeS_ok h.1
    have key : ∀ t, (killK K μ)[i]? = some t → t = .un ∨ t = s := fun t e => by
      rcases kill_get e with e | ⟨_, e⟩
      · exact .inl e
      · rw [h1] at e; exact .inr (Option.some.inj e).symm
    refine (r.kill (K := K) h.2).setUn (o := none) (fun t e => ?_) (fun t e => ?_)
    · rcases key _ e with z | z
      · cases z
      · exact h2 t z.symm
    · rcases key _ e with rfl | rfl
      · rfl
      · exact h3
theorem bind_ok {α β : Type} {x : P α} {k : α → P β} {b : β} {s : Unit} (h : bind x k = .ok b s) : ∃ a, x = .ok a () ∧ k a = .ok b s := by
  cases x with
  | ok a u => exact ⟨a, rfl, h⟩
  | er c fs u => cases h
  | bad => cases h
theorem noer_eq {α : Type} {x : P α} {a : α} (h : noer x = .ok a ()) : x = .ok a () := by
  cases x with
  | ok b s => exact h
  | er c fs s => cases h
  | bad => cases h
theorem lc_ok {g : DTG} {m : MG} {t : Env → P Bool} {e : Env → P D} {js : List Nat} (hg : GOk js g m) (r : Rel ax fx (killK K μ) (dwipe σ K) S) {Q : List D → Sto → Prop} : ∀ (xs acc ys : List D),
    lcR (fun x => m _ x (killK K μ) (fun μ1 => bind (noer (t μ1)) fun b => if b then bind (noer (e μ1)) fun d => .ok (some d) () else .ok none ()) .bad) xs = .ok ys () → acc.length + ys.length ≤ sizeLine → Q (acc ++ ys) S → dLcGo g (rdT C ax t) (rdE C ax e) (dwipe σ K) Q xs S acc
  | [], acc, ys, h, hl, q => by
    cases h
    rw [List.append_nil] at q; exact q
  | x :: xs, acc, ys, h, hl, q => by
    unfold lcR at h
    obtain ⟨o, h1, h⟩ := bind_ok h
    obtain ⟨zs, h2, h⟩ := bind_ok h
    refine hg ax fx (P (Option D)) x (killK K μ) (dwipe σ K) S _ .bad (fun y => y = .ok o ()) _ r (fun z => by cases z) (fun μ1 σ1 r1 _ h3 => ?_) h1
    obtain ⟨b, h4, h3⟩ := bind_ok h3
    refine ⟨fx, μ1, r1, ?_⟩
    rw [noer_eq h4]
    cases b with
    | true =>
      rw [if_pos rfl] at h3
      obtain ⟨d, h5, h3⟩ := bind_ok h3
      simp only [post, if_true]
      cases h3
      cases h
      refine ⟨fx, μ1, r1, ?_⟩
      rw [noer_eq h5]
      rw [List.length_cons] at hl
      exact ⟨by omega, lc_ok hg r xs (acc ++ [d]) zs h2 (by rw [List.length_append, List.length_singleton]; omega) (by rw [List.append_assoc]; exact q)⟩
    | false =>
      rw [if_neg Bool.false_ne_true] at h3
      simp only [post, if_neg Bool.false_ne_true]
      cases h3
      cases h
      exact lc_ok hg r xs acc ys h2 hl q
theorem chk_ok {x : P (List D)} {E : DEr} {Q : List D → Prop} (h : post C E S Q (chkR x)) : ∃ ys, x = .ok ys () ∧ ys.length ≤ sizeLine ∧ Q ys := by
  cases x with
  | ok ys s =>
    cases c : sizeB ys.length with
    | true => simp only [chkR, c, guard] at h; exact ⟨ys, rfl, size_dec c, h⟩
    | false => simp only [chkR, c, guard] at h; exact h.elim
  | er c fs s => exact h.elim
  | bad => exact h.elim
theorem map_lc {f : D → P D} : ∀ {xs ys : List D}, mapR f xs = .ok ys () → lcR (fun x => bind (f x) fun d => .ok (some d) ()) xs = .ok ys ()
  | [], _, h => h
  | x :: xs, ys, h => by
    unfold mapR at h
    obtain ⟨d, h1, h⟩ := bind_ok h
    obtain ⟨zs, h2, h⟩ := bind_ok h
    unfold lcR
    rw [h1]
    show bind (lcR _ xs) _ = _
    rw [map_lc h2]; exact h
/-- the reading of a comprehension -/
theorem lc_post {g : DTG} {m : MG} {it : Env → P (List D)} {t : Env → P Bool} {e : Env → P D} {js : List Nat} (hg : GOk js g m) {E : DEr} {Q : List D → Sto → Prop} (r : Rel ax fx μ σ S) (h : post C E S (fun ys => Q ys S) (mLc K it m t e μ)) : dLcL (rdI C ax it) g (rdT C ax t) (rdE C ax e) K E σ S Q := by
  unfold mLc at h
  obtain ⟨hf, h⟩ := guard_ok (Φ := post C E S fun ys => Q ys S) h id
  rw [post_bind] at h
  refine ⟨fx, μ, r, post_mono (fun xs h => ?_) h⟩
  obtain ⟨ys, h1, h2, q⟩ := chk_ok h
  exact lc_ok hg (r.kill hf) xs [] ys h1 (by simpa using h2) q
theorem lcM_post {g : DTG} {m : MG} {it : Env → P (List D)} {e : Env → P D} {js : List Nat} (hg : GOk js g m) {E : DEr} {Q : List D → Sto → Prop} (r : Rel ax fx μ σ S) (h : post C E S (fun ys => Q ys S) (mLcM K it m e μ)) : dLcL (rdI C ax it) g dYes (rdE C ax e) K E σ S Q := by
  unfold mLcM at h
  obtain ⟨hf, h⟩ := guard_ok (Φ := post C E S fun ys => Q ys S) h id
  rw [post_bind] at h
  refine ⟨fx, μ, r, post_mono (fun xs h => ?_) h⟩
  obtain ⟨ys, h1, h2, q⟩ := chk_ok h
  have r' := r.kill hf
  have key : ∀ (xs acc ys : List D), mapR (fun x => m _ x (killK K μ) (fun μ1 => noer (e μ1)) .bad) xs = .ok ys () → acc.length + ys.length ≤ sizeLine → Q (acc ++ ys) S → dLcGo g dYes (rdE C ax e) (dwipe σ K) Q xs S acc := by
    intro xs
    induction xs with
    | nil =>
      intro acc ys h hl q
      cases h
      rw [List.append_nil] at q; exact q
    | cons x xs ih =>
      intro acc ys h hl q
      unfold mapR at h
      obtain ⟨d, h1, h⟩ := bind_ok h
      obtain ⟨zs, h2, h⟩ := bind_ok h
      cases h
      refine hg ax fx (P D) x (killK K μ) (dwipe σ K) S _ .bad (fun y => y = .ok d ()) _ r' (fun z => by cases z) (fun μ1 σ1 r1 _ h3 => ?_) h1
      simp only [dYes, if_true]
      refine ⟨fx, μ1, r1, ?_⟩
      rw [noer_eq h3]
      rw [List.length_cons] at hl
      exact ⟨by omega, ih (acc ++ [d]) zs h2 (by rw [List.length_append, List.length_singleton]; omega) (by rw [List.append_assoc]; exact q)⟩
  exact key xs [] ys h1 (by simpa using h2) q
end
section
variable {C : Str → Addr} {ax : Ax} {X : Cx} {W : WX} {e : Expr} {pos : Pos} {st : Stmt} {K : List Nat} {it : Env → P (List D)} {g : DTG} {m : MG} {t : Env → P Bool} {me : Env → P D}
theorem xe_lc {js : List Nat} (hg : GOk js g m) (h : DE X W e (dLc (rdI C ax it) g (rdT C ax t) (rdE C ax me) K)) : XE C ax X W e (fun μ => bind (mLc K it m t me μ) fun ys => .ok (.lst ys) ()) := deI h fun E σ S Q ⟨fx, μ, r, p⟩ => by
  rw [post_bind] at p
  exact lc_post hg (Q := fun ys S => Q (.lst ys) S) r p
theorem xe_lcM {js : List Nat} (hg : GOk js g m) (h : DE X W e (dLc (rdI C ax it) g dYes (rdE C ax me) K)) : XE C ax X W e (fun μ => bind (mLcM K it m me μ) fun ys => .ok (.lst ys) ()) := deI h fun E σ S Q ⟨fx, μ, r, p⟩ => by
  rw [post_bind] at p
  exact lcM_post hg (Q := fun ys S => Q (.lst ys) S) r p
theorem xf_lc {js : List Nat} (hg : GOk js g m) (h : DE X W e (dLcM (rdI C ax it) g (rdT C ax t) (rdE C ax me) K)) : XF C ax X W e (mLc K it m t me) := deI h fun E σ S Q ⟨fx, μ, r, p⟩ => lc_post hg (Q := fun ys S => ∀ p, S p = none → Q (.ref p) (put S p (.lst ys))) r p
theorem xf_lcM {js : List Nat} (hg : GOk js g m) (h : DE X W e (dLcM (rdI C ax it) g dYes (rdE C ax me) K)) : XF C ax X W e (mLcM K it m me) := deI h fun E σ S Q ⟨fx, μ, r, p⟩ => lcM_post hg (Q := fun ys S => ∀ p, S p = none → Q (.ref p) (put S p (.lst ys))) r p
/-! y = [..] as one statement -/
theorem xs_setLc {i : Nat} {js : List Nat} (hg : GOk js g m) (h : DS X W st (dAsg (dLc (rdI C ax it) g (rdT C ax t) (rdE C ax me) K) (dgName i))) : XS C ax X W st (mSet i (mPure fun μ => bind (mLc K it m t me μ) fun ys => .ok (.lst ys) ())) := xs_set (dsI h fun Z σ S ⟨fx, μ, β, k, ex, bd, Φ, r, z, h⟩ => by
  have p := got_ok h r z
  rw [post_bind] at p
  exact lc_post hg (Q := fun ys S => dgName i (.lst ys) σ S Z.nx) r (post_mono (fun ys q => z.k _ μ S r q) p))
theorem xs_setLcM {i : Nat} {js : List Nat} (hg : GOk js g m) (h : DS X W st (dAsg (dLc (rdI C ax it) g dYes (rdE C ax me) K) (dgName i))) : XS C ax X W st (mSet i (mPure fun μ => bind (mLcM K it m me μ) fun ys => .ok (.lst ys) ())) := xs_set (dsI h fun Z σ S ⟨fx, μ, β, k, ex, bd, Φ, r, z, h⟩ => by
  have p := got_ok h r z
  rw [post_bind] at p
  exact lcM_post hg (Q := fun ys S => dgName i (.lst ys) σ S Z.nx) r (post_mono (fun ys q => z.k _ μ S r q) p))
theorem xs_setFLc {i : Nat} {js : List Nat} (hg : GOk js g m) (h : DS X W st (dAsg (dLcM (rdI C ax it) g (rdT C ax t) (rdE C ax me) K) (dgName i))) : XS C ax X W st (mSetL i (mLc K it m t me)) := xs_setL (dsI h fun Z σ S ⟨fx, μ, r, p⟩ => lc_post hg (Q := fun ys S => ∀ p, S p = none → dgName i (.ref p) σ (put S p (.lst ys)) Z.nx) r p)
theorem xs_setFLcM {i : Nat} {js : List Nat} (hg : GOk js g m) (h : DS X W st (dAsg (dLcM (rdI C ax it) g dYes (rdE C ax me) K) (dgName i))) : XS C ax X W st (mSetL i (mLcM K it m me)) := xs_setL (dsI h fun Z σ S ⟨fx, μ, r, p⟩ => lcM_post hg (Q := fun ys S => ∀ p, S p = none → dgName i (.ref p) σ (put S p (.lst ys)) Z.nx) r p)
end
end KM

set_option maxRecDepth 100000
set_option maxHeartbeats 4000000
/-! Km6: comprehensions whose elements change what a slot holds; a, b, c = x, y, []; texts joined. -/
namespace KM
open PySem PySem.Spec PyProof.Rows L2 KD
def lcS {α : Type} (f : D → α → R α (Option D)) : List D → α → R α (List D)
  | [], a => .ok [] a
  | x :: xs, a => match f x a with
    | .ok o b => match lcS f xs b with
      | .ok ys c => match o with
        | some d => .ok (d :: ys) c
        | none => .ok ys c
      | _ => .bad
    | _ => .bad
/-- one turn -/
def turnS (I : Js) (K : List Nat) (g : MG) (t : MT) (e : MC) (μ : Env) (x : D) (s : T I) : R (T I) (Option D) :=
  g _ x (headE I K μ s) (fun μ1 => t _ μ1 (fun b μ2 => if b then e _ μ2 (fun d μ3 => getJ I μ3 (fun s' => .ok (some d) s') .bad) (fun _ _ _ => .bad) .bad else getJ I μ2 (fun s' => .ok none s') .bad) (fun _ _ _ => .bad) .bad) .bad
def mLcC (I : Js) (K : List Nat) (it : Env → P (List D)) (g : MG) (t : MT) (e : MC) : (β : Type) → Env → (List D → Env → β) → (Str → Flds → Env → β) → β → β := fun β μ k ex b => guard (okB I I K μ)
  (got (it μ) (fun xs _ => getJ I μ (fun s0 => got (lcS (turnS I K g t e μ) xs s0) (fun ys s => guard (sizeB ys.length) (k ys (setJ I s (killK K μ))) b) (fun _ _ _ => b) b) b) (fun c fs _ => ex c fs μ) b) b
def mYesT : MT := fun β μ k ex b => k true μ
def mLcD (m : (β : Type) → Env → (List D → Env → β) → (Str → Flds → Env → β) → β → β) : MC := fun β μ k ex b => m β μ (fun ys μ1 => k (.lst ys) μ1) ex b
def mLcL (i : Nat) (m : (β : Type) → Env → (List D → Env → β) → (Str → Flds → Env → β) → β → β) : MS := fun β z μ => m β μ (fun ys μ1 => setS i (.l false ys) μ1 z.nx z.bad) z.ex z.bad
section
variable {C : Str → Addr} {ax : Ax} {fx : Fx} {σ σ' : DSt} {S : Sto} {μ μ' : Env} {I : Js} {K : List Nat}
theorem Rel.resig (r : Rel ax fx μ σ S) (hl : σ'.length = σ.length) (h : ∀ (i : Nat) (s : SV), μ[i]? = some s → s = SV.un ∨ σ'[i]? = σ[i]?) : Rel ax fx μ σ' S := by
  obtain ⟨A, a⟩ := r
  refine ⟨A, a.lenμ, hl.trans a.lenσ, fun i s e => ?_, a.inj, a.new, a.ext, a.fr, a.io, a.oi, a.tb⟩
  rcases h i s e with rfl | h
  · trivial
  · exact slot_same h rfl (fun _ _ => rfl) (a.slot i s e)
theorem dwipe_ne : ∀ {K : List Nat} {i : Nat}, i ∉ K → (dwipe σ K)[i]? = σ[i]?
  | [], _, _ => rfl
  | j :: r, i, h => by
    simp only [List.mem_cons, not_or] at h
    rw [dwipe, List.getElem?_set_ne (fun z => h.1 z.symm), dwipe_ne h.2]
theorem dwipe_len : ∀ {K : List Nat}, (dwipe σ K).length = σ.length
  | [] => rfl
  | j :: r => by rw [dwipe, List.length_set, dwipe_len]
theorem head_un {s : T I} {i : Nat} {u : SV} (hK : i ∈ K) (hI : i ∉ ixJ I) (h : (headE I K μ s)[i]? = some u) : u = .un := by
  unfold headE at h
  rw [setJ_ne hI] at h
  rcases kill_get h with h | ⟨c, _⟩
  · exact h
  · exact absurd hK c
/-- the walk of a comprehension that changes I -/
theorem lcS_ok {g : DTG} {m : MG} {t : MT} {e : MC} {js : List Nat} (hg : GOk js g m) (hj : ∀ j ∈ js, j ∈ K) (hd : ∀ i ∈ K, i ∉ ixJ I) (r : Rel ax fx μ σ S) (ok : OkB I I K μ) {Q : List D → Sto → Prop} : ∀ (xs acc ys : List D) (s s' : T I) (S1 : Sto),
    Rel ax (fx.inn (ixJ I ++ K) μ) (headE I K μ s) (dwipe σ K) S1 → lcS (turnS I K m t e μ) xs s = .ok ys s' → acc.length + ys.length ≤ sizeLine →
    (∀ S2, Rel ax (fx.inn (ixJ I ++ K) μ) (headE I K μ s') (dwipe σ K) S2 → Q (acc ++ ys) S2) → dLcGo g (rdCT C ax t) (rdC C ax e) (dwipe σ K) Q xs S1 acc
  | [], acc, ys, s, s', S1, r1, h, hl, q => by
    cases h
    have := q S1 r1
    rw [List.append_nil] at this; exact this
  | x :: xs, acc, ys, s, s', S1, r1, h, hl, q => by
    unfold lcS at h
    cases h1 : turnS I K m t e μ x s with
    | er c fs b => rw [h1] at h; cases h
    | bad => rw [h1] at h; cases h
    | ok o b =>
      rw [h1] at h
      cases h2 : lcS (turnS I K m t e μ) xs b with
      | er c fs b => simp only [h2] at h; cases h
      | bad => simp only [h2] at h; cases h
      | ok zs c =>
        simp only [h2] at h
        have back : ∀ μ2 σ2 S2, Rel ax (fx.inn (ixJ I ++ K) μ) μ2 σ2 S2 → (∀ j, j ∉ js → σ2[j]? = (dwipe σ K)[j]?) → Told I b μ2 → Rel ax (fx.inn (ixJ I ++ K) μ) (headE I K μ b) (dwipe σ K) S2 := fun μ2 σ2 S2 r2 hσ hT => by
          have l1 : (dwipe σ K).length = σ2.length := by
            obtain ⟨_, a1⟩ := r1
            obtain ⟨_, a2⟩ := r2
            rw [a1.lenσ, a2.lenσ]
          refine (r.head ok r2 hT).resig l1 fun i u e => ?_
          by_cases c : i ∈ js
          · exact .inl (head_un (hj i c) (hd i (hj i c)) e)
          · exact .inr (hσ i c).symm
        unfold turnS at h1
        let Φ : R (T I) (Option D) → Prop := fun y => y = .ok o b
        have nb : ¬ Φ .bad := fun z => by cases z
        refine hg ax _ _ x _ _ S1 _ .bad Φ _ r1 nb (fun μ1 σ1 r2 hσ h3 => ?_) h1
        refine ⟨_, μ1, _, _, _, _, Φ, r2, ⟨nb, fun c' μ2 S2 r3 h4 => ?_, (fun c' fs μ2 S2 _ z => by cases z)⟩, h3⟩
        cases c' with
        | true =>
          rw [if_pos rfl] at h4 ⊢
          refine ⟨_, μ2, _, _, _, _, Φ, r3, ⟨nb, fun d μ3 S3 r4 h5 => ?_, (fun c' fs μ2 S2 _ z => by cases z)⟩, h4⟩
          obtain ⟨b', h5, told⟩ := getJ_ok (Φ := Φ) h5 nb
          cases h5
          cases h
          rw [List.length_cons] at hl
          exact ⟨by omega, lcS_ok hg hj hd r ok xs (acc ++ [d]) zs b _ S3 (back μ3 σ1 S3 r4 hσ (told_get told)) h2 (by rw [List.length_append, List.length_singleton]; omega) (fun S4 r5 => by rw [List.append_assoc]; exact q S4 r5)⟩
        | false =>
          rw [if_neg Bool.false_ne_true] at h4 ⊢
          obtain ⟨b', h5, told⟩ := getJ_ok (Φ := Φ) h4 nb
          cases h5
          cases h
          exact lcS_ok hg hj hd r ok xs acc _ b _ S2 (back μ2 σ1 S2 r3 hσ (told_get told)) h2 hl q
theorem lcC_post {g : DTG} {m : MG} {t : MT} {e : MC} {js : List Nat} {it : Env → P (List D)} (hg : GOk js g m) (hj : ∀ j ∈ js, j ∈ K) (hd : ∀ i ∈ K, i ∉ ixJ I) {E : DEr} {Q : List D → Sto → Prop} {β : Type} {k : List D → Env → β} {ex : Str → Flds → Env → β} {bd : β} {Φ : β → Prop}
    (r : Rel ax fx μ σ S) (z : KOk C ax fx E σ k ex bd Q Φ) (h : Φ (mLcC I K it m t e β μ k ex bd)) : dLcL (rdI C ax it) g (rdCT C ax t) (rdC C ax e) K E σ S Q := by
  obtain ⟨hf, h⟩ := guard_ok h z.bad
  have ok := okB_ok hf
  refine ⟨fx, μ, r, post_mono (fun xs h' => ?_) (got_ok (C := C) (E := E) (Q := fun _ _ => True) (k := fun xs μ' => getJ I μ (fun s0 => got (lcS (turnS I K m t e μ) xs s0) (fun ys s => guard (sizeB ys.length) (k ys (setJ I s (killK K μ))) bd) (fun _ _ _ => bd) bd) bd) h r (z.to fun _ _ _ _ _ => trivial))⟩
  obtain ⟨s0, h', q⟩ := getJ_ok (Φ := Φ) h' z.bad
  have told : Told I s0 (protN (ixJ I ++ K) 0 μ) := fun ν i s' hl e => by
    rcases q ν i s' e with e1 | e1
    · exact .inl e1
    · by_cases c : i ∈ ixJ I
      · refine .inr ?_
        rw [prot_get, e1]
        have : (ixJ I ++ K).contains (0 + i) = true := by rw [Nat.zero_add]; simp [c]
        simp only [Option.map_some, this, if_true]
      · rw [setJ_ne c] at e; exact .inl ⟨c, e⟩
  have r0 : Rel ax (fx.inn (ixJ I ++ K) μ) (headE I K μ s0) (dwipe σ K) S := (r.head ok (r.inn _) told).resig dwipe_len fun i u e => by
    by_cases c : i ∈ K
    · exact .inl (head_un c (hd i c) e)
    · exact .inr (dwipe_ne c)
  cases h1 : lcS (turnS I K m t e μ) xs s0 with
  | er c fs b => rw [h1] at h'; exact absurd h' z.bad
  | bad => rw [h1] at h'; exact absurd h' z.bad
  | ok ys s =>
    rw [h1] at h'
    obtain ⟨hz, h2⟩ := guard_ok h' z.bad
    refine lcS_ok hg hj hd r ok xs [] ys s0 s S r0 h1 (by simpa using size_dec hz) fun S2 r2 => z.k ys _ S2 ?_ h2
    have r3 : Rel ax (fx.inn (ixJ I ++ K) μ) (headE I K μ s) σ S2 := r2.resig dwipe_len.symm fun i u e => by
      by_cases c : i ∈ K
      · exact .inl (head_un c (hd i c) e)
      · exact .inr (dwipe_ne c).symm
    exact r.outN ok r3 told_self
end
section
variable {C : Str → Addr} {ax : Ax} {X : Cx} {W : WX} {a b c e : Expr} {ma mb : MC} {pos : Pos} {st : Stmt} {I : Js} {K : List Nat} {it : Env → P (List D)} {g : DTG} {m : MG} {t : MT} {me : MC} {js : List Nat}
theorem dyes_ok {E : DEr} {σ : DSt} {S : Sto} {Q : Bool → Sto → Prop} (h : rdCT C ax mYesT E σ S Q) : dYes E σ S Q := by
  obtain ⟨fx, μ, β, k, ex, bd, Φ, r, z, h⟩ := h
  exact z.k true μ S r h
theorem xc_lcC (hg : GOk js g m) (hj : ∀ j ∈ js, j ∈ K) (hd : ∀ i ∈ K, i ∉ ixJ I) (h : DE X W e (dLc (rdI C ax it) g (rdCT C ax t) (rdC C ax me) K)) : XC C ax X W e (mLcD (mLcC I K it m t me)) := deI h fun E σ S Q ⟨fx, μ, β, k, ex, bd, Φ, r, z, h⟩ =>
  lcC_post (Q := fun ys S => Q (.lst ys) S) (k := fun ys μ1 => k (.lst ys) μ1) hg hj hd r ⟨z.bad, fun ys μ1 S1 r1 h1 => z.k (.lst ys) μ1 S1 r1 h1, z.ex⟩ h
theorem xs_setLcC {i : Nat} (hg : GOk js g m) (hj : ∀ j ∈ js, j ∈ K) (hd : ∀ i ∈ K, i ∉ ixJ I) (h : DS X W st (dAsg (dLc (rdI C ax it) g (rdCT C ax t) (rdC C ax me) K) (dgName i))) : XS C ax X W st (mSet i (mLcD (mLcC I K it m t me))) := xs_set (dsI h fun Z σ S ⟨fx, μ, β, k, ex, bd, Φ, r, z, h⟩ =>
  lcC_post (Q := fun ys S => dgName i (.lst ys) σ S Z.nx) (k := fun ys μ1 => k (.lst ys) μ1) hg hj hd r ⟨z.bad, fun ys μ1 S1 r1 h1 => z.k (.lst ys) μ1 S1 r1 h1, z.ex⟩ h)
theorem xs_setFLcC {i : Nat} (hg : GOk js g m) (hj : ∀ j ∈ js, j ∈ K) (hd : ∀ i ∈ K, i ∉ ixJ I) (h : DS X W st (dAsg (dLcM (rdI C ax it) g (rdCT C ax t) (rdC C ax me) K) (dgName i))) : XS C ax X W st (mLcL i (mLcC I K it m t me)) := dsI h fun Z σ S ⟨fx, μ, β, z, Φ, r, o, h⟩ =>
  lcC_post (Q := fun ys S => ∀ p, S p = none → dgName i (.ref p) σ (put S p (.lst ys)) Z.nx) (k := fun ys μ1 => setS i (.l false ys) μ1 z.nx z.bad) hg hj hd r (o.kok fun ys μ1 S1 r1 h1 p hp => by
    obtain ⟨h, u, h2, h3, h4⟩ := setS_ok h1 o.bad
    exact o.nx _ _ _ (r1.newL hp ys h3 h2 h4) h) h
/-! parallel assignment, the last one a fresh list -/
def mParL (i j : Nat) (a : MC) (p : Env → P (List D)) : MS := fun β z μ => a β μ (fun x μ1 => got (p μ1) (fun ys _ => setS i (.v x) μ1 (fun μ2 => setS j (.l false ys) μ2 z.nx z.bad) z.bad) (fun c fs _ => z.ex c fs μ1) z.bad) z.ex z.bad
def mPar3L (i j l : Nat) (a b : MC) (p : Env → P (List D)) : MS := fun β z μ => a β μ (fun x μ1 => b β μ1 (fun y μ2 => got (p μ2) (fun ys _ => setS i (.v x) μ2 (fun μ3 => setS j (.v y) μ3 (fun μ4 => setS l (.l false ys) μ4 z.nx z.bad) z.bad) z.bad) (fun c fs _ => z.ex c fs μ2) z.bad) z.ex z.bad) z.ex z.bad
theorem xs_parL {i j : Nat} {p : Env → P (List D)} (h : DS X W st (dPar i j (dCons (rdC C ax ma) (dCons (rdF C ax p) dNil)))) : XS C ax X W st (mParL i j ma p) := dsI h fun Z σ S ⟨fx, μ, β, z, Φ, r, o, h⟩ =>
  ⟨fx, μ, β, _, z.ex, z.bad, Φ, r, o.kok fun x μ1 S1 r1 h1 => ⟨fx, μ1, r1, post_mono (fun ys h2 q hq => by
    obtain ⟨h3, u, q1, q2, q3⟩ := setS_ok h2 o.bad
    obtain ⟨h4, u', q4, q5, q6⟩ := setS_ok h3 o.bad
    exact o.nx _ _ _ ((r1.setV x q2 q1 q3).newL hq ys q5 q4 q6) h4) (got_ok (C := C) (E := exOf Z σ) (Q := fun _ _ => True) (k := fun ys μ1 => setS i (.v x) μ1 (fun μ2 => setS j (.l false ys) μ2 z.nx z.bad) z.bad) h1 r1 (o.kok fun _ _ _ _ _ => trivial))⟩, h⟩
theorem xs_par3L {i j l : Nat} {p : Env → P (List D)} (h : DS X W st (dPar3 i j l (dCons (rdC C ax ma) (dCons (rdC C ax mb) (dCons (rdF C ax p) dNil))))) : XS C ax X W st (mPar3L i j l ma mb p) := dsI h fun Z σ S ⟨fx, μ, β, z, Φ, r, o, h⟩ =>
  ⟨fx, μ, β, _, z.ex, z.bad, Φ, r, o.kok fun x μ1 S1 r1 h1 => ⟨fx, μ1, β, _, z.ex, z.bad, Φ, r1, o.kok fun y μ2 S2 r2 h2 => ⟨fx, μ2, r2, post_mono (fun ys h3 q hq => by
    obtain ⟨h4, u, q1, q2, q3⟩ := setS_ok h3 o.bad
    obtain ⟨h5, u', q4, q5, q6⟩ := setS_ok h4 o.bad
    obtain ⟨h6, u'', q7, q8, q9⟩ := setS_ok h5 o.bad
    exact o.nx _ _ _ (((r2.setV x q2 q1 q3).setV y q5 q4 q6).newL hq ys q8 q7 q9) h6) (got_ok (C := C) (E := exOf Z σ) (Q := fun _ _ => True) (k := fun ys μ2 => setS i (.v x) μ2 (fun μ3 => setS j (.v y) μ3 (fun μ4 => setS l (.l false ys) μ4 z.nx z.bad) z.bad) z.bad) h2 r2 (o.kok fun _ _ _ _ _ => trivial))⟩, h1⟩, h⟩
/-! joined expressions -/
def mJoinC (I : Js) (m : MC) : MC := fun β μ k ex b => guard (okB I I [] μ) (got (m (R (T I) D) (protN (ixJ I ++ []) 0 μ) (fun d μ1 => getJ I μ1 (fun s => .ok d s) .bad) (fun c fs μ1 => getJ I μ1 (fun s => .er c fs s) .bad) .bad)
  (fun d s => k d (setJ I s μ)) (fun c fs s => ex c fs (setJ I s μ)) b) b
def mJoinT (I : Js) (m : MT) : MT := fun β μ k ex b => guard (okB I I [] μ) (got (m (R (T I) Bool) (protN (ixJ I ++ []) 0 μ) (fun d μ1 => getJ I μ1 (fun s => .ok d s) .bad) (fun c fs μ1 => getJ I μ1 (fun s => .er c fs s) .bad) .bad)
  (fun d s => k d (setJ I s μ)) (fun c fs s => ex c fs (setJ I s μ)) b) b
theorem joinC_ok {α β : Type} {fx : Fx} {E : DEr} {σ : DSt} {S : Sto} {μ : Env} {k : α → Env → β} {ex : Str → Flds → Env → β} {bd : β} {Q : α → Sto → Prop} {Φ : β → Prop} (r : Rel ax fx μ σ S) (ok : OkB I I [] μ) (z : KOk C ax fx E σ k ex bd Q Φ) :
    KOk C ax (fx.inn (ixJ I ++ []) μ) E σ (fun d μ1 => getJ I μ1 (fun s => .ok d s) (.bad : R (T I) α)) (fun c fs μ1 => getJ I μ1 (fun s => .er c fs s) .bad) .bad Q (fun y => Φ (got y (fun d s => k d (setJ I s μ)) (fun c fs s => ex c fs (setJ I s μ)) bd)) := by
  let Φ0 : R (T I) α → Prop := fun y => Φ (got y (fun d s => k d (setJ I s μ)) (fun c fs s => ex c fs (setJ I s μ)) bd)
  refine ⟨z.bad, fun d μ1 S1 r1 h1 => ?_, fun c fs μ1 S1 r1 h1 p hp => ?_⟩
  · obtain ⟨s, h1, q⟩ := getJ_ok (Φ := Φ0) h1 z.bad
    exact z.k d _ S1 (r.outN ok r1 (told_get q)) h1
  · obtain ⟨s, h1, q⟩ := getJ_ok (Φ := Φ0) h1 z.bad
    exact z.ex c fs _ S1 (r.outN ok r1 (told_get q)) h1 p hp
theorem xc_join (h : XC C ax X W e ma) : XC C ax X W e (mJoinC I ma) := deI h fun E σ S Q ⟨fx, μ, β, k, ex, bd, Φ, r, z, h⟩ => by
  obtain ⟨hf, h⟩ := guard_ok h z.bad
  exact ⟨_, _, _, _, _, _, _, r.inn _, joinC_ok r (okB_ok hf) z, h⟩
theorem xct_join {na : MT} (h : XCT C ax X W e na) : XCT C ax X W e (mJoinT I na) := dtI h fun E σ S Q ⟨fx, μ, β, k, ex, bd, Φ, r, z, h⟩ => by
  obtain ⟨hf, h⟩ := guard_ok h z.bad
  exact ⟨_, _, _, _, _, _, _, r.inn _, joinC_ok r (okB_ok hf) z, h⟩
/-! texts -/
def joinD (x y : D) : Option D := match x with
  | .str a => match y with
    | .lst xs => match strsOf xs with
      | some zs => if (zs.map (·.length)).sum + zs.length * a.length ≤ 16777216 then some (.str (Txt.join a zs)) else none
      | none => none
    | .tup xs => match strsOf xs with
      | some zs => if (zs.map (·.length)).sum + zs.length * a.length ≤ 16777216 then some (.str (Txt.join a zs)) else none
      | none => none
    | _ => none
  | _ => none
def MtOk (T : String) (q : D → List D → Sto → DK → Prop) (f : D → D → Option D) : Prop := ∀ x y x0 y0 S d (Q : DK), isTy T x = true → Vw S x0 x → Vw S y0 y → f x y = some d → Q d S → q x0 [y0] S Q
def mMt (T : String) (f : D → D → Option D) (a b : Env → P D) : Env → P D := fun μ => bind (a μ) fun x => guard (isTy T x) (bind (b μ) fun y => opt (f x y)) .bad
theorem ok_join : MtOk "str" dJoin joinD := fun x y x0 y0 S d Q _ v w e q => by
  cases x <;> simp only [joinD, reduceCtorEq] at e
  have := vw_flatD v rfl; subst this
  cases y <;> simp only [reduceCtorEq] at e
  · split at e
    · rename_i zs h
      split at e
      · cases e; exact ⟨_, zs, .inl (vwx w (by simp)), h, by assumption, q⟩
      · cases e
    · cases e
  · split at e
    · rename_i zs h
      split at e
      · cases e; exact ⟨_, zs, .inr (vwx w (by simp)), h, by assumption, q⟩
      · cases e
    · cases e
theorem isTy_ref {T : String} {x : D} (h : isTy T x = true) : ∀ p, x ≠ .ref p := fun p e => by subst e; cases h
theorem mt_post {T : String} {q : D → List D → Sto → DK → Prop} {f : D → D → Option D} {pa pb : Env → P D} (hf : MtOk T q f) {E : DEr} {σ : DSt} {S : Sto} {Q : DK} (h : rdE C ax (mMt T f pa pb) E σ S Q) : dBM T q (rdV C ax pa) (dCons (rdV C ax pb) dNil) E σ S Q := by
  obtain ⟨fx, μ, r, p⟩ := h
  unfold mMt at p; rw [post_bind] at p
  refine ⟨fx, μ, r, post_mono (fun x p x0 v => ?_) p⟩
  obtain ⟨ht, p⟩ := guard_ok (Φ := post C E S fun d => Q d S) p id
  refine ⟨by rw [vwx v (isTy_ref ht)]; exact ht, fx, μ, r, ?_⟩
  rw [post_bind] at p
  refine post_mono (fun y p y0 w => ?_) p
  obtain ⟨d, e, p⟩ := post_opt p
  exact hf x y x0 y0 S d Q ht v w e p
theorem xe_join {o : Expr} {pa pb : Env → P D} {apos cpos : Pos} (ho : XV C ax X W o pa) (he : XV C ax X W e pb) (hbase : attributeBase o "join" X.env (eval o X.env) = eval o X.env := by rfl)
    (hfew : ((backTo cpos (starEach [e] X.env)).all (fun x => !x.1) && (backToKw cpos (keywordEach [] X.env)).all (fun x => x.1.isSome)
      && decide (([e] : List Expr).length + ([] : List Keyword).length + (if ([] : List Keyword).isEmpty then 0 else 1) < 30)) = true := by rfl)
    (hline : (apos.endLine == cpos.line) = true := by rfl) (hs : starEach [e] X.env = (false, eval e X.env) :: starEach [] X.env := by rfl) (hplain : (backTo cpos (starEach [] X.env)).any (·.1) = false := by rfl) :
    XE C ax X W (.Call (.Attribute o "join" apos) [e] [] cpos) (mMt "str" joinD pa pb) := deI (de_join ho he hbase hfew hline hs hplain) fun E σ S Q h => mt_post ok_join h
end
/-! fresh lists -/
def seqD (x : D) : Option (List D) := match x with
  | .lst xs => some xs
  | .tup xs => some xs
  | _ => none
def catD (x y : D) : Option (List D) := match x, y with
  | .lst xs, .lst ys => szO (xs.length + ys.length) (xs ++ ys)
  | _, _ => none
def cutL (x : D) (lo hi : Option Int) : Option (List D) := match x with
  | .lst xs => some (cutD xs lo hi)
  | _ => none
def addI : D → D → Option D := intOp fun i j => some (.int (i + j))
theorem ok_addI : OpOk dAddI addI := ok_I0 fun i j d h => (Option.some.inj h).symm
section
variable {C : Str → Addr} {ax : Ax} {X : Cx} {W : WX} {a b e : Expr} {ma mb : Env → P D} {pos : Pos}
theorem xf_add (ha : XV C ax X W a ma) (hb : XV C ax X W b mb) : XF C ax X W (.BinOp a .Add b pos) (fun μ => bind (ma μ) fun x => bind (mb μ) fun y => opt (catD x y)) := deI (de_op dop_addM ha hb) fun E σ S Q ⟨fx, μ, r, p⟩ => by
  rw [post_bind] at p
  refine ⟨fx, μ, r, post_mono (fun x p x0 v => ?_) p⟩
  rw [post_bind] at p
  refine ⟨fx, μ, r, post_mono (fun y p y0 w => ?_) p⟩
  obtain ⟨ys, e, q⟩ := post_opt p
  cases x <;> cases y <;> simp only [catD, reduceCtorEq] at e
  obtain ⟨h1, rfl⟩ := szO_ok e
  unfold dAddM
  rw [vwx v (by simp), vwx w (by simp)]
  exact ⟨h1, q⟩
theorem xf_list {x : Str} {p : Pos} (hx : x = "list") (hg : Gl X x) (hm : X.mg x = none) (hv : bootBuiltins x = some (.type "list")) (ha : XV C ax X W a ma) (hn : x ≠ "__name__" := by decide) (hdb : (x == ("__debug__" : Str)) = false := by decide)
    (hs : starEach [a] X.env = (false, eval a X.env) :: starEach [] X.env := by rfl) (hpl : (backTo pos (starEach [] X.env)).any (·.1) = false := by rfl) : XF C ax X W (.Call (.Name x p) [a] [] pos) (fun μ => bind (ma μ) fun x => opt (seqD x)) := deI (de_callTy dc_listM hg hm hv (da_cons ha da_nil hs) hn hdb hs hpl) fun E σ S Q ⟨fx, μ, r, p⟩ => by
  rw [post_bind] at p
  refine ⟨fx, μ, r, post_mono (fun x p x0 v => ?_) p⟩
  obtain ⟨ys, e, q⟩ := post_opt p
  cases x <;> simp only [seqD, reduceCtorEq, Option.some.injEq] at e <;> subst e
  · show match vw S x0 with | .lst xs => _ | .tup xs => _ | _ => _
    rw [vwx v (by simp)]; exact q
  · show match vw S x0 with | .lst xs => _ | .tup xs => _ | _ => _
    rw [vwx v (by simp)]; exact q
theorem xf_slice {lo hi : Option Expr} {ol oh : Env → P (Option Int)} {p2 : Pos} (he : XV C ax X W e ma) (hl : XO C ax X W lo ol) (hh : XO C ax X W hi oh) : XF C ax X W (.Subscript e (.Slice lo hi none p2) pos) (fun μ => bind (ma μ) fun x => bind (ol μ) fun l => bind (oh μ) fun h => opt (cutL x l h)) := deI (de_sliceM he hl hh) fun E σ S Q ⟨fx, μ, r, p⟩ => by
  rw [post_bind] at p
  refine ⟨fx, μ, r, post_mono (fun x p x0 v => ?_) p⟩
  rw [post_bind] at p
  refine ⟨fx, μ, r, post_mono (fun l p => ?_) p⟩
  rw [post_bind] at p
  refine ⟨fx, μ, r, post_mono (fun h p => ?_) p⟩
  obtain ⟨ys, e, q⟩ := post_opt p
  cases x <;> simp only [cutL, reduceCtorEq, Option.some.injEq] at e
  subst e
  rw [vwx v (by simp)]; exact q
end
end KM

set_option maxRecDepth 100000
set_option maxHeartbeats 4000000
/-! Km7: operands that may be slots, where something changes on the way; dict displays; ranges with a step; extend. -/
namespace KM
open PySem PySem.Spec PyProof.Rows L2 KD
abbrev MCA := (β : Type) → Env → (Act → Env → β) → (Str → Flds → Env → β) → β → β
abbrev ML := (β : Type) → Env → (List D → Env → β) → (Str → Flds → Env → β) → β → β
/-- what an operand is when it is used -/
def see (a : Act) (μ : Env) : Option D := match a with
  | .val d => some d
  | .ref i => viewE μ i
def aOf (m : MC) : MCA := fun β μ k ex b => m β μ (fun d μ1 => k (.val d) μ1) ex b
def aSlot (i : Nat) : MCA := fun β μ k ex b => gotO (viewE μ i) (fun _ => k (.ref i) μ) b
def mOpA (f : D → D → Option D) (a b : MCA) : MC := fun β μ k ex bd => a β μ (fun x μ1 => b β μ1 (fun y μ2 => gotO (see x μ2) (fun x' => gotO (see y μ2) (fun y' => gotO (f x' y') (fun d => k d μ2) bd) bd) bd) ex bd) ex bd
def mCmA (f : D → D → Option Bool) (a b : MCA) : MT := fun β μ k ex bd => a β μ (fun x μ1 => b β μ1 (fun y μ2 => gotO (see x μ2) (fun x' => gotO (see y μ2) (fun y' => gotO (f x' y') (fun d => k d μ2) bd) bd) bd) ex bd) ex bd
def mOfT (m : MT) : MC := fun β μ k ex bd => m β μ (fun b μ1 => k (.bl b) μ1) ex bd
def lOp (f : D → D → Option (List D)) (a b : MCA) : ML := fun β μ k ex bd => a β μ (fun x μ1 => b β μ1 (fun y μ2 => gotO (see x μ2) (fun x' => gotO (see y μ2) (fun y' => gotO (f x' y') (fun d => k d μ2) bd) bd) bd) ex bd) ex bd
def lFn (f : D → Option (List D)) (a : MCA) : ML := fun β μ k ex bd => a β μ (fun x μ1 => gotO (see x μ1) (fun x' => gotO (f x') (fun d => k d μ1) bd) bd) ex bd
def lPure (p : Env → P (List D)) : ML := fun β μ k ex b => got (p μ) (fun d _ => k d μ) (fun c fs _ => ex c fs μ) b
/-- d0 is what a stands for, now and later -/
def ActD (σ : DSt) (a : Act) (d0 : D) : Prop := match a with
  | .val d => d0 = d
  | .ref i => σ[i]? = some (some d0)
def rdA1 (C : Str → Addr) (ax : Ax) (m : MCA) : DTE := fun E σ S Q => ∃ (fx : Fx) (μ : Env) (β : Type) (k : Act → Env → β) (ex : Str → Flds → Env → β) (b : β) (Φ : β → Prop), Rel ax fx μ σ S ∧ KOk C ax fx E σ k ex b (fun a S => ∀ d0, ActD σ a d0 → Q d0 S) Φ ∧ Φ (m β μ k ex b)
def XCA (C : Str → Addr) (ax : Ax) (X : Cx) (W : WX) (e : Expr) (m : MCA) : Prop := DE X W e (rdA1 C ax m)
def rdL (C : Str → Addr) (ax : Ax) (m : ML) : DTE := fun E σ S Q => ∃ (fx : Fx) (μ : Env) (β : Type) (k : List D → Env → β) (ex : Str → Flds → Env → β) (b : β) (Φ : β → Prop), Rel ax fx μ σ S ∧ KOk C ax fx E σ k ex b (fun xs S => ∀ p, S p = none → Q (.ref p) (put S p (.lst xs))) Φ ∧ Φ (m β μ k ex b)
/-- a fresh list -/
def XCF (C : Str → Addr) (ax : Ax) (X : Cx) (W : WX) (e : Expr) (m : ML) : Prop := DE X W e (rdL C ax m)
section
variable {C : Str → Addr} {ax : Ax} {X : Cx} {W : WX} {a b c e : Expr} {ma mb : MCA} {mc : MC} {pos : Pos} {st : Stmt}
theorem see_ok {fx : Fx} {μ : Env} {σ : DSt} {S : Sto} {x : Act} {d0 d : D} (r : Rel ax fx μ σ S) (h : ActD σ x d0) (e : see x μ = some d) : Vw S d0 d := by
  cases x with
  | val y => cases e; exact .inl h
  | ref i =>
    obtain ⟨A, r⟩ := r
    have h : σ[i]? = some (some d0) := h
    have e : viewE μ i = some d := e
    unfold viewE at e
    split at e
    · obtain ⟨d1, h1, h2⟩ := slot_view (r.slot i _ (by assumption)) e
      rw [h] at h1; cases h1; exact h2
    · cases e
theorem xca_c (h : XC C ax X W e mc) : XCA C ax X W e (aOf mc) := deI h fun E σ S Q ⟨fx, μ, β, k, ex, bd, Φ, r, z, h⟩ => ⟨fx, μ, β, _, ex, bd, Φ, r, z.to fun d μ1 S1 r1 h1 => z.k (.val d) μ1 S1 r1 h1 d rfl, h⟩
theorem xca_slot {i : Nat} (h : DE X W e (dVar i)) : XCA C ax X W e (aSlot i) := deI h fun E σ S Q ⟨fx, μ, β, k, ex, bd, Φ, r, z, h⟩ => by
  obtain ⟨d, e, h⟩ := gotO_ok h z.bad
  have r0 := r
  obtain ⟨A, r⟩ := r
  unfold viewE at e
  split at e
  · obtain ⟨d1, h1, h2⟩ := slot_view (r.slot i _ (by assumption)) e
    unfold dVar; rw [h1]
    exact z.k _ μ S r0 h d1 h1
  · cases e
theorem opA_post {q : D → D → Sto → DK → Prop} {E : DEr} {σ : DSt} {S : Sto} {Q : DK} {γ : Type} {fx : Fx} {μ : Env} {β : Type} {k : γ → Env → β} {ex : Str → Flds → Env → β} {bd : β} {Φ : β → Prop} {f : D → D → Option γ} (r : Rel ax fx μ σ S)
    (hbad : ¬ Φ bd) (hex : ∀ c fs μ S, Rel ax fx μ σ S → Φ (ex c fs μ) → ∀ p, S p = none → E (C c) p (put S p (.xd fs))) (hq : ∀ x y x0 y0 μ S d, Rel ax fx μ σ S → Vw S x0 x → Vw S y0 y → f x y = some d → Φ (k d μ) → q x0 y0 S Q)
    (h : Φ (ma β μ (fun x μ1 => mb β μ1 (fun y μ2 => gotO (see x μ2) (fun x' => gotO (see y μ2) (fun y' => gotO (f x' y') (fun d => k d μ2) bd) bd) bd) ex bd) ex bd)) : dOp q (rdA1 C ax ma) (rdA1 C ax mb) E σ S Q :=
  ⟨fx, μ, β, _, ex, bd, Φ, r, ⟨hbad, fun x μ1 S1 r1 h1 x0 v => ⟨fx, μ1, β, _, ex, bd, Φ, r1, ⟨hbad, fun y μ2 S2 r2 h2 y0 w => by
    obtain ⟨x', e1, h2⟩ := gotO_ok h2 hbad
    obtain ⟨y', e2, h2⟩ := gotO_ok h2 hbad
    obtain ⟨d, e3, h2⟩ := gotO_ok h2 hbad
    exact hq x' y' x0 y0 μ2 S2 d r2 (see_ok r2 v e1) (see_ok r2 w e2) e3 h2, hex⟩, h1⟩, hex⟩, h⟩
theorem xc_opA {op : Operator} {q : D → D → Sto → DK → Prop} {f : D → D → Option D} (ho : DOp X (binaryOp op) q) (hf : OpOk q f) (ha : XCA C ax X W a ma) (hb : XCA C ax X W b mb) : XC C ax X W (.BinOp a op b pos) (mOpA f ma mb) :=
  deI (de_op ho ha hb) fun E σ S Q ⟨fx, μ, β, k, ex, bd, Φ, r, z, h⟩ => opA_post r z.bad z.ex (fun x y x0 y0 μ S d r v w e h => hf x y x0 y0 S d Q v w e (z.k d μ S r h)) h
theorem xc_ixA {q : D → D → Sto → DK → Prop} {f : D → D → Option D} (ho : DIx X q) (hf : OpOk q f) (ha : XCA C ax X W a ma) (hb : XCA C ax X W b mb) (hs : PlainIx b := by exact fun _ _ => rfl) : XC C ax X W (.Subscript a b pos) (mOpA f ma mb) :=
  deI (de_ix ho ha hb hs) fun E σ S Q ⟨fx, μ, β, k, ex, bd, Φ, r, z, h⟩ => opA_post r z.bad z.ex (fun x y x0 y0 μ S d r v w e h => hf x y x0 y0 S d Q v w e (z.k d μ S r h)) h
theorem xct_cmpA {op : CmpOp} {q : D → D → Sto → DK → Prop} {f : D → D → Option Bool} (ho : DOp X (compareOp op) q) (hf : CmOk q f) (ha : XCA C ax X W a ma) (hb : XCA C ax X W b mb) (hm : behindInMarks op b = false := by first | exact nomark _ | rfl) : XCT C ax X W (.Compare a [op] [b] pos) (mCmA f ma mb) :=
  dtI (dt_cmp ho ha hb hm) fun E σ S Q ⟨fx, μ, β, k, ex, bd, Φ, r, z, h⟩ => opA_post (Q := fun d S' => match d with | .bl b => Q b S' | _ => False) r z.bad z.ex (fun x y x0 y0 μ S d r v w e h => hf x y x0 y0 S d _ v w e (z.k d μ S r h)) h
theorem xc_cmpA {op : CmpOp} {q : D → D → Sto → DK → Prop} {f : D → D → Option Bool} (ho : DOp X (compareOp op) q) (hf : CmOk q f) (ha : XCA C ax X W a ma) (hb : XCA C ax X W b mb) (hm : behindInMarks op b = false := by first | exact nomark _ | rfl) : XC C ax X W (.Compare a [op] [b] pos) (mOfT (mCmA f ma mb)) :=
  deI (de_cmp ho ha hb hm) fun E σ S Q ⟨fx, μ, β, k, ex, bd, Φ, r, z, h⟩ => opA_post (k := fun b μ1 => k (.bl b) μ1) r z.bad z.ex (fun x y x0 y0 μ S d r v w e h => hf x y x0 y0 S d Q v w e (z.k _ μ S r h)) h
/-! fresh lists -/
theorem xcf_p {p : Env → P (List D)} (h : XF C ax X W e p) : XCF C ax X W e (lPure p) := deI h fun E σ S Q ⟨fx, μ, β, k, ex, bd, Φ, r, z, h⟩ => ⟨fx, μ, r, post_mono (fun xs q => z.k xs μ S r q) (got_ok h r z)⟩
theorem xcf_add (ha : XCA C ax X W a ma) (hb : XCA C ax X W b mb) : XCF C ax X W (.BinOp a .Add b pos) (lOp catD ma mb) := deI (de_op dop_addM ha hb) fun E σ S Q ⟨fx, μ, β, k, ex, bd, Φ, r, z, h⟩ => opA_post r z.bad z.ex (fun x y x0 y0 μ S d r v w e h => by
  cases x <;> cases y <;> simp only [catD, reduceCtorEq] at e
  obtain ⟨h1, rfl⟩ := szO_ok e
  unfold dAddM
  rw [vwx v (by simp), vwx w (by simp)]
  exact ⟨h1, z.k _ μ S r h⟩) h
theorem xcf_list {x : Str} {p : Pos} (hx : x = "list") (hg : Gl X x) (hm : X.mg x = none) (hv : bootBuiltins x = some (.type "list")) (ha : XCA C ax X W a ma) (hn : x ≠ "__name__" := by decide) (hdb : (x == ("__debug__" : Str)) = false := by decide)
    (hs : starEach [a] X.env = (false, eval a X.env) :: starEach [] X.env := by rfl) (hpl : (backTo pos (starEach [] X.env)).any (·.1) = false := by rfl) : XCF C ax X W (.Call (.Name x p) [a] [] pos) (lFn seqD ma) := deI (de_callTy dc_listM hg hm hv (da_cons ha da_nil hs) hn hdb hs hpl) fun E σ S Q ⟨fx, μ, β, k, ex, bd, Φ, r, z, h⟩ =>
  ⟨fx, μ, β, _, ex, bd, Φ, r, z.to fun x μ1 S1 r1 h1 x0 v => by
    obtain ⟨x', e1, h2⟩ := gotO_ok h1 z.bad
    obtain ⟨ys, e2, h2⟩ := gotO_ok h2 z.bad
    have v := see_ok r1 v e1
    have q := z.k ys μ1 S1 r1 h2
    cases x' <;> simp only [seqD, reduceCtorEq, Option.some.injEq] at e2 <;> subst e2
    · show match vw S1 x0 with | .lst xs => _ | .tup xs => _ | _ => _
      rw [vwx v (by simp)]; exact q
    · show match vw S1 x0 with | .lst xs => _ | .tup xs => _ | _ => _
      rw [vwx v (by simp)]; exact q, h⟩
theorem xcf_ifE {na : MT} {l1 l2 : ML} (hc : XCT C ax X W c na) (ha : XCF C ax X W a l1) (hb : XCF C ax X W b l2) : XCF C ax X W (.IfExp c a b pos) (fun β μ k ex bd => na β μ (fun x μ1 => if x then l1 β μ1 k ex bd else l2 β μ1 k ex bd) ex bd) := deI (de_ifE hc ha hb) fun E σ S Q ⟨fx, μ, β, k, ex, bd, Φ, r, z, h⟩ =>
  ⟨fx, μ, β, _, ex, bd, Φ, r, z.to fun x μ1 S1 r1 h1 => by
    cases x with
    | true => rw [if_pos rfl] at h1 ⊢; exact ⟨fx, μ1, β, k, ex, bd, Φ, r1, z, h1⟩
    | false => rw [if_neg Bool.false_ne_true] at h1 ⊢; exact ⟨fx, μ1, β, k, ex, bd, Φ, r1, z, h1⟩, h⟩
theorem xs_setCL {i : Nat} {l : ML} (h : DS X W st (dAsg (rdL C ax l) (dgName i))) : XS C ax X W st (mLcL i l) := dsI h fun Z σ S ⟨fx, μ, β, z, Φ, r, o, h⟩ =>
  ⟨fx, μ, β, _, z.ex, z.bad, Φ, r, o.kok fun ys μ1 S1 r1 h1 p hp => by
    obtain ⟨h, u, h2, h3, h4⟩ := setS_ok h1 o.bad
    exact o.nx _ _ _ (r1.newL hp ys h3 h2 h4) h, h⟩
/-! slices -/
abbrev MO := (β : Type) → Env → (Option Int → Env → β) → (Str → Flds → Env → β) → β → β
def oNone : MO := fun β μ k ex b => k none μ
def oPart (m : MC) : MO := fun β μ k ex b => m β μ (fun d μ1 => gotO (intOf d) (fun i => k (some i) μ1) b) ex b
def rdCO (C : Str → Addr) (ax : Ax) (m : MO) : DTO := fun E σ S Q => ∃ (fx : Fx) (μ : Env) (β : Type) (k : Option Int → Env → β) (ex : Str → Flds → Env → β) (b : β) (Φ : β → Prop), Rel ax fx μ σ S ∧ KOk C ax fx E σ k ex b Q Φ ∧ Φ (m β μ k ex b)
def XCO (C : Str → Addr) (ax : Ax) (X : Cx) (W : WX) (e : Option Expr) (m : MO) : Prop := DO X W e (rdCO C ax m)
theorem xco_none : XCO C ax X W none oNone := doI do_none fun E σ S Q ⟨fx, μ, β, k, ex, bd, Φ, r, z, h⟩ => z.k none μ S r h
theorem xco_some (ha : XC C ax X W a mc) : XCO C ax X W (some a) (oPart mc) := doI (do_some ha) fun E σ S Q ⟨fx, μ, β, k, ex, bd, Φ, r, z, h⟩ =>
  ⟨fx, μ, β, _, ex, bd, Φ, r, z.to fun x μ1 S1 r1 h1 => by
    obtain ⟨i, e, h⟩ := gotO_ok h1 z.bad
    cases x <;> simp only [intOf, reduceCtorEq, Option.some.injEq] at e
    subst e; exact z.k (some _) μ1 S1 r1 h, h⟩
def mSlA (f : D → Option Int → Option Int → Option D) (a : MCA) (lo hi : MO) : MC := fun β μ k ex bd => a β μ (fun x μ1 => lo β μ1 (fun l μ2 => hi β μ2 (fun h μ3 => gotO (see x μ3) (fun x' => gotO (f x' l h) (fun d => k d μ3) bd) bd) ex bd) ex bd) ex bd
theorem xc_slA {lo hi : Option Expr} {ol oh : MO} {f : D → Option Int → Option Int → Option D} {p2 : Pos} (hf : SlOk dSlQ f) (he : XCA C ax X W e ma) (hl : XCO C ax X W lo ol) (hh : XCO C ax X W hi oh) : XC C ax X W (.Subscript e (.Slice lo hi none p2) pos) (mSlA f ma ol oh) :=
  deI (de_slice he hl hh) fun E σ S Q ⟨fx, μ, β, k, ex, bd, Φ, r, z, h⟩ => ⟨fx, μ, β, _, ex, bd, Φ, r, z.to fun x μ1 S1 r1 h1 x0 v => ⟨fx, μ1, β, _, ex, bd, Φ, r1, z.to fun l μ2 S2 r2 h2 => ⟨fx, μ2, β, _, ex, bd, Φ, r2, z.to fun u μ3 S3 r3 h3 => by
    obtain ⟨x', e1, h4⟩ := gotO_ok h3 z.bad
    obtain ⟨d, e2, h4⟩ := gotO_ok h4 z.bad
    exact hf x' x0 l u S3 d Q (see_ok r3 v e1) e2 (z.k d μ3 S3 r3 h4), h2⟩, h1⟩, h⟩
def lSlA (a : MCA) (lo hi : MO) : ML := fun β μ k ex bd => a β μ (fun x μ1 => lo β μ1 (fun l μ2 => hi β μ2 (fun h μ3 => gotO (see x μ3) (fun x' => gotO (cutL x' l h) (fun d => k d μ3) bd) bd) ex bd) ex bd) ex bd
theorem xcf_sl {lo hi : Option Expr} {ol oh : MO} {p2 : Pos} (he : XCA C ax X W e ma) (hl : XCO C ax X W lo ol) (hh : XCO C ax X W hi oh) : XCF C ax X W (.Subscript e (.Slice lo hi none p2) pos) (lSlA ma ol oh) :=
  deI (de_sliceM he hl hh) fun E σ S Q ⟨fx, μ, β, k, ex, bd, Φ, r, z, h⟩ => ⟨fx, μ, β, _, ex, bd, Φ, r, z.to fun x μ1 S1 r1 h1 x0 v => ⟨fx, μ1, β, _, ex, bd, Φ, r1, z.to fun l μ2 S2 r2 h2 => ⟨fx, μ2, β, _, ex, bd, Φ, r2, z.to fun u μ3 S3 r3 h3 => by
    obtain ⟨x', e1, h4⟩ := gotO_ok h3 z.bad
    obtain ⟨d, e2, h4⟩ := gotO_ok h4 z.bad
    cases x' <;> simp only [cutL, reduceCtorEq, Option.some.injEq] at e2
    subst e2
    have v := see_ok r3 v e1
    rw [vwx v (by simp)]
    exact z.k _ μ3 S3 r3 h4, h2⟩, h1⟩, h⟩
/-! built-ins and methods with such operands -/
abbrev MAA := (β : Type) → Env → (List Act → Env → β) → (Str → Flds → Env → β) → β → β
def aaNil : MAA := fun β μ k ex b => k [] μ
def aaCons (a : MCA) (l : MAA) : MAA := fun β μ k ex b => a β μ (fun x μ1 => l β μ1 (fun xs μ2 => k (x :: xs) μ2) ex b) ex b
inductive ActsD (σ : DSt) : List Act → List D → Prop
  | nil : ActsD σ [] []
  | cons {a : Act} {d0 : D} {as : List Act} {ds : List D} : ActD σ a d0 → ActsD σ as ds → ActsD σ (a :: as) (d0 :: ds)
def seeL : List Act → Env → Option (List D)
  | [], _ => some []
  | a :: r, μ => match see a μ, seeL r μ with
    | some d, some ds => some (d :: ds)
    | _, _ => none
def rdAA (C : Str → Addr) (ax : Ax) (m : MAA) : DTA := fun E σ S Q => ∃ (fx : Fx) (μ : Env) (β : Type) (k : List Act → Env → β) (ex : Str → Flds → Env → β) (b : β) (Φ : β → Prop), Rel ax fx μ σ S ∧ KOk C ax fx E σ k ex b (fun as S => ∀ ds, ActsD σ as ds → Q ds S) Φ ∧ Φ (m β μ k ex b)
def XAA (C : Str → Addr) (ax : Ax) (X : Cx) (W : WX) (es : List Expr) (m : MAA) : Prop := DA X W es (rdAA C ax m)
variable {es : List Expr} {l : MAA}
theorem xaa_nil : XAA C ax X W [] aaNil := daI da_nil fun E σ S Q ⟨fx, μ, β, k, ex, bd, Φ, r, z, h⟩ => z.k _ μ S r h _ .nil
theorem xaa_cons (ha : XCA C ax X W e ma) (hr : XAA C ax X W es l) (hs : starEach (e :: es) X.env = (false, eval e X.env) :: starEach es X.env := by rfl) : XAA C ax X W (e :: es) (aaCons ma l) := daI (da_cons ha hr hs) fun E σ S Q ⟨fx, μ, β, k, ex, bd, Φ, r, z, h⟩ =>
  ⟨fx, μ, β, _, ex, bd, Φ, r, z.to fun d μ1 S1 r1 h1 d0 v => ⟨fx, μ1, β, _, ex, bd, Φ, r1, z.to fun as μ2 S2 r2 h2 ds w => z.k _ μ2 S2 r2 h2 _ (.cons v w), h1⟩, h⟩
theorem seeL_ok {fx : Fx} {μ : Env} {σ : DSt} {S : Sto} (r : Rel ax fx μ σ S) : ∀ {as : List Act} {ds0 ds : List D}, ActsD σ as ds0 → seeL as μ = some ds → VwL S ds0 ds
  | _, _, _, .nil, e => by cases e; exact .nil
  | a :: as, _, ds, .cons h t, e => by
    simp only [seeL] at e
    cases e1 : see a μ with
    | none => rw [e1] at e; cases e
    | some d =>
      cases e2 : seeL as μ with
      | none => rw [e1, e2] at e; cases e
      | some es =>
        rw [e1, e2] at e; cases e
        exact .cons (see_ok r h e1) (seeL_ok r t e2)
def mCallA (f : List D → Option D) (l : MAA) : MC := fun β μ k ex b => l β μ (fun as μ1 => gotO (seeL as μ1) (fun ds => gotO (f ds) (fun d => k d μ1) b) b) ex b
theorem cl_okA {q : List D → Sto → DK → Prop} {f : List D → Option D} (hf : ClOk q f) {E : DEr} {σ : DSt} {S : Sto} {Q : DK} (h : rdC C ax (mCallA f l) E σ S Q) : dCall q (rdAA C ax l) E σ S Q := by
  obtain ⟨fx, μ, β, k, ex, bd, Φ, r, z, h⟩ := h
  exact ⟨fx, μ, β, _, ex, bd, Φ, r, z.to fun as μ1 S1 r1 h1 ds hds => by
    obtain ⟨ds', e1, h1⟩ := gotO_ok h1 z.bad
    obtain ⟨d, e2, h1⟩ := gotO_ok h1 z.bad
    exact hf _ _ S1 d Q (seeL_ok r1 hds e1) e2 (z.k _ μ1 S1 r1 h1), h⟩
theorem xc_callBA {id : String} {x : Str} {p : Pos} {f : List D → Option D} {q : List D → Sto → DK → Prop} (hc : DC X (.builtin id) q) (hf : ClOk q f) (hg : Gl X x) (hm : X.mg x = none) (hv : bootBuiltins x = some (.builtin id)) (ha : XAA C ax X W (e :: es) l)
    (hn : x ≠ "__name__" := by decide) (hdb : (x == ("__debug__" : Str)) = false := by decide) (hs : starEach (e :: es) X.env = (false, eval e X.env) :: starEach es X.env := by rfl) (hpl : (backTo pos (starEach es X.env)).any (·.1) = false := by rfl) :
    XC C ax X W (.Call (.Name x p) (e :: es) [] pos) (mCallA f l) := deI (de_callB hc hg hm hv ha hn hdb hs hpl) fun E σ S Q h => cl_okA hf h
theorem xc_callTyA {T : String} {x : Str} {p : Pos} {f : List D → Option D} {q : List D → Sto → DK → Prop} (hc : DC X (.type T) q) (hf : ClOk q f) (hg : Gl X x) (hm : X.mg x = none) (hv : bootBuiltins x = some (.type T)) (ha : XAA C ax X W (e :: es) l)
    (hn : x ≠ "__name__" := by decide) (hdb : (x == ("__debug__" : Str)) = false := by decide) (hs : starEach (e :: es) X.env = (false, eval e X.env) :: starEach es X.env := by rfl) (hpl : (backTo pos (starEach es X.env)).any (·.1) = false := by rfl) :
    XC C ax X W (.Call (.Name x p) (e :: es) [] pos) (mCallA f l) := deI (de_callTy hc hg hm hv ha hn hdb hs hpl) fun E σ S Q h => cl_okA hf h
/-- a method with one argument -/
def mMtA (T : String) (f : D → D → Option D) (a b : MCA) : MC := fun β μ k ex bd => a β μ (fun x μ1 => gotO (see x μ1) (fun x1 => guard (isTy T x1) (b β μ1 (fun y μ2 => gotO (see x μ2) (fun x' => guard (isTy T x') (gotO (see y μ2) (fun y' => gotO (f x' y') (fun d => k d μ2) bd) bd) bd) bd) ex bd) bd) bd) ex bd
theorem mtA_post {T : String} {q : D → List D → Sto → DK → Prop} {f : D → D → Option D} (hf : MtOk T q f) {E : DEr} {σ : DSt} {S : Sto} {Q : DK} (h : rdC C ax (mMtA T f ma mb) E σ S Q) : dBM T q (rdA1 C ax ma) (dCons (rdA1 C ax mb) dNil) E σ S Q := by
  obtain ⟨fx, μ, β, k, ex, bd, Φ, r, z, h⟩ := h
  refine ⟨fx, μ, β, _, ex, bd, Φ, r, z.to fun x μ1 S1 r1 h1 x0 v => ?_, h⟩
  obtain ⟨x1, e1, h1⟩ := gotO_ok h1 z.bad
  obtain ⟨ht, h1⟩ := guard_ok h1 z.bad
  refine ⟨by rw [vwx (see_ok r1 v e1) (isTy_ref ht)]; exact ht, fx, μ1, β, _, ex, bd, Φ, r1, z.to fun y μ2 S2 r2 h2 y0 w => ?_, h1⟩
  obtain ⟨x2, e2, h2⟩ := gotO_ok h2 z.bad
  obtain ⟨ht2, h2⟩ := guard_ok h2 z.bad
  obtain ⟨y', e3, h2⟩ := gotO_ok h2 z.bad
  obtain ⟨d, e4, h2⟩ := gotO_ok h2 z.bad
  exact hf x2 y' x0 y0 S2 d Q ht2 (see_ok r2 v e2) (see_ok r2 w e3) e4 (z.k d μ2 S2 r2 h2)
theorem xc_joinA {o : Expr} {apos cpos : Pos} (ho : XCA C ax X W o ma) (he : XCA C ax X W e mb) (hbase : attributeBase o "join" X.env (eval o X.env) = eval o X.env := by rfl)
    (hfew : ((backTo cpos (starEach [e] X.env)).all (fun x => !x.1) && (backToKw cpos (keywordEach [] X.env)).all (fun x => x.1.isSome)
      && decide (([e] : List Expr).length + ([] : List Keyword).length + (if ([] : List Keyword).isEmpty then 0 else 1) < 30)) = true := by rfl)
    (hline : (apos.endLine == cpos.line) = true := by rfl) (hs : starEach [e] X.env = (false, eval e X.env) :: starEach [] X.env := by rfl) (hplain : (backTo cpos (starEach [] X.env)).any (·.1) = false := by rfl) :
    XC C ax X W (.Call (.Attribute o "join" apos) [e] [] cpos) (mMtA "str" joinD ma mb) := deI (de_join ho he hbase hfew hline hs hplain) fun E σ S Q h => mtA_post ok_join h
end
end KM

set_option maxRecDepth 100000
set_option maxHeartbeats 4000000
/-! Km8: try with one clause that names the error, or with clauses that do not; dict displays; ranges with a step; extend. -/
namespace KM
open PySem PySem.Spec PyProof.Rows L2 KD
/-! ### try -/
section
variable {X : Cx} {W : WX} {C : Str → Addr} {T U : List Str}
/-- one clause, its suite's reading by the error's address, class and dict -/
theorem ds_tryAs {c n : Str} {i : Nat} {body suite : List Stmt} {b₀ : Stmt} {np pos' pos : Pos} {rb : DTS} {r : Addr → Str → Addr → DTS} (hs : X.stack = X.env :: X.outer) (hf : X.env.frame = some X.env.locals) (hN : X.N.Nodup) (hi : X.N[i]? = some n) (hln : X.env.kindOf n = some .local) (tk : Takes X W) (E : ErrT X.K X.mg C T U) (hU : c ∈ U) (hg : Gl X c) (hd : (c == ("__debug__" : Str)) = false)
    (hb : ∀ (W : WX) (pn : List (Addr × Obj)) (xe : Value → Shared → Prop), Takes (X.tr pn xe) W → PassesOwn (model X.prog X.w) X.A X.env xe → DSs (X.tr pn xe) W body rb)
    (hsu : ∀ (a : Addr) (oe : Obj) (x : Str) (d : Addr) (pn : List (Addr × Obj)), x ∈ T → Zc (.ref (C x)) (some d) oe → (∃ vs, oe.data = .fields vs) → DSs (X.suite a ((a, oe) :: pn)) W0 (b₀ :: suite) (r a x d)) :
    DS X W (.Try body [.ExceptHandler (some (.Name c np)) (some n) (b₀ :: suite) pos'] [] [] pos) (fun Z σ S => rb ⟨Z.nx, Z.rt, Z.bk, Z.ct, fun Ca d σ' S' => ∃ x ∈ T, Ca = C x ∧ (subN x c = true → ∀ a, r a x d ⟨fun σ3 S3 => Z.nx (σ3.set i none) (rem S3 d), fun v S3 => Z.rt v (rem S3 d), fun σ3 S3 => Z.bk (σ3.set i none) (rem S3 d), fun σ3 S3 => Z.ct (σ3.set i none) (rem S3 d), fun _ _ _ _ => False⟩ (σ'.set i (some (.ref a))) S') ∧ (subN x c = false → Z.ex (C x) d σ' S')⟩ σ S) := by
  refine ⟨_, ps_try_as (tb := fun W => hS X.K W rb) (ts := fun a cls d D σ H => ∃ x dd, x ∈ T ∧ cls = .ref (C x) ∧ d = some dd ∧ hS X.K W0 (r a x dd) D σ H) hs hf hN hi hln ⟨hg, hd, .inl (E.glb _ hU).1⟩ tk (fun W pn xe tk ps => (hb W pn xe tk ps).can) (fun a oe cls d pn hz hf => ⟨fun pins s σ H D I ⟨x, dd, hx, e1, e2, q⟩ => ?_⟩), ⟨fun Dd G H S σV σ Dh eo k s h => ?_⟩⟩
  · subst e1 e2
    exact (hsu a oe x dd pn hx hz hf).can.run pins s σ H D I q
  · refine ⟨_, G, S, σ, ?_, k, s, h⟩
    refine ⟨eo.nx, eo.rt, eo.bk, eo.ct, fun Ca d σ' S' G' H' σV' q k' f' s' => ?_⟩
    obtain ⟨x, hx, rfl, q1, q2⟩ := q
    refine ⟨subN x c, (E.two x hx c hU).1, fun hb a _ => ⟨x, d, hx, rfl, rfl, ⟨_, G', S', _, ?_, k', s'.set i (.ref a), q1 hb a⟩⟩, fun hb => eo.ex _ _ _ _ _ _ _ (q2 hb) k' f' s'⟩
    have e2 := eo.mono f'
    exact ⟨⟨fun σ3 S3 G3 H3 σV3 q k f s => e2.nx.go _ _ G3 H3 _ q k.drop f.drop (s.unset i)⟩, fun v S3 G3 H3 u q k f r => e2.rt v _ G3 H3 u q k.drop f.drop r, ⟨fun σ3 S3 G3 H3 σV3 q k f s => e2.bk.go _ _ G3 H3 _ q k.drop f.drop (s.unset i)⟩, ⟨fun σ3 S3 G3 H3 σV3 q k f s => e2.ct.go _ _ G3 H3 _ q k.drop f.drop (s.unset i)⟩, fun _ _ _ _ _ _ _ q => q.elim⟩
/-- clauses without a name -/
inductive DHd (X : Cx) (C : Str → Addr) (T U : List Str) : List ExceptHandler → List (Str × (Addr → Str → Addr → DTS)) → Prop
  | nil : DHd X C T U [] []
  | cons {c : Str} {r : Addr → Str → Addr → DTS} {b₀ : Stmt} {suite : List Stmt} {np pos' : Pos} {hds : List ExceptHandler} {l : List (Str × (Addr → Str → Addr → DTS))} (hU : c ∈ U) (hg : Gl X c) (hd : (c == ("__debug__" : Str)) = false)
      (hsu : ∀ (a : Addr) (oe : Obj) (x : Str) (d : Addr) (pn : List (Addr × Obj)), x ∈ T → Zc (.ref (C x)) (some d) oe → (∃ vs, oe.data = .fields vs) → DSs (X.suite a ((a, oe) :: pn)) W0 (b₀ :: suite) (r a x d)) (rr : DHd X C T U hds l) :
      DHd X C T U (.ExceptHandler (some (.Name c np)) none (b₀ :: suite) pos' :: hds) ((c, r) :: l)
def exM (C : Str → Addr) (Z : DEnds) (x : Str) (d : Addr) (σ : DSt) (S : Sto) : List (Str × (Addr → Str → Addr → DTS)) → Prop
  | [] => Z.ex (C x) d σ S
  | (c, r) :: l => (subN x c = true → ∀ a, r a x d ⟨fun σ3 S3 => Z.nx σ3 (rem S3 d), fun v S3 => Z.rt v (rem S3 d), fun σ3 S3 => Z.bk σ3 (rem S3 d), fun σ3 S3 => Z.ct σ3 (rem S3 d), fun _ _ _ _ => False⟩ σ S) ∧ (subN x c = false → exM C Z x d σ S l)
def hdM (K : PySem.W.Frag) (C : Str → Addr) (T : List Str) : List (Str × (Addr → Str → Addr → DTS)) → List (Value × (Addr → Value → Option Addr → TS))
  | [] => []
  | (c, r) :: l => (.ref (C c), fun a cls d D σ H => ∃ x dd, x ∈ T ∧ cls = .ref (C x) ∧ d = some dd ∧ hS K W0 (r a x dd) D σ H) :: hdM K C T l
theorem hdM_ok (E : ErrT X.K X.mg C T U) {hds : List ExceptHandler} {l : List (Str × (Addr → Str → Addr → DTS))} (h : DHd X C T U hds l) : HdsOk X hds (hdM X.K C T l) := by
  induction h with
  | nil => exact .nil
  | cons hU hg hd hsu rr ih =>
    refine .cons ⟨hg, hd, .inl (E.glb _ hU).1⟩ (fun a oe cls d pn hz hf => ⟨fun pins s σ H D I ⟨x, dd, hx, e1, e2, q⟩ => ?_⟩) ih
    subst e1 e2
    exact (hsu a oe x dd pn hx hz hf).can.run pins s σ H D I q
theorem exM_ok (E : ErrT X.K X.mg C T U) {Z : DEnds} {G H : Hp} {S : Sto} {Dh : Ends} (e : EndsOk X.K W Z G H S Dh) {x : Str} {d : Addr} (hx : x ∈ T) {G' H' : Hp} {S' : Sto} {σV : L2.St} {σ : DSt} (k : Wok X.K G' H' S') (f : Fr G H S G' H' S') (s : Sl X.K G' σV σ)
    {hds : List ExceptHandler} {l : List (Str × (Addr → Str → Addr → DTS))} (h : DHd X C T U hds l) : exM C Z x d σ S' l → wMany X.K W Dh (hdM X.K C T l) (.ref (C x)) (some d) σV H' := by
  induction h with
  | nil => exact fun q => e.ex _ _ _ _ _ _ _ q k f s
  | @cons c r b₀ suite np pos' hds l hU hg hd hsu rr ih =>
    intro ⟨q1, q2⟩
    refine ⟨subN x c, (E.two x hx c hU).1, fun hb a _ => ⟨x, d, hx, rfl, rfl, ⟨_, G', S', σ, ?_, k, s, q1 hb a⟩⟩, fun hb => ih (q2 hb)⟩
    have e2 := e.mono f
    exact ⟨⟨fun σ3 S3 G3 H3 σV3 q k f s => e2.nx.go _ _ G3 H3 _ q k.drop f.drop s⟩, fun v S3 G3 H3 u q k f r => e2.rt v _ G3 H3 u q k.drop f.drop r, ⟨fun σ3 S3 G3 H3 σV3 q k f s => e2.bk.go _ _ G3 H3 _ q k.drop f.drop s⟩, ⟨fun σ3 S3 G3 H3 σV3 q k f s => e2.ct.go _ _ G3 H3 _ q k.drop f.drop s⟩, fun _ _ _ _ _ _ _ q => q.elim⟩
theorem ds_tryMany {body : List Stmt} {h₀ : ExceptHandler} {hds : List ExceptHandler} {l : List (Str × (Addr → Str → Addr → DTS))} {pos : Pos} {rb : DTS} (hs : X.stack = X.env :: X.outer) (hf : X.env.frame = some X.env.locals) (tk : Takes X W) (E : ErrT X.K X.mg C T U)
    (hb : ∀ (W : WX) (pn : List (Addr × Obj)) (xe : Value → Shared → Prop), Takes (X.tr pn xe) W → PassesOwn (model X.prog X.w) X.A X.env xe → DSs (X.tr pn xe) W body rb) (hh : DHd X C T U (h₀ :: hds) l) :
    DS X W (.Try body (h₀ :: hds) [] [] pos) (fun Z σ S => rb ⟨Z.nx, Z.rt, Z.bk, Z.ct, fun Ca d σ' S' => ∃ x ∈ T, Ca = C x ∧ exM C Z x d σ' S' l⟩ σ S) := by
  refine ⟨_, ps_try_many (tb := fun W => hS X.K W rb) hs hf tk (fun W pn xe tk ps => (hb W pn xe tk ps).can) (hdM_ok E hh), ⟨fun Dd G H S σV σ Dh eo k s h => ?_⟩⟩
  refine ⟨_, G, S, σ, ?_, k, s, h⟩
  refine ⟨eo.nx, eo.rt, eo.bk, eo.ct, fun Ca d σ' S' G' H' σV' q k' f' s' => ?_⟩
  obtain ⟨x, hx, rfl, q⟩ := q
  exact exM_ok E eo hx k' f' s' hh q
end
/-- no caught error is held -/
def noX : Env → Bool
  | [] => true
  | s :: r => (match s.core with | .x _ _ => false | _ => true) && noX r
def unX {β : Type} (i : Nat) (μ : Env) (k : Env → β) (b : β) : β := match μ[i]? with
  | some (.x _ _) => guard (noX (μ.set i .un)) (k (μ.set i .un)) b
  | _ => b
/-- within a suite that names the error at i -/
def zSuite {β : Type} (i : Nat) (z : ZM β) : ZM β := ⟨fun μ => unX i μ z.nx z.bad, fun d μ => unX i μ (z.rt d) z.bad, fun μ => unX i μ z.bk z.bad, fun μ => unX i μ z.ct z.bad, fun _ _ _ => z.bad, z.bad⟩
def zPlain {β : Type} (z : ZM β) : ZM β := ⟨fun μ => guard (noX μ) (z.nx μ) z.bad, fun d μ => guard (noX μ) (z.rt d μ) z.bad, fun μ => guard (noX μ) (z.bk μ) z.bad, fun μ => guard (noX μ) (z.ct μ) z.bad, fun _ _ _ => z.bad, z.bad⟩
def mTryAs (T : List Str) (c : Str) (i : Nat) (s h : MS) : MS := fun β z μ => s β ⟨z.nx, z.rt, z.bk, z.ct, fun c' fs μ' => guard (T.contains c') (if subN c' c then guard (noX μ') (setS i (.x c' fs) μ' (fun μ2 => h β (zSuite i z) μ2) z.bad) z.bad else z.ex c' fs μ') z.bad, z.bad⟩ μ
def dispM {β : Type} (z : ZM β) (c' : Str) (fs : Flds) (μ' : Env) : List (Str × MS) → β
  | [] => z.ex c' fs μ'
  | (c, h) :: l => if subN c' c then guard (noX μ') (h β (zPlain z) μ') z.bad else dispM z c' fs μ' l
def mTryM (T : List Str) (s : MS) (l : List (Str × MS)) : MS := fun β z μ => s β ⟨z.nx, z.rt, z.bk, z.ct, fun c' fs μ' => guard (T.contains c') (dispM z c' fs μ' l) z.bad, z.bad⟩ μ
section
variable {C : Str → Addr} {ax ax' : Ax} {fx : Fx} {μ : Env} {σ : DSt} {S : Sto}
theorem slot_ax {A : Nat → Addr} {i : Nat} : ∀ {s : SV}, (match s.core with | .x _ _ => false | _ => true) = true → SlotOk ax A σ S i s → SlotOk ax' A σ S i s
  | .un, _, q => q
  | .v _, _, q => q
  | .l _ _, _, q => q
  | .k _ _, _, q => q
  | .x _ _, h, _ => by cases h
  | .p s, h, q => slot_ax (s := s) h q
theorem noX_ok : ∀ {μ : Env}, noX μ = true → ∀ (i : Nat) (s : SV), μ[i]? = some s → (match s.core with | .x _ _ => false | _ => true) = true
  | [], _, i, s, e => by simp at e
  | t :: r, h, i, s, e => by
    rw [noX, Bool.and_eq_true] at h
    cases i with
    | zero => simp at e; subst e; exact h.1
    | succ i => exact noX_ok h.2 i s (by simpa using e)
theorem Rel.toAx (r : Rel ax fx μ σ S) (h : noX μ = true) (ht : ax'.tb = ax.tb) : Rel ax' fx μ σ S := by
  obtain ⟨A, a⟩ := r
  exact ⟨A, a.lenμ, a.lenσ, fun i s e => slot_ax (noX_ok h i s e) (a.slot i s e), a.inj, a.new, a.ext, a.fr, a.io, a.oi, by rw [ht]; exact a.tb⟩
/-- the error comes -/
theorem Rel.newX {i : Nat} {c : Str} {fs : Flds} {a p : Addr} {s : SV} (h : Rel ax fx μ σ S) (nx : noX μ = true) (hp : S p = none) (hi : ∀ s, μ[i]? ≠ some (.p s)) (he : μ[i]? = some s) (ho : s.own = false) : Rel ⟨a, p, c, ax.tb, ax.fm⟩ fx (μ.set i (.x c fs)) (σ.set i (some (.ref a))) (put S p (.xd fs)) := by
  have h : Rel ⟨a, p, c, ax.tb, ax.fm⟩ fx μ σ S := h.toAx nx rfl
  have hl := h.len he
  obtain ⟨A, r⟩ := h
  refine ⟨_, r.set (p := p) hi (fun t e f => by rw [he] at e; cases e; rw [ho] at f; cases f) (fun o => by cases o) (by simp) (fun j c => List.getElem?_set_ne fun z => c z.symm) (fun j s m _ e d => put_ne (r.far hp e d)) (fun b m e => put_ext hp b m (r.ext b m e)) ⟨rfl, ?_, ?_, ?_⟩ fun m _ => ⟨r.S0n hp, fun j t n _ e d => r.far hp e d⟩⟩
  · exact set_get hl
  · simp
  · simp [put_same]
/-- the error goes -/
theorem Rel.goX {i : Nat} {c : Str} {fs : Flds} {a p : Addr} {o : Option D} {x : Str} (h : Rel ⟨a, p, x, ax.tb, ax.fm⟩ fx μ σ S) (he : μ[i]? = some (.x c fs)) (nx : noX (μ.set i .un) = true) : Rel ax fx (μ.set i .un) (σ.set i o) (rem S p) := by
  refine Rel.toAx (ax := ⟨a, p, x, ax.tb, ax.fm⟩) ?_ nx rfl
  obtain ⟨A, r⟩ := h
  have sl := r.slot i _ he
  have far : ∀ j s m, j ≠ i → μ[j]? = some s → s.dm = some m → A j ≠ p := fun j s m c f d z => c (r.inj j i s _ m _ f he d rfl (by rw [sl.2.2.1]; exact z))
  have n0 := r.new i _ _ he rfl
  rw [sl.2.2.1] at n0
  exact ⟨_, r.set (p := A i) (fun s f => by rw [he] at f; cases f) (fun t f g => by rw [he] at f; cases f; cases g) (fun o => by cases o) (by simp) (fun j c => List.getElem?_set_ne fun z => c z.symm) (fun j s m c f d => rem_ne (far j s m c f d)) (fun b m f => by rw [rem_ne (fun z => by rw [z, n0] at f; cases f)]; exact r.ext b m f) trivial fun m f => nomatch f⟩
/-- a dict that nobody holds goes -/
theorem Rel.goD {p : Addr} (h : Rel ax fx μ σ S) (h0 : fx.S0 p = none) (hn : ∀ A, Rl ax fx μ σ S A → ∀ (i : Nat) (s : SV) (m : DM), μ[i]? = some s → s.dm = some m → A i ≠ p) : Rel ax fx μ σ (rem S p) := by
  obtain ⟨A, r⟩ := h
  exact ⟨A, r.lenμ, r.lenσ, fun i s e => slot_same rfl rfl (fun m d => rem_ne (hn A r i s m e d)) (r.slot i s e), r.inj, r.new, fun b m e => by rw [rem_ne (fun z => by rw [z, h0] at e; cases e)]; exact r.ext b m e, r.fr, r.io, r.oi, r.tb⟩
theorem RetOk.rem {ax ax' : Ax} {fx fx' : Fx} {S : Sto} {q : Addr} {d d0 : D} (h : RetOk ax fx S d d0) (hf : ax'.fm = ax.fm) (h0 : ∀ p, fx.S0 p = none → fx'.S0 p = none) (hq : ∃ fs, S q = some (.xd fs)) (hi : fx'.io = fx.io := by rfl) : RetOk ax' fx' (rem S q) d d0 := h.to hf h0 hi fun p xs e => by
  rw [rem_ne fun z => by subst z; obtain ⟨fs, g⟩ := hq; rw [e] at g; cases g]; exact e
theorem Rel.xdD {i : Nat} {c : Str} {fs : Flds} {a p : Addr} {x : Str} {tb : List (Addr × Str)} {b : Bool} (h : Rel ⟨a, p, x, tb, b⟩ fx μ σ S) (he : μ[i]? = some (.x c fs)) : ∃ fs, S p = some (.xd fs) := by
  obtain ⟨A, r⟩ := h
  have sl := r.slot i _ he
  exact ⟨fs, by have := sl.2.2.2; rw [sl.2.2.1] at this; exact this⟩
theorem unX_ok {β : Type} {i : Nat} {k : Env → β} {b : β} {Φ : β → Prop} (h : Φ (unX i μ k b)) (hb : ¬ Φ b) : ∃ c fs, μ[i]? = some (.x c fs) ∧ noX (μ.set i .un) = true ∧ Φ (k (μ.set i .un)) := by
  unfold unX at h
  split at h
  · obtain ⟨h1, h2⟩ := guard_ok h hb
    exact ⟨_, _, by assumption, h1, h2⟩
  · exact absurd h hb
end
section
variable {C : Str → Addr} {ax : Ax} {X : Cx} {W : WX} {T U : List Str} {s h : MS}
theorem xs_tryAs {c n : Str} {i : Nat} {body suite : List Stmt} {b₀ : Stmt} {np pos' pos : Pos} (hs : X.stack = X.env :: X.outer) (hf : X.env.frame = some X.env.locals) (hN : X.N.Nodup) (hi : X.N[i]? = some n) (hln : X.env.kindOf n = some .local) (tk : Takes X W) (E : ErrT X.K X.mg C T U) (hU : c ∈ U) (hg : Gl X c) (hd : (c == ("__debug__" : Str)) = false)
    (hb : ∀ (W : WX) (pn : List (Addr × Obj)) (xe : Value → Shared → Prop), Takes (X.tr pn xe) W → PassesOwn (model X.prog X.w) X.A X.env xe → XSs C ax (X.tr pn xe) W body s)
    (hsu : ∀ (a : Addr) (oe : Obj) (x : Str) (d : Addr) (pn : List (Addr × Obj)), x ∈ T → Zc (.ref (C x)) (some d) oe → (∃ vs, oe.data = .fields vs) → XSs C ⟨a, d, x, ax.tb, ax.fm⟩ (X.suite a ((a, oe) :: pn)) W0 (b₀ :: suite) h) :
    XS C ax X W (.Try body [.ExceptHandler (some (.Name c np)) (some n) (b₀ :: suite) pos'] [] [] pos) (mTryAs T c i s h) := dsI (ds_tryAs hs hf hN hi hln tk E hU hg hd hb hsu) fun Z σ S ⟨fx, μ, β, z, Φ, r, o, h0⟩ => by
  refine ⟨fx, μ, β, _, Φ, r, ?_, (show Φ (s β _ μ) from h0)⟩
  refine ⟨o.bad, o.nx, o.rt, o.bk, o.ct, fun c' fs μ' σ' S' r' h' p hp => ?_⟩
  obtain ⟨hT, h'⟩ := guard_ok h' o.bad
  refine ⟨c', by simpa using hT, rfl, fun hc a => ?_, fun hc => ?_⟩
  · rw [if_pos hc] at h'
    obtain ⟨hx, h'⟩ := guard_ok h' o.bad
    obtain ⟨h', u, q1, q2, q3⟩ := setS_ok h' o.bad
    refine ⟨fx, _, β, zSuite i z, Φ, r'.newX hx hp q2 q1 q3, ⟨o.bad, fun μ3 σ3 S3 r3 h3 => ?_, fun d d0 μ3 σ3 S3 r3 hr3 h3 => ?_, fun μ3 σ3 S3 r3 h3 => ?_, fun μ3 σ3 S3 r3 h3 => ?_, fun _ _ _ _ _ _ z => absurd z o.bad⟩, h'⟩
    · obtain ⟨c3, fs3, w1, w2, w3⟩ := unX_ok h3 o.bad
      exact o.nx _ _ _ (r3.goX w1 w2) w3
    · obtain ⟨c3, fs3, w1, w2, w3⟩ := unX_ok h3 o.bad
      exact o.rt d d0 _ _ _ (r3.goX (o := none) w1 w2) (hr3.rem rfl (fun _ e => e) (r3.xdD w1)) w3
    · obtain ⟨c3, fs3, w1, w2, w3⟩ := unX_ok h3 o.bad
      exact o.bk _ _ _ (r3.goX w1 w2) w3
    · obtain ⟨c3, fs3, w1, w2, w3⟩ := unX_ok h3 o.bad
      exact o.ct _ _ _ (r3.goX w1 w2) w3
  · rw [if_neg (by rw [hc]; exact Bool.false_ne_true)] at h'
    exact o.ex c' fs μ' σ' S' r' h' p hp
/-- mirrors of clauses without a name -/
inductive XHd (X : Cx) (C : Str → Addr) (T U : List Str) : List ExceptHandler → List (Str × MS) → Prop
  | nil : XHd X C T U [] []
  | cons {c : Str} {h : MS} {b₀ : Stmt} {suite : List Stmt} {np pos' : Pos} {hds : List ExceptHandler} {l : List (Str × MS)} (hU : c ∈ U) (hg : Gl X c) (hd : (c == ("__debug__" : Str)) = false)
      (hsu : ∀ (ax : Ax) (a : Addr) (oe : Obj) (x : Str) (d : Addr) (pn : List (Addr × Obj)), x ∈ T → Zc (.ref (C x)) (some d) oe → (∃ vs, oe.data = .fields vs) → XSs C ax (X.suite a ((a, oe) :: pn)) W0 (b₀ :: suite) h) (rr : XHd X C T U hds l) :
      XHd X C T U (.ExceptHandler (some (.Name c np)) none (b₀ :: suite) pos' :: hds) ((c, h) :: l)
def rdH (C : Str → Addr) (ax : Ax) : List (Str × MS) → List (Str × (Addr → Str → Addr → DTS))
  | [] => []
  | (c, h) :: l => (c, fun _ _ _ => rdS C ax h) :: rdH C ax l
theorem xhd_ok (ax : Ax) {hds : List ExceptHandler} {l : List (Str × MS)} (h : XHd X C T U hds l) : DHd X C T U hds (rdH C ax l) := by
  induction h with
  | nil => exact .nil
  | cons hU hg hd hsu rr ih => exact .cons hU hg hd (fun a oe x d pn hx hz hf => hsu ax a oe x d pn hx hz hf) ih
theorem disp_ok {Z : DEnds} {fx : Fx} {β : Type} {z : ZM β} {Φ : β → Prop} (o : ZOk C ax fx Z z Φ) {c' : Str} {fs : Flds} {μ' : Env} {σ' : DSt} {S' : Sto} {p : Addr} (r' : Rel ax fx μ' σ' S') (hp : S' p = none) : ∀ {l : List (Str × MS)}, Φ (dispM z c' fs μ' l) → exM C Z c' p σ' (put S' p (.xd fs)) (rdH C ax l)
  | [], h => o.ex c' fs μ' σ' S' r' h p hp
  | (c, h) :: l, h' => by
    unfold dispM at h'
    refine ⟨fun hc a => ?_, fun hc => ?_⟩
    · rw [if_pos hc] at h'
      obtain ⟨hx, h'⟩ := guard_ok h' o.bad
      obtain ⟨A, ra⟩ := r'
      have h0 : fx.S0 p = none := ra.S0n hp
      have r2 : Rl ax fx μ' σ' (put S' p (.xd fs)) A := ra.sto (put_ext hp)
      -- the dict stays nobody's: the store that keeps tells so
      refine ⟨⟨fx.n, fx.fr, put fx.S0 p (.xd fs), fx.io⟩, μ', β, _, Φ, ⟨A, r2.lenμ, r2.lenσ, r2.slot, r2.inj, fun i s m e d => by
        show put fx.S0 p (.xd fs) (A i) = none
        rw [put_ne (ra.far hp e d)]; exact ra.new i s m e d, fun b m e => ?_, r2.fr, r2.io, r2.oi, fun e m => by
        show put fx.S0 p (.xd fs) e.1 = _
        rw [put_ne fun z => by have := ra.tb e m; rw [z, h0] at this; cases this]; exact ra.tb e m⟩, ?_, h'⟩
      · by_cases c : b = p
        · subst c
          have e : put fx.S0 b (.xd fs) b = some m := e
          rw [put_same] at e ⊢; exact e
        · have e : put fx.S0 p (.xd fs) b = some m := e
          rw [put_ne c] at e; exact r2.ext b m e
      · have back : ∀ {μ3 : Env} {σ3 : DSt} {S3 : Sto}, Rel ax ⟨fx.n, fx.fr, put fx.S0 p (.xd fs), fx.io⟩ μ3 σ3 S3 → Rel ax fx μ3 σ3 (rem S3 p) := fun {μ3 σ3 S3} ⟨B, b⟩ => by
          have far : ∀ (i : Nat) (s : SV) (m : DM), μ3[i]? = some s → s.dm = some m → B i ≠ p := fun i s m e d z => by
            have := b.new i s m e d
            rw [z] at this
            have this : put fx.S0 p (.xd fs) p = none := this
            rw [put_same] at this; cases this
          refine ⟨B, b.lenμ, b.lenσ, fun i s e => slot_same rfl rfl (fun m d => rem_ne (far i s m e d)) (b.slot i s e), b.inj, fun i s m e d => ?_, fun q m e => ?_, b.fr, b.io, b.oi, fun e me => by
            have t : put fx.S0 p (.xd fs) e.1 = some (.tab e.2 ax.tb) := b.tb e me
            by_cases c : e.1 = p
            · rw [c, put_same] at t; cases t
            · rwa [put_ne c] at t⟩
          · have := b.new i s m e d
            have this : put fx.S0 p (.xd fs) (B i) = none := this
            rwa [put_ne (far i s m e d)] at this
          · have ne : q ≠ p := fun z => by rw [z, h0] at e; cases e
            rw [rem_ne ne]
            exact b.ext q m (by show put fx.S0 p (.xd fs) q = some m; rw [put_ne ne]; exact e)
        refine ⟨o.bad, fun μ3 σ3 S3 r3 h3 => ?_, fun d d0 μ3 σ3 S3 r3 hr3 h3 => ?_, fun μ3 σ3 S3 r3 h3 => ?_, fun μ3 σ3 S3 r3 h3 => ?_, fun _ _ _ _ _ _ z => absurd z o.bad⟩
        · exact o.nx _ _ _ (back r3) (guard_ok h3 o.bad).2
        · exact o.rt d d0 _ _ _ (back r3) (hr3.rem rfl (fun q e => by
          have e : put fx.S0 p (.xd fs) q = none := e
          by_cases c : q = p
          · rw [c]; exact h0
          · rwa [put_ne c] at e) (let ⟨B, b⟩ := r3; ⟨fs, b.ext p _ (put_same)⟩)) (guard_ok h3 o.bad).2
        · exact o.bk _ _ _ (back r3) (guard_ok h3 o.bad).2
        · exact o.ct _ _ _ (back r3) (guard_ok h3 o.bad).2
    · rw [if_neg (by rw [hc]; exact Bool.false_ne_true)] at h'
      exact disp_ok o r' hp h'
theorem xs_tryMany {body : List Stmt} {h₀ : ExceptHandler} {hds : List ExceptHandler} {l : List (Str × MS)} {pos : Pos} (hs : X.stack = X.env :: X.outer) (hf : X.env.frame = some X.env.locals) (tk : Takes X W) (E : ErrT X.K X.mg C T U)
    (hb : ∀ (W : WX) (pn : List (Addr × Obj)) (xe : Value → Shared → Prop), Takes (X.tr pn xe) W → PassesOwn (model X.prog X.w) X.A X.env xe → XSs C ax (X.tr pn xe) W body s) (hh : XHd X C T U (h₀ :: hds) l) : XS C ax X W (.Try body (h₀ :: hds) [] [] pos) (mTryM T s l) :=
  dsI (ds_tryMany hs hf tk E hb (xhd_ok ax hh)) fun Z σ S ⟨fx, μ, β, z, Φ, r, o, h0⟩ => by
    refine ⟨fx, μ, β, _, Φ, r, ?_, (show Φ (s β _ μ) from h0)⟩
    refine ⟨o.bad, o.nx, o.rt, o.bk, o.ct, fun c' fs μ' σ' S' r' h' p hp => ?_⟩
    obtain ⟨hT, h'⟩ := guard_ok h' o.bad
    exact ⟨c', by simpa using hT, rfl, disp_ok o r' hp h'⟩
/-! the caught error's fields and class -/
def mXf (i : Nat) (n : Str) : Env → P D := fun μ => match μ[i]? with
  | some (.x _ fs) => opt (fs.lookup n)
  | _ => .bad
def mIsX (i : Nat) (y : Str) : Env → P Bool := fun μ => match μ[i]? with
  | some (.x c _) => .ok (subN c y) ()
  | _ => .bad
theorem xe_xf {tb : List (Addr × Str)} {fm : Bool} {a d : Addr} {x : Str} {i : Nat} {n : Str} {X : Cx} {W : WX} {e : Expr} (h : DE X W e (dXf a d i n)) : XE C ⟨a, d, x, tb, fm⟩ X W e (mXf i n) := deI h fun E σ S Q ⟨fx, μ, ⟨A, r⟩, p⟩ => by
  unfold mXf at p
  split at p
  · rename_i c fs hx
    obtain ⟨v, e, q⟩ := post_opt p
    have sl := r.slot i _ hx
    show dVar i E σ S _
    unfold dVar
    rw [sl.2.1]
    exact ⟨rfl, fs, v, by have h1 : A i = d := sl.2.2.1; rw [← h1]; exact sl.2.2.2, e, q⟩
  · exact p.elim
theorem xb_isX {tb : List (Addr × Str)} {fm : Bool} {a d : Addr} {x y : Str} {i : Nat} {X : Cx} {W : WX} {e : Expr} (h : DE X W e (dIsX a d i (subN x y))) : XB C ⟨a, d, x, tb, fm⟩ X W e (mIsX i y) := deI h fun E σ S Q ⟨fx, μ, ⟨A, r⟩, p⟩ => by
  unfold mIsX at p
  split at p
  · rename_i c fs hx
    have sl := r.slot i _ hx
    have ec : c = x := sl.1
    subst ec
    show dVar i E σ S _
    unfold dVar
    rw [sl.2.1]
    exact ⟨rfl, ⟨fs, by have h1 : A i = d := sl.2.2.1; rw [← h1]; exact sl.2.2.2⟩, p⟩
  · exact p.elim
end
/-! ### dict displays -/
abbrev MPS := (α : Type) → Env → (List (D × D) → P α) → P α
def psNil : MPS := fun α μ k => k []
def psCons (a b : Env → P D) (l : MPS) : MPS := fun α μ k => bind (a μ) fun x => bind (b μ) fun y => l α μ fun ps => k ((x, y) :: ps)
def dispD (ps : List (D × D)) : Option D := match pairsK ps with
  | some kvs => if kvs.length ≤ 15 then some (.dic (mergeD [] kvs)) else none
  | none => none
section
variable {C : Str → Addr} {ax : Ax} {X : Cx} {W : WX} {pos : Pos}
inductive XPs (C : Str → Addr) (ax : Ax) (X : Cx) (W : WX) (pos : Pos) : List (Option Expr) → List Expr → MPS → Prop
  | nil : XPs C ax X W pos [] [] psNil
  | cons {k v : Expr} {ks : List (Option Expr)} {vs : List Expr} {a b : Env → P D} {l : MPS} : XE C ax X W k a → XE C ax X W v b → XPs C ax X W pos ks vs l → XPs C ax X W pos (some k :: ks) (v :: vs) (psCons a b l)
theorem ps_ok {keys : List (Option Expr)} {values : List Expr} {l : MPS} (h : XPs C ax X W pos keys values l) : ∃ m, DPPs X W pos keys values m ∧ ∀ (E : DEr) (σ : DSt) (S : Sto) (Q : List (D × D) → Sto → Prop) (fx : Fx) (μ : Env) (α : Type) (k : List (D × D) → P α) (R : α → Prop), Rel ax fx μ σ S → (∀ ps, post C E S R (k ps) → Q ps S) → post C E S R (l α μ k) → dPairs m E σ S Q := by
  induction h with
  | nil => exact ⟨[], dpps_nil, fun E σ S Q fx μ α k R r q p => q [] p⟩
  | @cons k v ks vs a b l hk hv hr ih =>
    obtain ⟨m, h1, h2⟩ := ih
    refine ⟨_, dpps_cons hk hv h1, fun E σ S Q fx μ α k R r q p => ?_⟩
    unfold psCons at p
    rw [post_bind] at p
    refine ⟨fx, μ, r, post_mono (fun x p => ?_) p⟩
    rw [post_bind] at p
    exact ⟨fx, μ, r, post_mono (fun y p => h2 E σ S _ fx μ α _ R r (fun ps p => q _ p) p) p⟩
theorem xe_disp {keys : List (Option Expr)} {values : List Expr} {l : MPS} (h : XPs C ax X W pos keys values l) (hall : keys.all (·.isSome) = true) (hl : keys.length = values.length) (h0 : keys ≠ []) (hn : keys.length ≤ 15) : XE C ax X W (.Dict keys values pos) (fun μ => l D μ fun ps => opt (dispD ps)) := by
  obtain ⟨m, h1, h2⟩ := ps_ok h
  refine deI (de_disp h1 hall hl h0 hn) fun E σ S Q ⟨fx, μ, r, p⟩ => h2 E σ S _ fx μ D _ (fun d => Q d S) r (fun ps p => ?_) p
  obtain ⟨d, e, q⟩ := post_opt p
  unfold dispD at e
  split at e
  · rename_i kvs hk
    split at e
    · cases e; exact ⟨kvs, hk, by assumption, q⟩
    · cases e
  · cases e
end
end KM

set_option maxRecDepth 100000
set_option maxHeartbeats 4000000
/-! Km9: fresh lists by changing elements; several names bound at once; walks that change. -/
namespace KM
open PySem PySem.Spec PyProof.Rows L2 KD
section
variable {C : Str → Addr} {ax : Ax} {X : Cx} {W : WX} {a b c e : Expr} {ma mb : MCA} {mc : MC} {pos : Pos} {st : Stmt} {es : List Expr}
theorem xb_isT {tb : List (Addr × Str)} {fm : Bool} {a d : Addr} {x : Str} {i : Nat} {X : Cx} {W : WX} {e : Expr} (h : DE X W e (dIsX a d i true)) : XB C ⟨a, d, x, tb, fm⟩ X W e (fun μ => match μ[i]? with
  | some (.x _ _) => .ok true ()
  | _ => .bad) := deI h fun E σ S Q ⟨fx, μ, ⟨A, r⟩, p⟩ => by
  dsimp only at p
  split at p
  · rename_i c fs hx
    have sl := r.slot i _ hx
    show dVar i E σ S _
    unfold dVar
    rw [sl.2.1]
    exact ⟨rfl, ⟨fs, by have h1 : A i = d := sl.2.2.1; rw [← h1]; exact sl.2.2.2⟩, p⟩
  · exact p.elim
/-! ### fresh lists -/
def mLstF (l : MA) : ML := fun β μ k ex b => l β μ (fun as μ1 => gotO (valsO as) (fun ds => guard (sizeB ds.length) (k ds μ1) b) b) ex b
theorem xcf_lst {l : MA} (h : XAC C ax X W es l) : XCF C ax X W (.List es pos) (mLstF l) := deI (de_lstM h) fun E σ S Q ⟨fx, μ, β, k, ex, bd, Φ, r, z, h⟩ =>
  ⟨fx, μ, β, _, ex, bd, Φ, r, z.to fun as μ1 S1 r1 h1 ds hds => by
    obtain ⟨ds', e1, h1⟩ := gotO_ok h1 z.bad
    have := vals_ok e1 hds
    subst this
    obtain ⟨hz, h1⟩ := guard_ok h1 z.bad
    exact ⟨size_dec hz, z.k _ μ1 S1 r1 h1⟩, h⟩
theorem xcf_lcC {I : Js} {K : List Nat} {it : Env → P (List D)} {g : DTG} {m : MG} {t : MT} {me : MC} {js : List Nat} (hg : GOk js g m) (hj : ∀ j ∈ js, j ∈ K) (hd : ∀ i ∈ K, i ∉ ixJ I) (h : DE X W e (dLcM (rdI C ax it) g (rdCT C ax t) (rdC C ax me) K)) : XCF C ax X W e (mLcC I K it m t me) := deI h fun E σ S Q ⟨fx, μ, β, k, ex, bd, Φ, r, z, h⟩ =>
  lcC_post (Q := fun ys S => ∀ p, S p = none → Q (.ref p) (put S p (.lst ys))) hg hj hd r z h
/-! ### several names bound at once -/
abbrev MPR := (β : Type) → Env → (List SV → Env → β) → (Str → Flds → Env → β) → β → β
def prNil : MPR := fun β μ k ex b => k [] μ
def prV (m : MC) (l : MPR) : MPR := fun β μ k ex b => m β μ (fun d μ1 => l β μ1 (fun xs μ2 => k (.v d :: xs) μ2) ex b) ex b
def prL (m : ML) (l : MPR) : MPR := fun β μ k ex b => m β μ (fun ys μ1 => l β μ1 (fun xs μ2 => k (.l false ys :: xs) μ2) ex b) ex b
def prK (p : Env → P (List (Key × D))) (l : MPR) : MPR := fun β μ k ex b => got (p μ) (fun ys _ => l β μ (fun xs μ2 => k (.k false ys :: xs) μ2) ex b) (fun c fs _ => ex c fs μ) b
def Fx.plus (fx : Fx) (p : Addr) (m : DM) : Fx := ⟨fx.n, fx.fr, put fx.S0 p m, fx.io⟩
/-- what the values are, the fresh ones held by nobody yet -/
inductive FlR (ax : Ax) : Fx → Env → DSt → Sto → List SV → List D → Prop
  | nil {fx : Fx} {μ : Env} {σ : DSt} {S : Sto} : Rel ax fx μ σ S → FlR ax fx μ σ S [] []
  | v {fx : Fx} {μ : Env} {σ : DSt} {S : Sto} {d : D} {svs : List SV} {ds : List D} : FlR ax fx μ σ S svs ds → FlR ax fx μ σ S (.v d :: svs) (d :: ds)
  | l {fx : Fx} {μ : Env} {σ : DSt} {S : Sto} {p : Addr} {xs : List D} {svs : List SV} {ds : List D} : fx.S0 p = none → FlR ax (fx.plus p (.lst xs)) μ σ S svs ds → FlR ax fx μ σ S (.l false xs :: svs) (.ref p :: ds)
  | k {fx : Fx} {μ : Env} {σ : DSt} {S : Sto} {p : Addr} {xs : List (Key × D)} {svs : List SV} {ds : List D} : fx.S0 p = none → FlR ax (fx.plus p (.dic xs)) μ σ S svs ds → FlR ax fx μ σ S (.k false xs :: svs) (.ref p :: ds)
section
variable {fx : Fx} {μ : Env} {σ : DSt} {S : Sto} {p : Addr} {m : DM}
theorem Rel.float (r : Rel ax fx μ σ S) (hp : S p = none) : fx.S0 p = none ∧ Rel ax (fx.plus p m) μ σ (put S p m) := by
  obtain ⟨A, a⟩ := r
  have h0 := a.S0n hp
  refine ⟨h0, A, a.lenμ, a.lenσ, (a.sto (put_ext hp)).slot, a.inj, fun i s n e d => ?_, fun b n e => ?_, a.fr, a.io, a.oi, fun e me => by
    show put fx.S0 p m e.1 = _
    rw [put_ne fun z => by have := a.tb e me; rw [z, h0] at this; cases this]; exact a.tb e me⟩
  · show put fx.S0 p m (A i) = none
    rw [put_ne (a.far hp e d)]; exact a.new i s n e d
  · have e : put fx.S0 p m b = some n := e
    by_cases c : b = p
    · subst c
      rw [put_same] at e ⊢; exact e
    · rw [put_ne c] at e ⊢; exact a.ext b n e
theorem Rl.unfloat {A : Nat → Addr} (a : Rl ax (fx.plus p m) μ σ S A) (h0 : fx.S0 p = none) (hm : ∀ q l, m ≠ .tab q l := by nofun) : Rl ax fx μ σ S A ∧ (∀ (i : Nat) (s : SV) (n : DM), μ[i]? = some s → s.dm = some n → A i ≠ p) ∧ S p = some m := by
  have far : ∀ (i : Nat) (s : SV) (n : DM), μ[i]? = some s → s.dm = some n → A i ≠ p := fun i s n e d z => by
    have := a.new i s n e d
    rw [z] at this
    have this : put fx.S0 p m p = none := this
    rw [put_same] at this; cases this
  refine ⟨⟨a.lenμ, a.lenσ, a.slot, a.inj, fun i s n e d => ?_, fun b n e => ?_, a.fr, a.io, a.oi, fun e me => by
    have t : put fx.S0 p m e.1 = some (.tab e.2 ax.tb) := a.tb e me
    by_cases c : e.1 = p
    · rw [c, put_same] at t; exact absurd (Option.some.inj t) (hm _ _)
    · rwa [put_ne c] at t⟩, far, a.ext p m (by show put fx.S0 p m p = some m; rw [put_same])⟩
  · have := a.new i s n e d
    have this : put fx.S0 p m (A i) = none := this
    rwa [put_ne (far i s n e d)] at this
  · exact a.ext b n (by show put fx.S0 p m b = some n; rw [put_ne fun z => by rw [z, h0] at e; cases e]; exact e)
theorem Rel.unfloat (r : Rel ax (fx.plus p m) μ σ S) (h0 : fx.S0 p = none) (hm : ∀ q l, m ≠ .tab q l := by nofun) : Rel ax fx μ σ S := let ⟨A, a⟩ := r; ⟨A, (a.unfloat h0 hm).1⟩
theorem plus_comm {q : Addr} {n : DM} (h : q ≠ p) : (fx.plus p m).plus q n = (fx.plus q n).plus p m := by
  show (⟨fx.n, fx.fr, put (put fx.S0 p m) q n, fx.io⟩ : Fx) = ⟨fx.n, fx.fr, put (put fx.S0 q n) p m, fx.io⟩
  congr 1
  funext b
  by_cases c : b = q
  · subst c; rw [put_same, put_ne h, put_same]
  · rw [put_ne c]
    by_cases c' : b = p
    · subst c'; rw [put_same, put_same]
    · rw [put_ne c', put_ne c', put_ne c]
/-- who holds it now -/
def svOf : DM → SV
  | .lst xs => .l false xs
  | .dic xs => .k false xs
  | _ => .un
theorem FlR.adopt {i : Nat} {u : SV} (hm : ∀ q l, m ≠ .tab q l := by nofun) : ∀ {svs : List SV} {ds : List D} {fx : Fx} {σ : DSt}, FlR ax (fx.plus p m) μ σ S svs ds → fx.S0 p = none → (∀ s, μ[i]? ≠ some (.p s)) → μ[i]? = some u → u.own = false → FlR ax fx (μ.set i (svOf m)) (σ.set i (some (.ref p))) S svs ds := by
  intro svs ds fx σ h h0 hi he ho
  generalize hg : fx.plus p m = fx' at h
  induction h generalizing fx with
  | @nil fx' μ σ S r =>
    subst hg
    refine .nil ?_
    have hl := Rel.len (r.unfloat h0 hm) he
    obtain ⟨A, a⟩ := r
    obtain ⟨a, far, hS⟩ := a.unfloat h0 hm
    refine ⟨_, a.set (p := p) hi (fun t e f => by rw [he] at e; cases e; rw [ho] at f; cases f) (fun o => by cases m <;> cases o) (by simp) (fun j c => List.getElem?_set_ne fun z => c z.symm) (fun j s n _ e d => rfl) a.ext ?_ fun n d => ⟨h0, fun j t n c e d => far j t n e d⟩⟩
    cases m with
    | lst xs => exact ⟨by simp [set_get hl], by simp [hS]⟩
    | dic xs => exact ⟨by simp [set_get hl], by simp [hS]⟩
    | _ => trivial
  | v _ ih => exact .v (ih h0 hi he hg)
  | @l fx' μ σ S q xs svs ds hq f ih =>
    subst hg
    have hq : put fx.S0 p m q = none := hq
    have ne : q ≠ p := fun z => by rw [z, put_same] at hq; cases hq
    rw [put_ne ne] at hq
    refine .l hq (ih ?_ hi he (plus_comm ne).symm)
    show put fx.S0 q (.lst xs) p = none
    rw [put_ne ne.symm]; exact h0
  | @k fx' μ σ S q xs svs ds hq f ih =>
    subst hg
    have hq : put fx.S0 p m q = none := hq
    have ne : q ≠ p := fun z => by rw [z, put_same] at hq; cases hq
    rw [put_ne ne] at hq
    refine .k hq (ih ?_ hi he (plus_comm ne).symm)
    show put fx.S0 q (.dic xs) p = none
    rw [put_ne ne.symm]; exact h0
theorem FlR.setV {i : Nat} {u : SV} {svs : List SV} {ds : List D} {d : D} (h : FlR ax fx μ σ S svs ds) (hi : ∀ s, μ[i]? ≠ some (.p s)) (he : μ[i]? = some u) (ho : u.own = false) : FlR ax fx (μ.set i (.v d)) (σ.set i (some d)) S svs ds := by
  induction h with
  | nil r => exact .nil (r.setV d hi he ho)
  | v _ ih => exact .v (ih hi he)
  | l h0 _ ih => exact .l h0 (ih hi he)
  | k h0 _ ih => exact .k h0 (ih hi he)
end
def bindN {β : Type} : List Nat → List SV → Env → (Env → β) → β → β
  | [], [], μ, k, _ => k μ
  | i :: is, s :: ss, μ, k, b => setS i s μ (fun μ1 => bindN is ss μ1 k b) b
  | _, _, _, _, b => b
def setsD : List Nat → List D → DSt → DSt
  | i :: is, d :: ds, σ => setsD is ds (σ.set i (some d))
  | _, _, σ => σ
theorem bindN_ok {β : Type} {Φ : β → Prop} {k : Env → β} {bd : β} (hb : ¬ Φ bd) : ∀ {is : List Nat} {svs : List SV} {ds : List D} {fx : Fx} {μ : Env} {σ : DSt} {S : Sto}, FlR ax fx μ σ S svs ds → Φ (bindN is svs μ k bd) → is.length = ds.length ∧ ∃ μ', Rel ax fx μ' (setsD is ds σ) S ∧ Φ (k μ')
  | [], _, _, fx, μ, σ, S, .nil r, h => ⟨rfl, μ, r, h⟩
  | [], _, _, fx, μ, σ, S, .v _, h => absurd h hb
  | [], _, _, fx, μ, σ, S, .l _ _, h => absurd h hb
  | [], _, _, fx, μ, σ, S, .k _ _, h => absurd h hb
  | i :: is, _, _, fx, μ, σ, S, .nil r, h => absurd h hb
  | i :: is, _, _, fx, μ, σ, S, .v f, h => by
    obtain ⟨h, u, h2, h3, h4⟩ := setS_ok h hb
    obtain ⟨h5, h6⟩ := bindN_ok hb (f.setV h3 h2 h4) h
    exact ⟨by simp [h5], h6⟩
  | i :: is, _, _, fx, μ, σ, S, .l h0 f, h => by
    obtain ⟨h, u, h2, h3, h4⟩ := setS_ok h hb
    obtain ⟨h5, h6⟩ := bindN_ok hb (FlR.adopt (fun _ _ z => by cases z) f h0 h3 h2 h4) h
    exact ⟨by simp [h5], h6⟩
  | i :: is, _, _, fx, μ, σ, S, .k h0 f, h => by
    obtain ⟨h, u, h2, h3, h4⟩ := setS_ok h hb
    obtain ⟨h5, h6⟩ := bindN_ok hb (FlR.adopt (fun _ _ z => by cases z) f h0 h3 h2 h4) h
    exact ⟨by simp [h5], h6⟩
def rdPR (C : Str → Addr) (ax : Ax) (m : MPR) : DTA := fun E σ S Q => ∃ (fx : Fx) (μ : Env) (β : Type) (k : List SV → Env → β) (ex : Str → Flds → Env → β) (b : β) (Φ : β → Prop), Rel ax fx μ σ S ∧ ¬ Φ b ∧ (∀ svs ds μ S, FlR ax fx μ σ S svs ds → Φ (k svs μ) → Q ds S) ∧
  (∀ c fs μ S, Rel ax fx μ σ S → Φ (ex c fs μ) → ∀ p, S p = none → E (C c) p (put S p (.xd fs))) ∧ Φ (m β μ k ex b)
def XPR (C : Str → Addr) (ax : Ax) (X : Cx) (W : WX) (es : List Expr) (m : MPR) : Prop := DA X W es (rdPR C ax m)
variable {l : MPR}
theorem xpr_nil : XPR C ax X W [] prNil := daI da_nil fun E σ S Q ⟨fx, μ, β, k, ex, bd, Φ, r, hb, hk, hx, h⟩ => hk [] [] μ S (.nil r) h
theorem xpr_v (ha : XC C ax X W e mc) (hr : XPR C ax X W es l) (hs : starEach (e :: es) X.env = (false, eval e X.env) :: starEach es X.env := by rfl) : XPR C ax X W (e :: es) (prV mc l) := daI (da_cons ha hr hs) fun E σ S Q ⟨fx, μ, β, k, ex, bd, Φ, r, hb, hk, hx, h⟩ =>
  ⟨fx, μ, β, _, ex, bd, Φ, r, ⟨hb, fun d μ1 S1 r1 h1 => ⟨fx, μ1, β, _, ex, bd, Φ, r1, hb, fun svs ds μ2 S2 f h2 => hk _ _ μ2 S2 (.v f) h2, hx, h1⟩, hx⟩, h⟩
theorem xpr_l {m : ML} (ha : XCF C ax X W e m) (hr : XPR C ax X W es l) (hs : starEach (e :: es) X.env = (false, eval e X.env) :: starEach es X.env := by rfl) : XPR C ax X W (e :: es) (prL m l) := daI (da_cons ha hr hs) fun E σ S Q ⟨fx, μ, β, k, ex, bd, Φ, r, hb, hk, hx, h⟩ =>
  ⟨fx, μ, β, _, ex, bd, Φ, r, ⟨hb, fun ys μ1 S1 r1 h1 p hp => ⟨fx.plus p (.lst ys), μ1, β, _, ex, bd, Φ, (r1.float hp).2, hb, fun svs ds μ2 S2 f h2 => hk _ _ μ2 S2 (.l (r1.float (m := .lst ys) hp).1 f) h2, fun c fs μ3 S3 r3 => hx c fs μ3 S3 (r3.unfloat (r1.float (m := .lst ys) hp).1), h1⟩, hx⟩, h⟩
theorem xpr_k {p : Env → P (List (Key × D))} (ha : XG C ax X W e p) (hr : XPR C ax X W es l) (hs : starEach (e :: es) X.env = (false, eval e X.env) :: starEach es X.env := by rfl) : XPR C ax X W (e :: es) (prK p l) := daI (da_cons ha hr hs) fun E σ S Q ⟨fx, μ, β, k, ex, bd, Φ, r, hb, hk, hx, h⟩ =>
  ⟨fx, μ, r, post_mono (fun ys h1 p hp => ⟨fx.plus p (.dic ys), μ, β, _, ex, bd, Φ, (r.float hp).2, hb, fun svs ds μ2 S2 f h2 => hk _ _ μ2 S2 (.k (r.float (m := .dic ys) hp).1 f) h2, fun c fs μ3 S3 r3 => hx c fs μ3 S3 (r3.unfloat (r.float (m := .dic ys) hp).1), h1⟩) (got_ok (C := C) (E := E) (Q := fun _ _ => True) (k := fun ys μ' => l β μ' (fun xs μ2 => k (.k false ys :: xs) μ2) ex bd) h r ⟨hb, fun _ _ _ _ _ => trivial, hx⟩)⟩
def mParN (is : List Nat) (l : MPR) : MS := fun β z μ => l β μ (fun ss μ1 => bindN is ss μ1 z.nx z.bad) z.ex z.bad
theorem parN_post {Z : DEnds} {σ : DSt} {S : Sto} {is : List Nat} {N : List D → Sto → Prop} (hN : ∀ ds S, is.length = ds.length → Z.nx (setsD is ds σ) S → N ds S) (h : rdS C ax (mParN is l) Z σ S) : rdPR C ax l (exOf Z σ) σ S N := by
  obtain ⟨fx, μ, β, z, Φ, r, o, h⟩ := h
  refine ⟨fx, μ, β, _, z.ex, z.bad, Φ, r, o.bad, fun svs ds μ1 S1 f h1 => ?_, fun c fs μ1 S1 r1 h1 p hp => o.ex c fs μ1 σ S1 r1 h1 p hp, h⟩
  obtain ⟨h2, μ', r', h'⟩ := bindN_ok o.bad f h1
  exact hN ds S1 h2 (o.nx μ' _ S1 r' h')
theorem xs_parN2 {i j : Nat} (h : DS X W st (dPar i j (rdPR C ax l))) : XS C ax X W st (mParN [i, j] l) := dsI h fun Z σ S h => parN_post (fun ds S hl hn => match ds, hl with | [x, y], _ => hn) h
theorem xs_parN3 {i j k : Nat} (h : DS X W st (dPar3 i j k (rdPR C ax l))) : XS C ax X W st (mParN [i, j, k] l) := dsI h fun Z σ S h => parN_post (fun ds S hl hn => match ds, hl with | [x, y, z], _ => hn) h
theorem xg_dict0 : XG C ax X W (.Dict [] [] pos) (fun _ => .ok [] ()) := deI de_dict0M fun E σ S Q ⟨fx, μ, r, p⟩ => p
end
end KM

set_option maxRecDepth 100000
set_option maxHeartbeats 4000000
/-! Km10: walks whose source changes what slots hold; ranges of three. -/
namespace KM
open PySem PySem.Spec PyProof.Rows L2 KD
def rangeC (lo c : Int) (n : Nat) : List D := (List.range n).map fun i => .int (lo + (i : Nat) * c)
theorem wlk_rangeC {K : PySem.W.Frag} {G H : Hp} {S : Sto} (lo c : Int) (n : Nat) : Wlk K (Itc lo c n) (rangeC lo c n) G H S (fun _ => True) (YFn fun i => .int (lo + (i : Nat) * c)) := by
  refine ⟨by have := walk_rangeC (lo := lo) (c := c) (n := n); simpa [rangeC] using this, fun _ _ _ _ _ => trivial, fun i G2 H2 S2 H3 v hi hY k2 f2 => ?_⟩
  obtain ⟨rfl, rfl⟩ := hY
  have hi : i < n := by simpa [rangeC] using hi
  exact ⟨G2, .int (lo + (i : Nat) * c), by simp [rangeC, hi], k2, .refl _ _ _, .int _⟩
def dRange3 (r : DTA) : DTI := fun E σ S Q => r E σ S fun ds S' => match ds with
  | [.int i, .int j, .int c] => ∃ n : Nat, RgC i j c n ∧ Q (rangeC i c n) S'
  | _ => False
theorem di_range3 {X : Cx} {W : WX} {tg a b c : Expr} {pos : Pos} {r : DTA} {p : Pos} (hg : Gl X "range") (hm : X.mg "range" = none) (ha : DA X W [a, b, c] r) (hs : starEach [a, b, c] X.env = (false, eval a X.env) :: starEach [b, c] X.env := by rfl) (hpl : (backTo pos (starEach [b, c] X.env)).any (·.1) = false := by rfl) :
    DI X W tg (.Call (.Name "range" p) [a, b, c] [] pos) (dRange3 r) := by
  obtain ⟨t, p, q⟩ := ha
  refine ⟨_, pi_range3 hg hm p hs hpl, ⟨fun E G H S σV σ Q R w k s h f => ?_⟩⟩
  refine q.run E G H S σV σ _ _ w k s h fun ds S' G' H' vs hd k' g r => ?_
  match ds, vs, r, hd with
  | [.int i, .int j, .int c], _, .cons (.int _) (.cons (.int _) (.cons (.int _) .nil)), hd =>
    obtain ⟨n, h1, h2⟩ := hd
    exact ⟨i, j, c, n, rfl, h1, f _ S' G' H' _ _ _ h2 k' g (wlk_rangeC i c n)⟩
def rng3 (x y z : D) : Option (List D) := match x, y, z with
  | .int i, .int j, .int c => if c ≠ 0 ∧ c.natAbs < 1073741824 ∧ Builtin.Range.small i j c = true then some (rangeC i c (Builtin.Range.rangeSize i j c).toNat) else none
  | _, _, _ => none
theorem size_nn {i j c : Int} (h : c ≠ 0) : 0 ≤ Builtin.Range.rangeSize i j c := by
  unfold Builtin.Range.rangeSize
  split
  · split
    · exact Int.add_nonneg (Int.ediv_nonneg (by omega) (by omega)) (by decide)
    · exact Int.le_refl 0
  · split
    · exact Int.add_nonneg (Int.ediv_nonneg (by omega) (by omega)) (by decide)
    · exact Int.le_refl 0
theorem rng3_ok {i j c : Int} {xs : List D} (e : rng3 (.int i) (.int j) (.int c) = some xs) : ∃ n : Nat, RgC i j c n ∧ xs = rangeC i c n := by
  unfold rng3 at e
  dsimp only at e
  split at e
  · rename_i h
    cases e
    exact ⟨_, ⟨h.1, h.2.1, h.2.2, (Int.toNat_of_nonneg (size_nn h.1)).symm⟩, rfl⟩
  · cases e
def mIt3 (f : D → D → D → Option (List D)) (a b c : Env → P D) : Env → P (List D) := fun μ => bind (a μ) fun x => bind (b μ) fun y => bind (c μ) fun z => opt (f x y z)
def rdIC (C : Str → Addr) (ax : Ax) (m : ML) : DTI := fun E σ S Q => ∃ (fx : Fx) (μ : Env) (β : Type) (k : List D → Env → β) (ex : Str → Flds → Env → β) (b : β) (Φ : β → Prop), Rel ax fx μ σ S ∧ KOk C ax fx E σ k ex b Q Φ ∧ Φ (m β μ k ex b)
/-- a walk whose source changes what slots hold -/
def XIC (C : Str → Addr) (ax : Ax) (X : Cx) (W : WX) (tg e : Expr) (m : ML) : Prop := DI X W tg e (rdIC C ax m)
def lIt1 (f : D → Option (List D)) (a : MC) : ML := fun β μ k ex b => a β μ (fun x μ1 => gotO (f x) (fun xs => k xs μ1) b) ex b
def lIt2 (f : D → D → Option (List D)) (a b : MC) : ML := fun β μ k ex bd => a β μ (fun x μ1 => b β μ1 (fun y μ2 => gotO (f x y) (fun xs => k xs μ2) bd) ex bd) ex bd
def lIt3 (f : D → D → D → Option (List D)) (a b c : MC) : ML := fun β μ k ex bd => a β μ (fun x μ1 => b β μ1 (fun y μ2 => c β μ2 (fun z μ3 => gotO (f x y z) (fun xs => k xs μ3) bd) ex bd) ex bd) ex bd
section
variable {C : Str → Addr} {ax : Ax} {X : Cx} {W : WX} {a b c e tg iter : Expr} {ma mb mc : MC} {pos : Pos} {st : Stmt} {pa pb pc : Env → P D}
theorem xi_range3 {p : Pos} (hg : Gl X "range") (hm : X.mg "range" = none) (ha : XE C ax X W a pa) (hb : XE C ax X W b pb) (hc : XE C ax X W c pc) (hs1 : starEach [c] X.env = (false, eval c X.env) :: starEach [] X.env := by rfl) (hs2 : starEach [b, c] X.env = (false, eval b X.env) :: starEach [c] X.env := by rfl)
    (hs : starEach [a, b, c] X.env = (false, eval a X.env) :: starEach [b, c] X.env := by rfl) (hpl : (backTo pos (starEach [b, c] X.env)).any (·.1) = false := by rfl) : XI C ax X W tg (.Call (.Name "range" p) [a, b, c] [] pos) (mIt3 rng3 pa pb pc) :=
  diI (di_range3 hg hm (da_cons ha (da_cons hb (da_cons hc da_nil hs1) hs2) hs) hs hpl) fun E σ S Q ⟨fx, μ, r, p⟩ => by
    unfold mIt3 at p; rw [post_bind] at p
    refine ⟨fx, μ, r, post_mono (fun x p => ?_) p⟩
    rw [post_bind] at p
    refine ⟨fx, μ, r, post_mono (fun y p => ?_) p⟩
    rw [post_bind] at p
    refine ⟨fx, μ, r, post_mono (fun w p => ?_) p⟩
    obtain ⟨xs, e, q⟩ := post_opt p
    cases x <;> cases y <;> cases w <;> first | (simp only [rng3, reduceCtorEq] at e; done) | skip
    obtain ⟨n, h1, rfl⟩ := rng3_ok e
    exact ⟨n, h1, q⟩
theorem xic_p {it : Env → P (List D)} (h : XI C ax X W tg e it) : XIC C ax X W tg e (lPure it) := diI h fun E σ S Q ⟨fx, μ, β, k, ex, bd, Φ, r, z, h⟩ => ⟨fx, μ, r, post_mono (fun xs q => z.k xs μ S r q) (got_ok h r z)⟩
theorem xic_any (h : XC C ax X W e ma) : XIC C ax X W tg e (lIt1 iterD ma) := diI (di_any h) fun E σ S Q ⟨fx, μ, β, k, ex, bd, Φ, r, z, h⟩ =>
  ⟨fx, μ, β, _, ex, bd, Φ, r, z.to fun x μ1 S1 r1 h1 => by
    obtain ⟨xs, e, q⟩ := gotO_ok h1 z.bad
    have q := z.k xs μ1 S1 r1 q
    cases x <;> simp only [iterD, reduceCtorEq, Option.some.injEq] at e <;> (subst e; exact q), h⟩
theorem xic_range1 {p : Pos} (hg : Gl X "range") (hm : X.mg "range" = none) (ha : XC C ax X W a ma) (hs : starEach [a] X.env = [(false, eval a X.env)] := by rfl) (hs' : starEach [a] X.env = (false, eval a X.env) :: starEach [] X.env := by rfl) : XIC C ax X W tg (.Call (.Name "range" p) [a] [] pos) (lIt1 rng1 ma) :=
  diI (di_range1 hg hm (da_cons ha da_nil hs') hs) fun E σ S Q ⟨fx, μ, β, k, ex, bd, Φ, r, z, h⟩ => ⟨fx, μ, β, _, ex, bd, Φ, r, ⟨z.bad, fun x μ1 S1 r1 h1 => (by
    obtain ⟨xs, e, q⟩ := gotO_ok h1 z.bad
    have q := z.k xs μ1 S1 r1 q
    cases x <;> simp only [rng1, reduceCtorEq] at e
    split at e
    · rename_i c
      cases e; exact ⟨by omega, by omega, q⟩
    · cases e), z.ex⟩, h⟩
theorem xic_range2 {p : Pos} (hg : Gl X "range") (hm : X.mg "range" = none) (ha : XC C ax X W a ma) (hb : XC C ax X W b mb) (hs : starEach [a, b] X.env = [(false, eval a X.env), (false, eval b X.env)] := by rfl) (hs2 : starEach [b] X.env = [(false, eval b X.env)] := by rfl)
    (hs' : starEach [a, b] X.env = (false, eval a X.env) :: starEach [b] X.env := by rfl) (hs'' : starEach [b] X.env = (false, eval b X.env) :: starEach [] X.env := by rfl) : XIC C ax X W tg (.Call (.Name "range" p) [a, b] [] pos) (lIt2 rng2 ma mb) :=
  diI (di_range2 hg hm (da_cons ha (da_cons hb da_nil hs'') hs') hs hs2) fun E σ S Q ⟨fx, μ, β, k, ex, bd, Φ, r, z, h⟩ => ⟨fx, μ, β, _, ex, bd, Φ, r, ⟨z.bad, fun x μ1 S1 r1 h1 => ⟨fx, μ1, β, _, ex, bd, Φ, r1, ⟨z.bad, fun y μ2 S2 r2 h2 => (by
    obtain ⟨xs, e, q⟩ := gotO_ok h2 z.bad
    have q := z.k xs μ2 S2 r2 q
    cases x <;> cases y <;> simp only [rng2, reduceCtorEq] at e
    split at e
    · rename_i c
      cases e; exact ⟨⟨by omega, by omega, by omega, by omega⟩, q⟩
    · cases e), z.ex⟩, h1⟩, z.ex⟩, h⟩
theorem xic_range3 {p : Pos} (hg : Gl X "range") (hm : X.mg "range" = none) (ha : XC C ax X W a ma) (hb : XC C ax X W b mb) (hc : XC C ax X W c mc) (hs1 : starEach [c] X.env = (false, eval c X.env) :: starEach [] X.env := by rfl) (hs2 : starEach [b, c] X.env = (false, eval b X.env) :: starEach [c] X.env := by rfl)
    (hs : starEach [a, b, c] X.env = (false, eval a X.env) :: starEach [b, c] X.env := by rfl) (hpl : (backTo pos (starEach [b, c] X.env)).any (·.1) = false := by rfl) : XIC C ax X W tg (.Call (.Name "range" p) [a, b, c] [] pos) (lIt3 rng3 ma mb mc) :=
  diI (di_range3 hg hm (da_cons ha (da_cons hb (da_cons hc da_nil hs1) hs2) hs) hs hpl) fun E σ S Q ⟨fx, μ, β, k, ex, bd, Φ, r, z, h⟩ => ⟨fx, μ, β, _, ex, bd, Φ, r, ⟨z.bad, fun x μ1 S1 r1 h1 => ⟨fx, μ1, β, _, ex, bd, Φ, r1, ⟨z.bad, fun y μ2 S2 r2 h2 => ⟨fx, μ2, β, _, ex, bd, Φ, r2, ⟨z.bad, fun w μ3 S3 r3 h3 => (by
    obtain ⟨xs, e, q⟩ := gotO_ok h3 z.bad
    have q := z.k xs μ3 S3 r3 q
    cases x <;> cases y <;> cases w <;> first | (simp only [rng3, reduceCtorEq] at e; done) | skip
    obtain ⟨n, h1, rfl⟩ := rng3_ok e
    exact ⟨n, h1, q⟩), z.ex⟩, h2⟩, z.ex⟩, h1⟩, z.ex⟩, h⟩
theorem xic_enum {p tpos : Pos} {elts : List Expr} {kk : Nat} (hg : Gl X "enumerate") (hm : X.mg "enumerate" = none) (ha : XC C ax X W a ma) (hs : starEach [a] X.env = [(false, eval a X.env)] := by rfl) (hs' : starEach [a] X.env = (false, eval a X.env) :: starEach [] X.env := by rfl) : XIC C ax X W (.Tuple elts kk tpos) (.Call (.Name "enumerate" p) [a] [] pos) (lIt1 enumI ma) :=
  diI (di_enum hg hm (da_cons ha da_nil hs') hs) fun E σ S Q ⟨fx, μ, β, k, ex, bd, Φ, r, z, h⟩ => ⟨fx, μ, β, _, ex, bd, Φ, r, ⟨z.bad, fun x μ1 S1 r1 h1 => (by
    obtain ⟨xs, e, q⟩ := gotO_ok h1 z.bad
    have q := z.k xs μ1 S1 r1 q
    unfold enumI at e
    split at e
    · rename_i ys h
      cases e
      show match itemsOf x with | some xs => Q (enumD xs) S1 | none => False
      rw [h]; exact q
    · cases e), z.ex⟩, h⟩
def pureI (xs : List D) : Env → P (List D) := fun _ => .ok xs ()
def mForC (I J : Js) (K : List Nat) (it : ML) (g : MG) (s : MS) : MS := fun β z μ => it β μ (fun xs μ1 => mFor I J K (pureI xs) g s β z μ1) z.ex z.bad
theorem xs_forC {I J : Js} {K : List Nat} {body : List Stmt} {it : ML} {js : List Nat} {g : DTG} {mg : MG} {s : MS} (hp : PassesOwn (model X.prog X.w) X.A X.env X.xe) (hc : X.calm = true) (hi : XIC C ax X W tg iter it) (hg : DG X tg js g) (hgo : GOk js g mg) (hb : XSs C ax X W body s)
    (hs : ∀ x, foldedSetIterable iter X.env x = pure x := by intro _; rfl) : XS C ax X W (.For tg iter body [] pos) (mForC I J K it mg s) := dsI (ds_for hp hc hi hg hb hs) fun Z σ S ⟨fx, μ, β, z, Φ, r, o, h⟩ =>
  ⟨fx, μ, β, _, z.ex, z.bad, Φ, r, o.kok fun xs μ1 S1 r1 h1 => by
    obtain ⟨_, _, _, q⟩ := for_post (C := C) (it := pureI xs) hgo r1 o h1
    exact q, h⟩
def mLcI (I : Js) (K : List Nat) (it : ML) (g : MG) (t : MT) (e : MC) : ML := fun β μ k ex b => it β μ (fun xs μ1 => mLcC I K (pureI xs) g t e β μ1 k ex b) ex b
section
variable {I : Js} {K : List Nat} {it : ML} {g : DTG} {m : MG} {t : MT} {me : MC} {js : List Nat}
theorem lcI_post (hg : GOk js g m) (hj : ∀ j ∈ js, j ∈ K) (hd : ∀ i ∈ K, i ∉ ixJ I) {E : DEr} {σ : DSt} {S : Sto} {fx : Fx} {μ : Env} {Q : List D → Sto → Prop} {β : Type} {k : List D → Env → β} {ex : Str → Flds → Env → β} {bd : β} {Φ : β → Prop}
    (r : Rel ax fx μ σ S) (z : KOk C ax fx E σ k ex bd Q Φ) (h : Φ (mLcI I K it m t me β μ k ex bd)) : dLcL (rdIC C ax it) g (rdCT C ax t) (rdC C ax me) K E σ S Q :=
  ⟨fx, μ, β, _, ex, bd, Φ, r, z.to fun xs μ1 S1 r1 h1 => by
    obtain ⟨_, _, _, q⟩ := lcC_post (C := C) (E := E) hg hj hd r1 z h1
    exact q, h⟩
theorem xc_lcI (hg : GOk js g m) (hj : ∀ j ∈ js, j ∈ K) (hd : ∀ i ∈ K, i ∉ ixJ I) (h : DE X W e (dLc (rdIC C ax it) g (rdCT C ax t) (rdC C ax me) K)) : XC C ax X W e (mLcD (mLcI I K it m t me)) := deI h fun E σ S Q ⟨fx, μ, β, k, ex, bd, Φ, r, z, h⟩ =>
  lcI_post (Q := fun ys S => Q (.lst ys) S) (k := fun ys μ1 => k (.lst ys) μ1) hg hj hd r ⟨z.bad, fun ys μ1 S1 r1 h1 => z.k (.lst ys) μ1 S1 r1 h1, z.ex⟩ h
theorem xs_setLcI {i : Nat} (hg : GOk js g m) (hj : ∀ j ∈ js, j ∈ K) (hd : ∀ i ∈ K, i ∉ ixJ I) (h : DS X W st (dAsg (dLc (rdIC C ax it) g (rdCT C ax t) (rdC C ax me) K) (dgName i))) : XS C ax X W st (mSet i (mLcD (mLcI I K it m t me))) := xs_set (dsI h fun Z σ S ⟨fx, μ, β, k, ex, bd, Φ, r, z, h⟩ =>
  lcI_post (Q := fun ys S => dgName i (.lst ys) σ S Z.nx) (k := fun ys μ1 => k (.lst ys) μ1) hg hj hd r ⟨z.bad, fun ys μ1 S1 r1 h1 => z.k (.lst ys) μ1 S1 r1 h1, z.ex⟩ h)
theorem xs_setFLcI {i : Nat} (hg : GOk js g m) (hj : ∀ j ∈ js, j ∈ K) (hd : ∀ i ∈ K, i ∉ ixJ I) (h : DS X W st (dAsg (dLcM (rdIC C ax it) g (rdCT C ax t) (rdC C ax me) K) (dgName i))) : XS C ax X W st (mLcL i (mLcI I K it m t me)) := dsI h fun Z σ S ⟨fx, μ, β, z, Φ, r, o, h⟩ =>
  lcI_post (Q := fun ys S => ∀ p, S p = none → dgName i (.ref p) σ (put S p (.lst ys)) Z.nx) (k := fun ys μ1 => setS i (.l false ys) μ1 z.nx z.bad) hg hj hd r (o.kok fun ys μ1 S1 r1 h1 p hp => by
    obtain ⟨h, u, h2, h3, h4⟩ := setS_ok h1 o.bad
    exact o.nx _ _ _ (r1.newL hp ys h3 h2 h4) h) h
theorem xcf_lcI (hg : GOk js g m) (hj : ∀ j ∈ js, j ∈ K) (hd : ∀ i ∈ K, i ∉ ixJ I) (h : DE X W e (dLcM (rdIC C ax it) g (rdCT C ax t) (rdC C ax me) K)) : XCF C ax X W e (mLcI I K it m t me) := deI h fun E σ S Q ⟨fx, μ, β, k, ex, bd, Φ, r, z, h⟩ =>
  lcI_post (Q := fun ys S => ∀ p, S p = none → Q (.ref p) (put S p (.lst ys))) hg hj hd r z h
end
end
end KM

set_option maxRecDepth 100000
set_option maxHeartbeats 4000000
/-! Km11: methods of lists and texts, with and without change. -/
namespace KD
open PySem PySem.Spec PyProof.Rows L2
theorem _root_.L2.Room.units65 {k : Nat} {A : Around} (r : L2.Room k A) : A.units + 65 < cLine := by have := r.un; omega
/-- l.count(y) by data -/
def rCntD (K : PySem.W.Frag) : V → List V → Hp → VK → Prop := fun x ys H Q => ∃ (a : Addr) (y : V) (d : PyData) (ds : List PyData), x = .ref a ∧ ys = [y] ∧ Dp K H (.ref a) (.list ds) ∧ Dp K H y d ∧ SeqAt.shaped (.list ds) = true ∧ SeqAt.shaped d = true ∧ Q (.int (ds.countP (fun z => PyData.eqv z d) : Nat)) H
theorem mt_countD {X : Cx} (hu : X.A.units + 65 < cLine) : MtR X "list.count" (rCntD X.K) := fun pins s σ H x ys v us Q I rx rys ⟨a, y, d, ds, e1, e2, hl, hy, sl, sd, q⟩ => by
  subst e1 e2
  obtain rfl : v = .ref a := rx
  obtain ⟨u, e3, ru⟩ := rys.one
  subst e3
  obtain ⟨bs, rd⟩ := Dp.reads I d y u hy ru
  match hl with
  | .lst hs ha =>
    obtain ⟨its, rv, isl, hlen⟩ := I.list hs
    obtain ⟨as, rs⟩ := Dp.readsAll I ds _ its ha rv
    have em : its.map (SeqAt.readOf s.heap) = ds := SeqAt.readsAll_map ds its as (SeqAt.canLay_of_shaped sl) rs
    obtain ⟨⟨cls, dd, data, sls⟩, n, ho, hc, hdn, hdt⟩ := isl
    cases hc
    cases hdt
    have ec : its.toArray.toList.countP (fun u => PyData.eqv (SeqAt.readOf s.heap u) d) = ds.countP (fun z => PyData.eqv z d) := by
      rw [← em, List.countP_map]; rfl
    refine call_meets PySem.F.slot_list_count ⟨_, ho, rfl⟩ PySem.F.entry_list_count (PySem.F.args_list_count_2 _ _) (SeqAt.list_countAt a its.toArray n dd sls u (fun u => PyData.eqv (SeqAt.readOf s.heap u) d)) ⟨ho, ?_, ?_⟩
    · exact SeqAt.items_eqAt (vs := its.toArray) rs rd (SeqAt.canLay_of_shaped sl) (SeqAt.canLay_of_shaped sd) (room_in_shaped sd hu)
    · rw [ec]; exact ⟨.int _, H, I.tok _, ⟨s.toks, rfl⟩, q⟩
def dCount : D → List D → Sto → DK → Prop := fun x ys S Q => match ys with
  | [y] => ∃ ps p, toPy (vw S x) = some (.list ps) ∧ toPy (vw S y) = some p ∧ SeqAt.shaped (.list ps) = true ∧ SeqAt.shaped p = true ∧ Q (.int (ps.countP (fun z => PyData.eqv z p) : Nat)) S
  | _ => False
theorem dm_count {X : Cx} (hu : X.A.units + 65 < cLine) : DM1 X "list.count" dCount := ⟨_, mt_countD hu, ⟨fun G H S x ys v vs Q P k r1 r2 h p => by
  match ys, r2, h with
  | [y], .cons ry .nil, ⟨ps, p', h1, h2, h3, h4, h5⟩ =>
    have hx := dp_vw k r1 h1
    cases hx with
    | lst hs ha => exact ⟨_, _, p', ps, rfl, rfl, .lst hs ha, dp_vw k ry h2, h3, h4, p _ S G H _ h5 k (.refl _ _ _) (.int _)⟩⟩⟩
def dIndex : D → List D → Sto → DK → Prop := fun x ys S Q => match ys with
  | [y] => ∃ ps p j z, toPy (vw S x) = some (.list ps) ∧ toPy (vw S y) = some p ∧ SeqAt.shaped (.list ps) = true ∧ SeqAt.shaped p = true ∧ ps[j]? = some z ∧ PyData.eqv z p = true ∧ (∀ (m : Nat) (z' : PyData), m < j → ps[m]? = some z' → PyData.eqv z' p = false) ∧ Q (.int (j : Nat)) S
  | _ => False
theorem dm_index {X : Cx} (hu : X.A.units + 65 < cLine) : DM1 X "list.index" dIndex := ⟨_, mt_indexD hu, ⟨fun G H S x ys v vs Q P k r1 r2 h p => by
  match ys, r2, h with
  | [y], .cons ry .nil, ⟨ps, p', j, z, h1, h2, h3, h4, h5, h6, h7, h8⟩ =>
    have hx := dp_vw k r1 h1
    cases hx with
    | lst hs ha => exact ⟨_, _, p', ps, j, z, rfl, rfl, .lst hs ha, dp_vw k ry h2, h3, h4, h5, h6, h7, p _ S G H _ h8 k (.refl _ _ _) (.int _)⟩⟩⟩
/-! methods that change a list -/
def dExtend : D → List D → Sto → DK → Prop := fun x ys S Q => match x, ys with
  | .ref p, [y] => ∃ xs zs, S p = some (.lst xs) ∧ vw S y = .lst zs ∧ xs.length + zs.length ≤ sizeLine ∧ Q .non (put S p (.lst (xs ++ zs)))
  | _, _ => False
theorem dm_extend {X : Cx} : DM1 X "list.extend" dExtend := ⟨_, mt_extend, ⟨fun G H S x ys v vs Q P k r1 r2 h p => by
  match x, ys, r1, r2, h with
  | .ref a, [y], r1, .cons ry .nil, ⟨xs, zs, h1, h2, h3, h4⟩ =>
    cases r1
    obtain ⟨b, us2, rfl, q3, q4⟩ := seq_of k ry h2
    obtain ⟨_, us, q1, q2⟩ := k.sto _ _ h1
    refine ⟨_, b, us, us2, rfl, rfl, q1, q3, by rw [q2.length, q4.length]; exact h3, ?_⟩
    obtain ⟨k2, f2⟩ := k.chS (o := .lst (us ++ us2)) (m := .lst (xs ++ zs)) h1 ⟨_, upd_same, q2.append q4⟩
    exact p _ _ _ _ _ h4 k2 f2 .non⟩⟩
def dInsert : D → List D → Sto → DK → Prop := fun x ys S Q => match x, ys with
  | .ref p, [.int i, y] => ∃ xs, S p = some (.lst xs) ∧ xs.length < sizeLine ∧ 0 ≤ i ∧ i < 2 ^ 63 ∧ Q .non (put S p (.lst (xs.take i.toNat ++ [y] ++ xs.drop i.toNat)))
  | _, _ => False
theorem repl_take {K : PySem.W.Frag} {G : Hp} : ∀ {vs : List V} {ds : List D} (n : Nat), RepL K G vs ds → RepL K G (vs.take n) (ds.take n)
  | _, _, 0, _ => .nil
  | _, _, n + 1, .nil => .nil
  | _, _, n + 1, .cons r t => .cons r (repl_take n t)
theorem repl_drop {K : PySem.W.Frag} {G : Hp} : ∀ {vs : List V} {ds : List D} (n : Nat), RepL K G vs ds → RepL K G (vs.drop n) (ds.drop n)
  | _, _, 0, r => r
  | _, _, n + 1, .nil => .nil
  | _, _, n + 1, .cons r t => repl_drop n t
theorem dm_insert {X : Cx} : DM1 X "list.insert" dInsert := ⟨_, mt_insert, ⟨fun G H S x ys v vs Q P k r1 r2 h p => by
  match x, ys, r1, r2, h with
  | .ref a, [.int i, y], r1, .cons ri (.cons ry .nil), ⟨xs, h1, h2, h3, h4, h5⟩ =>
    cases r1
    cases ri
    obtain ⟨_, us, q1, q2⟩ := k.sto _ _ h1
    refine ⟨_, us, i, _, rfl, rfl, q1, by rw [q2.length]; exact h2, h3, h4, ?_⟩
    obtain ⟨k2, f2⟩ := k.chS (m := .lst (xs.take i.toNat ++ [y] ++ xs.drop i.toNat)) h1 ⟨_, upd_same, ((repl_take _ q2).append (.one ry)).append (repl_drop _ q2)⟩
    exact p _ _ _ _ _ h5 k2 f2 .non⟩⟩
def dPop : D → List D → Sto → DK → Prop := fun x ys S Q => match x, ys with
  | .ref p, [] => ∃ xs y, S p = some (.lst xs) ∧ xs[xs.length - 1]? = some y ∧ Q y (put S p (.lst xs.dropLast))
  | _, _ => False
theorem repl_get {K : PySem.W.Frag} {G : Hp} : ∀ {vs : List V} {ds : List D} {n : Nat} {d : D}, RepL K G vs ds → ds[n]? = some d → ∃ v, vs[n]? = some v ∧ Rep K G v d
  | _, _, n, _, .nil, h => by simp at h
  | _, _, 0, _, .cons r t, h => by simp at h; subst h; exact ⟨_, rfl, r⟩
  | _, _, n + 1, _, .cons r t, h => by
    rw [List.getElem?_cons_succ] at h
    obtain ⟨v, h1, h2⟩ := repl_get t h
    exact ⟨v, by rw [List.getElem?_cons_succ]; exact h1, h2⟩
theorem repl_dropLast {K : PySem.W.Frag} {G : Hp} {vs : List V} {ds : List D} (r : RepL K G vs ds) : RepL K G vs.dropLast ds.dropLast := by
  rw [List.dropLast_eq_take, List.dropLast_eq_take, r.length]; exact repl_take _ r
theorem repl_erase {K : PySem.W.Frag} {G : Hp} {n : Nat} {vs : List V} {ds : List D} (r : RepL K G vs ds) : RepL K G (vs.eraseIdx n) (ds.eraseIdx n) := by
  rw [List.eraseIdx_eq_take_drop_succ, List.eraseIdx_eq_take_drop_succ]; exact (repl_take _ r).append (repl_drop _ r)
theorem dm_pop {X : Cx} : DM1 X "list.pop" dPop := ⟨_, mt_pop, ⟨fun G H S x ys v vs Q P k r1 r2 h p => by
  match x, ys, r1, r2, h with
  | .ref a, [], r1, .nil, ⟨xs, y, h1, h2, h3⟩ =>
    cases r1
    obtain ⟨_, us, q1, q2⟩ := k.sto _ _ h1
    obtain ⟨u, h4, ru⟩ := repl_get q2 h2
    refine ⟨_, us, u, rfl, rfl, q1, by rw [q2.length]; exact h4, ?_⟩
    obtain ⟨k2, f2⟩ := k.chS (m := .lst xs.dropLast) h1 ⟨_, upd_same, repl_dropLast q2⟩
    exact p _ _ _ _ _ h3 k2 f2 (ru.mono f2.g)⟩⟩
def dPopAt : D → List D → Sto → DK → Prop := fun x ys S Q => match x, ys with
  | .ref p, [.int i] => ∃ xs j y, S p = some (.lst xs) ∧ -(2 ^ 63) ≤ i ∧ i < 2 ^ 63 ∧ seqIndex? i xs.length = some j ∧ xs[j]? = some y ∧ Q y (put S p (.lst (xs.eraseIdx j)))
  | _, _ => False
theorem dm_popAt {X : Cx} : DM1 X "list.pop" dPopAt := ⟨_, mt_popAt, ⟨fun G H S x ys v vs Q P k r1 r2 h p => by
  match x, ys, r1, r2, h with
  | .ref a, [.int i], r1, .cons ri .nil, ⟨xs, j, y, h1, h2, h3, h4, h5, h6⟩ =>
    cases r1
    cases ri
    obtain ⟨_, us, q1, q2⟩ := k.sto _ _ h1
    obtain ⟨u, h7, ru⟩ := repl_get q2 h5
    refine ⟨_, us, i, j, u, rfl, rfl, q1, h2, h3, by rw [q2.length]; exact h4, h7, ?_⟩
    obtain ⟨k2, f2⟩ := k.chS (m := .lst (xs.eraseIdx j)) h1 ⟨_, upd_same, repl_erase q2⟩
    exact p _ _ _ _ _ h6 k2 f2 (ru.mono f2.g)⟩⟩
end KD
namespace KM
open PySem PySem.Spec PyProof.Rows L2 KD
theorem toPyL_count {y : D} {p : PyData} (hp : toPy y = some p) : ∀ {xs : List D} {ps : List PyData}, toPyL xs = some ps → ps.countP (fun z => PyData.eqv z p) = xs.countP fun x => eqD x y
  | [], _, h => by simp only [toPyL, Option.some.injEq] at h; subst h; rfl
  | x :: xs, _, h => by
    simp only [toPyL] at h
    split at h
    · rename_i q qs h1 h2
      cases h
      rw [List.countP_cons, List.countP_cons, toPyL_count hp h2, eqv_eqD x y q p h1 hp]
    · cases h
theorem toPyL_at : ∀ {xs : List D} {ps : List PyData} {j : Nat} {z : PyData}, toPyL xs = some ps → ps[j]? = some z → ∃ x, xs[j]? = some x ∧ toPy x = some z
  | [], _, j, z, h, e => by simp only [toPyL, Option.some.injEq] at h; subst h; simp at e
  | x :: xs, _, j, z, h, e => by
    simp only [toPyL] at h
    split at h
    · rename_i q qs h1 h2
      cases h
      cases j with
      | zero => simp at e; subst e; exact ⟨x, rfl, h1⟩
      | succ j => rw [List.getElem?_cons_succ] at e ⊢; exact toPyL_at h2 e
    · cases h
theorem toPyL_len : ∀ {xs : List D} {ps : List PyData}, toPyL xs = some ps → ps.length = xs.length
  | [], _, h => by simp only [toPyL, Option.some.injEq] at h; subst h; rfl
  | x :: xs, _, h => by
    simp only [toPyL] at h
    split at h
    · rename_i q qs h1 h2
      cases h
      rw [List.length_cons, List.length_cons, toPyL_len h2]
    · cases h
def countD (x y : D) : Option D := match x with
  | .lst xs => if plD 64 (.lst xs) = true ∧ plD 64 y = true then some (.int (xs.countP fun z => eqD z y : Nat)) else none
  | _ => none
def indexD (x y : D) : Option D := match x with
  | .lst xs => if plD 64 (.lst xs) = true ∧ plD 64 y = true then match xs.findIdx? fun z => eqD z y with
    | some j => some (.int (j : Nat))
    | none => none else none
  | _ => none
theorem vw_pl' {S : Sto} {x0 x : D} (v : Vw S x0 x) (h : plD 64 x = true) : vw S x0 = x := vwx v fun p e => by subst e; simp [plD] at h
theorem shaped_lst {xs : List D} (h : plD 64 (.lst xs) = true) : ∃ ps, toPy (.lst xs) = some (.list ps) ∧ toPyL xs = some ps ∧ SeqAt.shaped (.list ps) = true := by
  obtain ⟨p, h1, h2⟩ := shaped_of h (Nat.le_refl _)
  have h3 := h1
  simp only [toPy, Option.map_eq_some_iff] at h1
  obtain ⟨ps, h4, rfl⟩ := h1
  exact ⟨ps, h3, h4, h2⟩
theorem ok_count : MtOk "list" dCount countD := fun x y x0 y0 S d Q _ v w e q => by
  cases x <;> simp only [countD, reduceCtorEq] at e
  split at e
  · rename_i c
    cases e
    obtain ⟨ps, h1, h2, h3⟩ := shaped_lst c.1
    obtain ⟨p, h4, h5⟩ := shaped_of c.2 (Nat.le_refl _)
    refine ⟨ps, p, by rw [vw_pl' v c.1]; exact h1, by rw [vw_pl' w c.2]; exact h4, h3, h5, ?_⟩
    rw [toPyL_count h4 h2]; exact q
  · cases e
theorem ok_index : MtOk "list" dIndex indexD := fun x y x0 y0 S d Q _ v w e q => by
  cases x <;> simp only [indexD, reduceCtorEq] at e
  rename_i xs _
  split at e
  · rename_i c
    split at e
    · rename_i j hj
      cases e
      obtain ⟨ps, h1, h2, h3⟩ := shaped_lst c.1
      obtain ⟨p, h4, h5⟩ := shaped_of c.2 (Nat.le_refl _)
      obtain ⟨h6, h7, h8⟩ := List.findIdx?_eq_some_iff_getElem.mp hj
      have hl := toPyL_len h2
      have g : ∀ (m : Nat) (z : PyData), ps[m]? = some z → ∀ hm : m < xs.length, PyData.eqv z p = eqD xs[m] y := fun m z hz hm => by
        obtain ⟨u, h9, h10⟩ := toPyL_at h2 hz
        rw [List.getElem?_eq_getElem hm] at h9
        cases h9
        exact eqv_eqD _ _ _ _ h10 h4
      refine ⟨ps, p, j, ps[j]'(by omega), by rw [vw_pl' v c.1]; exact h1, by rw [vw_pl' w c.2]; exact h4, h3, h5, List.getElem?_eq_getElem _, ?_, fun m z hm hz => ?_, q⟩
      · rw [g j _ (List.getElem?_eq_getElem _) h6]; exact h7
      · rw [g m z hz (by omega)]
        have := h8 m hm
        simpa using this
    · cases e
  · cases e
section
variable {C : Str → Addr} {ax : Ax} {X : Cx} {W : WX} {e o : Expr} {es : List Expr} {pos apos cpos : Pos} {pa pb : Env → P D} {ma mb : MCA}
theorem xe_m1 {q : D → List D → Sto → DK → Prop} {f : D → D → Option D} {name : Str} {T id : String} (pl : PlainAttrs T) (slot : Slot T name id) (hty : typeOf (.builtin id) = pure (.type "method_descriptor")) (hm : DM1 X id q) (hf : MtOk T q f) (ho : XV C ax X W o pa) (he : XV C ax X W e pb)
    (hbase : attributeBase o name X.env (eval o X.env) = eval o X.env := by rfl)
    (hfew : ((backTo cpos (starEach [e] X.env)).all (fun x => !x.1) && (backToKw cpos (keywordEach [] X.env)).all (fun x => x.1.isSome)
      && decide (([e] : List Expr).length + ([] : List Keyword).length + (if ([] : List Keyword).isEmpty then 0 else 1) < 30)) = true := by rfl)
    (hline : (apos.endLine == cpos.line) = true := by rfl) (hs : starEach [e] X.env = (false, eval e X.env) :: starEach [] X.env := by rfl) (hplain : (backTo cpos (starEach [] X.env)).any (·.1) = false := by rfl) :
    XE C ax X W (.Call (.Attribute o name apos) [e] [] cpos) (mMt T f pa pb) := deI (de_bm pl slot hty hm ho (da_cons he da_nil hs) hbase hfew hline hs hplain) fun E σ S Q h => mt_post hf h
theorem xc_m1 {q : D → List D → Sto → DK → Prop} {f : D → D → Option D} {name : Str} {T id : String} (pl : PlainAttrs T) (slot : Slot T name id) (hty : typeOf (.builtin id) = pure (.type "method_descriptor")) (hm : DM1 X id q) (hf : MtOk T q f) (ho : XCA C ax X W o ma) (he : XCA C ax X W e mb)
    (hbase : attributeBase o name X.env (eval o X.env) = eval o X.env := by rfl)
    (hfew : ((backTo cpos (starEach [e] X.env)).all (fun x => !x.1) && (backToKw cpos (keywordEach [] X.env)).all (fun x => x.1.isSome)
      && decide (([e] : List Expr).length + ([] : List Keyword).length + (if ([] : List Keyword).isEmpty then 0 else 1) < 30)) = true := by rfl)
    (hline : (apos.endLine == cpos.line) = true := by rfl) (hs : starEach [e] X.env = (false, eval e X.env) :: starEach [] X.env := by rfl) (hplain : (backTo cpos (starEach [] X.env)).any (·.1) = false := by rfl) :
    XC C ax X W (.Call (.Attribute o name apos) [e] [] cpos) (mMtA T f ma mb) := deI (de_bm pl slot hty hm ho (da_cons he da_nil hs) hbase hfew hline hs hplain) fun E σ S Q h => mtA_post hf h
/-! ### methods that change a list -/
def MutOk (q : D → List D → Sto → DK → Prop) (g : List D → List D → Option (D × List D)) : Prop := ∀ p xs ys0 ys S d zs (Q : DK), S p = some (.lst xs) → VwL S ys0 ys → g xs ys = some (d, zs) → Q d (put S p (.lst zs)) → q (.ref p) ys0 S Q
def mMut (i : Nat) (g : List D → List D → Option (D × List D)) (l : MAA) : MC := fun β μ k ex b => getL μ i (fun _ _ => l β μ (fun as μ1 => gotO (seeL as μ1) (fun ds => getL μ1 i (fun q xs => gotO (g xs ds) (fun r => k r.1 (μ1.set i (.l q r.2))) b) b) b) ex b) b
def mMut0 (i : Nat) (g : List D → List D → Option (D × List D)) : MC := fun β μ k ex b => getL μ i (fun q xs => gotO (g xs []) (fun r => k r.1 (μ.set i (.l q r.2))) b) b
theorem xc_mut {q : D → List D → Sto → DK → Prop} {g : List D → List D → Option (D × List D)} {i : Nat} {l : MAA} {name : Str} {id : String} (slot : Slot "list" name id) (hty : typeOf (.builtin id) = pure (.type "method_descriptor")) (hm : DM1 X id q) (hf : MutOk q g) (ho : DE X W o (dVar i)) (ha : XAA C ax X W (e :: es) l)
    (hbase : attributeBase o name X.env (eval o X.env) = eval o X.env := by rfl)
    (hfew : ((backTo cpos (starEach (e :: es) X.env)).all (fun x => !x.1) && (backToKw cpos (keywordEach [] X.env)).all (fun x => x.1.isSome)
      && decide ((e :: es).length + ([] : List Keyword).length + (if ([] : List Keyword).isEmpty then 0 else 1) < 30)) = true := by rfl)
    (hline : (apos.endLine == cpos.line) = true := by rfl) (hs : starEach (e :: es) X.env = (false, eval e X.env) :: starEach es X.env := by rfl) (hplain : (backTo cpos (starEach es X.env)).any (·.1) = false := by rfl) :
    XC C ax X W (.Call (.Attribute o name apos) (e :: es) [] cpos) (mMut i g l) := deI (de_bm PySem.F.plainAttrs_list slot hty hm ho ha hbase hfew hline hs hplain) fun E σ S Q ⟨fx, μ, β, k, ex, bd, Φ, r, z, h⟩ => by
  obtain ⟨qq, xs, hμ, h⟩ := getL_ok h z.bad
  obtain ⟨p, h1, h2, _, _⟩ := r.getL hμ
  unfold dBM dVar
  rw [h1]
  refine ⟨by rw [vw_l h2]; rfl, fx, μ, β, _, ex, bd, Φ, r, ⟨z.bad, fun as μ1 S1 r1 h3 ds0 hds => ?_, z.ex⟩, h⟩
  obtain ⟨ds, e1, h3⟩ := gotO_ok h3 z.bad
  obtain ⟨q1, xs1, hμ1, h3⟩ := getL_ok h3 z.bad
  obtain ⟨⟨d, zs⟩, e2, h3⟩ := gotO_ok h3 z.bad
  obtain ⟨p1, h4, h5, h6, _⟩ := r1.getL hμ1
  rw [h1] at h4
  cases h4
  exact hf p xs1 ds0 ds S1 d zs Q h5 (seeL_ok r1 hds e1) e2 (z.k d _ _ (h6 zs) h3)
theorem xc_mut0 {q : D → List D → Sto → DK → Prop} {g : List D → List D → Option (D × List D)} {i : Nat} {name : Str} {id : String} (slot : Slot "list" name id) (hty : typeOf (.builtin id) = pure (.type "method_descriptor")) (hm : DM1 X id q) (hf : MutOk q g) (ho : DE X W o (dVar i))
    (hbase : attributeBase o name X.env (eval o X.env) = eval o X.env := by rfl) (hline : (apos.endLine == cpos.line) = true := by rfl) : XC C ax X W (.Call (.Attribute o name apos) [] [] cpos) (mMut0 i g) := deI (de_bm0 PySem.F.plainAttrs_list slot hty hm ho hbase hline) fun E σ S Q ⟨fx, μ, β, k, ex, bd, Φ, r, z, h⟩ => by
  obtain ⟨qq, xs, hμ, h⟩ := getL_ok h z.bad
  obtain ⟨⟨d, zs⟩, e2, h⟩ := gotO_ok h z.bad
  obtain ⟨p, h1, h2, h6, _⟩ := r.getL hμ
  unfold dBM0 dVar
  rw [h1]
  exact ⟨by rw [vw_l h2]; rfl, hf p xs [] [] S d zs Q h2 .nil e2 (z.k d _ _ (h6 zs) h)⟩
def extG (xs ys : List D) : Option (D × List D) := match ys with
  | [.lst zs] => if xs.length + zs.length ≤ 16777216 then some (.non, xs ++ zs) else none
  | _ => none
def insG (xs ys : List D) : Option (D × List D) := match ys with
  | [.int i, y] => if xs.length < 16777216 ∧ 0 ≤ i ∧ i < 9223372036854775808 then some (.non, xs.take i.toNat ++ [y] ++ xs.drop i.toNat) else none
  | _ => none
def popG (xs ys : List D) : Option (D × List D) := match ys with
  | [] => match xs[xs.length - 1]? with
    | some y => some (y, xs.dropLast)
    | none => none
  | _ => none
def popAtG (xs ys : List D) : Option (D × List D) := match ys with
  | [.int i] => if 0 ≤ i ∧ i < 9223372036854775808 then match xs[i.toNat]? with
    | some y => some (y, xs.eraseIdx i.toNat)
    | none => none else none
  | _ => none
theorem mu_extend : MutOk dExtend extG := fun p xs ys0 ys S d zs Q hS v e q => by
  unfold extG at e
  split at e
  · rename_i us
    cases v with
    | cons v1 v2 =>
      cases v2
      split at e
      · rename_i c
        cases e; exact ⟨xs, us, hS, vwx v1 (by simp), size_ok c, q⟩
      · cases e
  · cases e
/-- the arguments stay values -/
def MutOkV (q : D → List D → Sto → DK → Prop) (g : List D → List D → Option (D × List D)) : Prop := ∀ p xs ys S d zs (Q : DK), S p = some (.lst xs) → g xs ys = some (d, zs) → Q d (put S p (.lst zs)) → q (.ref p) ys S Q
def mMutV (i : Nat) (g : List D → List D → Option (D × List D)) (l : MA) : MC := fun β μ k ex b => getL μ i (fun _ _ => l β μ (fun as μ1 => gotO (valsO as) (fun ds => getL μ1 i (fun q xs => gotO (g xs ds) (fun r => k r.1 (μ1.set i (.l q r.2))) b) b) b) ex b) b
theorem xc_mutV {q : D → List D → Sto → DK → Prop} {g : List D → List D → Option (D × List D)} {i : Nat} {l : MA} {name : Str} {id : String} (slot : Slot "list" name id) (hty : typeOf (.builtin id) = pure (.type "method_descriptor")) (hm : DM1 X id q) (hf : MutOkV q g) (ho : DE X W o (dVar i)) (ha : XAC C ax X W (e :: es) l)
    (hbase : attributeBase o name X.env (eval o X.env) = eval o X.env := by rfl)
    (hfew : ((backTo cpos (starEach (e :: es) X.env)).all (fun x => !x.1) && (backToKw cpos (keywordEach [] X.env)).all (fun x => x.1.isSome)
      && decide ((e :: es).length + ([] : List Keyword).length + (if ([] : List Keyword).isEmpty then 0 else 1) < 30)) = true := by rfl)
    (hline : (apos.endLine == cpos.line) = true := by rfl) (hs : starEach (e :: es) X.env = (false, eval e X.env) :: starEach es X.env := by rfl) (hplain : (backTo cpos (starEach es X.env)).any (·.1) = false := by rfl) :
    XC C ax X W (.Call (.Attribute o name apos) (e :: es) [] cpos) (mMutV i g l) := deI (de_bm PySem.F.plainAttrs_list slot hty hm ho ha hbase hfew hline hs hplain) fun E σ S Q ⟨fx, μ, β, k, ex, bd, Φ, r, z, h⟩ => by
  obtain ⟨qq, xs, hμ, h⟩ := getL_ok h z.bad
  obtain ⟨p, h1, h2, _, _⟩ := r.getL hμ
  unfold dBM dVar
  rw [h1]
  refine ⟨by rw [vw_l h2]; rfl, fx, μ, β, _, ex, bd, Φ, r, ⟨z.bad, fun as μ1 S1 r1 h3 ds0 hds => ?_, z.ex⟩, h⟩
  obtain ⟨ds, e1, h3⟩ := gotO_ok h3 z.bad
  have := vals_ok e1 hds
  subst this
  obtain ⟨q1, xs1, hμ1, h3⟩ := getL_ok h3 z.bad
  obtain ⟨⟨d, zs⟩, e2, h3⟩ := gotO_ok h3 z.bad
  obtain ⟨p1, h4, h5, h6, _⟩ := r1.getL hμ1
  rw [h1] at h4
  cases h4
  exact hf p xs1 _ S1 d zs Q h5 e2 (z.k d _ _ (h6 zs) h3)
theorem mu_insert : MutOkV dInsert insG := fun p xs ys S d zs Q hS e q => by
  unfold insG at e
  split at e
  · rename_i i y
    split at e
    · rename_i c
      cases e
      have := sizeLine_eq
      exact ⟨xs, hS, by omega, c.2.1, by omega, q⟩
    · cases e
  · cases e
theorem mu_pop : MutOk dPop popG := fun p xs ys0 ys S d zs Q hS v e q => by
  unfold popG at e
  split at e
  · cases v
    split at e
    · cases e; exact ⟨xs, _, hS, by assumption, q⟩
    · cases e
  · cases e
theorem mu_popAt : MutOkV dPopAt popAtG := fun p xs ys S d zs Q hS e q => by
  unfold popAtG at e
  split at e
  · rename_i i
    split at e
    · rename_i c
      split at e
      · rename_i y hy
        cases e
        have hl := (List.getElem?_eq_some_iff.mp hy).1
        refine ⟨xs, i.toNat, d, hS, by omega, by omega, ?_, hy, q⟩
        unfold seqIndex?
        have := c.1
        simp
        omega
      · cases e
    · cases e
  · cases e
end
end KM

set_option maxRecDepth 100000
set_option maxHeartbeats 4000000
/-! Kp0: how mirrors are reckoned: rules to rewrite by. -/
namespace KM
open PySem PySem.Spec L2 KD
section
variable {ε α β γ δ : Type}
theorem got_o {a : α} {s : ε} {k : α → ε → β} {ex : Str → Flds → ε → β} {b : β} : got (.ok a s) k ex b = k a s := rfl
theorem got_e {c : Str} {fs : Flds} {s : ε} {k : α → ε → β} {ex : Str → Flds → ε → β} {b : β} : got (.er c fs s) k ex b = ex c fs s := rfl
theorem bind_o {a : α} {s : Unit} {k : α → P β} : bind (.ok a s) k = k a := rfl
theorem bind_e {c : Str} {fs : Flds} {s : Unit} {k : α → P β} : bind (.er c fs s) k = .er c fs () := rfl
theorem opt_s {a : α} : opt (some a) = .ok a () := rfl
theorem gotO_s {a : α} {k : α → β} {b : β} : gotO (some a) k b = k a := rfl
theorem guard_t {a b : β} : KM.guard true a b = a := rfl
theorem outB_nx {a : α} {nx bk ct : α → β} {rt : D → ε → β} {er : Str → Flds → ε → β} {b : β} : outB (.nx a) nx bk ct rt er b = nx a := rfl
theorem outB_bk {a : α} {nx bk ct : α → β} {rt : D → ε → β} {er : Str → Flds → ε → β} {b : β} : outB (.bk a) nx bk ct rt er b = bk a := rfl
theorem outB_ct {a : α} {nx bk ct : α → β} {rt : D → ε → β} {er : Str → Flds → ε → β} {b : β} : outB (.ct a) nx bk ct rt er b = ct a := rfl
theorem outB_rt {d : D} {s : ε} {nx bk ct : α → β} {rt : D → ε → β} {er : Str → Flds → ε → β} {b : β} : outB (.rt d s) nx bk ct rt er b = rt d s := rfl
theorem outB_er {c : Str} {fs : Flds} {s : ε} {nx bk ct : α → β} {rt : D → ε → β} {er : Str → Flds → ε → β} {b : β} : outB (.er c fs s) nx bk ct rt er b = er c fs s := rfl
theorem un2_t {x y : D} {k : D → D → β} {b : β} : un2 (.tup [x, y]) k b = k x y := rfl
theorem un2_l {x y : D} {k : D → D → β} {b : β} : un2 (.lst [x, y]) k b = k x y := rfl
theorem un3_t {x y z : D} {k : D → D → D → β} {b : β} : un3 (.tup [x, y, z]) k b = k x y z := rfl
theorem un3_l {x y z : D} {k : D → D → D → β} {b : β} : un3 (.lst [x, y, z]) k b = k x y z := rfl
theorem un4_t {x y z w : D} {k : D → D → D → D → β} {b : β} : un4 (.tup [x, y, z, w]) k b = k x y z w := rfl
theorem un4_l {x y z w : D} {k : D → D → D → D → β} {b : β} : un4 (.lst [x, y, z, w]) k b = k x y z w := rfl
theorem noer_o {a : α} : noer (.ok a ()) = .ok a () := rfl
theorem stepB_nx {a : α} {go : α → B ε α} : stepB (.nx a) go = go a := rfl
theorem stepB_ct {a : α} {go : α → B ε α} : stepB (.ct a) go = go a := rfl
theorem stepB_bk {a : α} {go : α → B ε α} : stepB (.bk a) go = .nx a := rfl
theorem stepB_rt {d : D} {s : ε} {go : α → B ε α} : stepB (.rt d s) go = .rt d s := rfl
theorem stepB_er {c : Str} {fs : Flds} {s : ε} {go : α → B ε α} : stepB (.er c fs s) go = .er c fs s := rfl
end
/-! ### operators -/
section
variable {i j n : Int} {a b : Bool} {x y d : D} {xs ys l : List D} {s z : Str}
theorem e_add : addD (.int i) (.int j) = some (.int (i + j)) := rfl
theorem e_addI : addI (.int i) (.int j) = some (.int (i + j)) := rfl
theorem e_sub : subD (.int i) (.int j) = some (.int (i - j)) := rfl
theorem e_neg : negD (.int i) = some (.int (-i)) := rfl
theorem e_xor : xorD (.int i) (.int j) = some (.int (Builtin.bitXor i j)) := rfl
theorem e_mod (h : 0 < j) : modD (.int i) (.int j) = some (.int (i % j)) := if_pos h
theorem e_fdiv (h : 0 < j) (h2 : j < 18446744073709551616) : fdivD (.int i) (.int j) = some (.int (i / j)) := if_pos ⟨h, h2⟩
theorem e_mulR (h : -18446744073709551616 < j) (h2 : j < 18446744073709551616) : mulD (.int i) (.int j) = some (.int (i * j)) := if_pos (.inr (by omega))
theorem e_mulL (h : -18446744073709551616 < i) (h2 : i < 18446744073709551616) : mulD (.int i) (.int j) = some (.int (i * j)) := if_pos (.inl (by omega))
theorem e_pow (h : 0 ≤ j) (h2 : j ≤ 1000000) (h3 : -18446744073709551616 < i) (h4 : i < 18446744073709551616) : powD (.int i) (.int j) = some (.int (i ^ j.toNat)) := if_pos ⟨h, h2, by omega⟩
theorem e_lt : ltD (.int i) (.int j) = some (decide (i < j)) := rfl
theorem e_le : leD (.int i) (.int j) = some (decide (i ≤ j)) := rfl
theorem e_gt : gtD (.int i) (.int j) = some (decide (j < i)) := rfl
theorem e_ge : geD (.int i) (.int j) = some (decide (j ≤ i)) := rfl
theorem e_eqI : eqC (.int i) (.int j) = some (decide (i = j)) := rfl
theorem e_neI : neC (.int i) (.int j) = some (!decide (i = j)) := rfl
theorem e_eqB : eqC (.bl a) (.bl b) = some (a == b) := rfl
theorem e_neB : neC (.bl a) (.bl b) = some (!(a == b)) := rfl
theorem e_eqS : eqC (.str s) (.str z) = some (s == z) := rfl
theorem e_neS : neC (.str s) (.str z) = some (!(s == z)) := rfl
theorem e_eqLN : eqC (.lst xs) (.lst []) = some xs.isEmpty := by cases xs <;> rfl
theorem e_neLN : neC (.lst xs) (.lst []) = some (!xs.isEmpty) := by cases xs <;> rfl
theorem e_int : intD (.int i) = some (.int i) := rfl
theorem e_intB : intD (.bl a) = some (.int (if a then 1 else 0)) := rfl
theorem e_asB : asB (.bl a) = some a := rfl
theorem e_truB : truD (.bl a) = some a := rfl
theorem e_lenL : lenD (.lst xs) = some (.int xs.length) := rfl
theorem e_lenT : lenD (.tup xs) = some (.int xs.length) := rfl
theorem e_lenR {ns : List Int} : lenD (.scr ns) = some (.int ns.length) := rfl
theorem at_n {α : Type} {l : List α} {i : Int} {k : Nat} (e : i = k) (h : k < l.length) : atI l i = some l[k] := by
  subst e
  unfold atI ixN
  rw [if_pos (by omega), if_pos (by omega)]
  show l[((k : Nat) : Int).toNat]? = _
  rw [show ((k : Nat) : Int).toNat = k by omega]; exact List.getElem?_eq_getElem h
theorem at_i {α : Type} {l : List α} {i : Int} (h0 : 0 ≤ i) (h : i < l.length) : atI l i = some (l[i.toNat]'(by omega)) := at_n (Int.toNat_of_nonneg h0).symm (by omega)
theorem e_l0 : ixD (.lst (x :: xs)) (.int 0) = some x := at_n (l := x :: xs) (k := 0) rfl (by simp only [List.length_cons]; omega)
theorem e_l1 : ixD (.lst (x :: y :: xs)) (.int 1) = some y := at_n (l := x :: y :: xs) (k := 1) rfl (by simp only [List.length_cons]; omega)
theorem e_l2 {x2 : D} : ixD (.lst (x :: y :: x2 :: xs)) (.int 2) = some x2 := at_n (l := x :: y :: x2 :: xs) (k := 2) rfl (by simp only [List.length_cons]; omega)
theorem e_l3 {x2 x3 : D} : ixD (.lst (x :: y :: x2 :: x3 :: xs)) (.int 3) = some x3 := at_n (l := x :: y :: x2 :: x3 :: xs) (k := 3) rfl (by simp only [List.length_cons]; omega)
theorem e_t0 : ixD (.tup (x :: xs)) (.int 0) = some x := at_n (l := x :: xs) (k := 0) rfl (by simp only [List.length_cons]; omega)
theorem e_t1 : ixD (.tup (x :: y :: xs)) (.int 1) = some y := at_n (l := x :: y :: xs) (k := 1) rfl (by simp only [List.length_cons]; omega)
theorem e_t2 {x2 : D} : ixD (.tup (x :: y :: x2 :: xs)) (.int 2) = some x2 := at_n (l := x :: y :: x2 :: xs) (k := 2) rfl (by simp only [List.length_cons]; omega)
theorem e_t3 {x2 x3 : D} : ixD (.tup (x :: y :: x2 :: x3 :: xs)) (.int 3) = some x3 := at_n (l := x :: y :: x2 :: x3 :: xs) (k := 3) rfl (by simp only [List.length_cons]; omega)
theorem e_lI (h0 : 0 ≤ i) (h : i < xs.length) : ixD (.lst xs) (.int i) = some (xs[i.toNat]'(by omega)) := at_i h0 h
theorem e_tI (h0 : 0 ≤ i) (h : i < xs.length) : ixD (.tup xs) (.int i) = some (xs[i.toNat]'(by omega)) := at_i h0 h
theorem e_lN {k : Nat} (h : k < xs.length) : ixD (.lst xs) (.int (k : Nat)) = some xs[k] := at_n rfl h
theorem e_tN {k : Nat} (h : k < xs.length) : ixD (.tup xs) (.int (k : Nat)) = some xs[k] := at_n rfl h
theorem e_rI {ns : List Int} (h0 : 0 ≤ i) (h : i < ns.length) : ixD (.scr ns) (.int i) = some (.int (ns[i.toNat]'(by omega))) := by
  show (match atI ns i with | some n => some (D.int n) | none => none) = _
  rw [at_i h0 h]
theorem e_ixW {k : Nat} (h0 : 0 ≤ i) (h : i < k) : ixW k (.int i) = some i.toNat := by
  show ixN k i = _
  unfold ixN
  rw [if_pos h0, if_pos (by omega)]
theorem e_ixWN {k m : Nat} (h : m < k) : ixW k (.int (m : Nat)) = some m := by rw [e_ixW (by omega) (by omega)]; rfl
theorem e_rng1 (h : i < 4611686018427387904) (h2 : -4611686018427387904 ≤ i) : rng1 (.int i) = some (rangeD 0 i.toNat) := if_pos ⟨h2, h⟩
theorem e_rng1N {k : Nat} (h : k < 4611686018427387904) : rng1 (.int (k : Nat)) = some (rangeD 0 k) := by
  rw [e_rng1 (by omega) (by omega)]; rfl
theorem e_rng2 (h1 : -4611686018427387904 ≤ i) (h2 : i < 4611686018427387904) (h3 : -4611686018427387904 ≤ j) (h4 : j < 4611686018427387904) : rng2 (.int i) (.int j) = some (rangeD i (j - i).toNat) := if_pos ⟨h1, h2, h3, h4⟩
theorem e_seqL : seqD (.lst xs) = some xs := rfl
theorem e_seqT : seqD (.tup xs) = some xs := rfl
theorem e_tupL : tupleD (.lst xs) = some (.tup xs) := rfl
theorem e_tupT : tupleD (.tup xs) = some (.tup xs) := rfl
theorem e_lstL : listD (.lst xs) = some (.lst xs) := rfl
theorem e_lstT : listD (.tup xs) = some (.lst xs) := rfl
theorem e_iterL : iterD (.lst xs) = some xs := rfl
theorem e_iterT : iterD (.tup xs) = some xs := rfl
theorem e_iterR {ns : List Int} : iterD (.scr ns) = some (ns.map .int) := rfl
theorem e_size {n : Nat} (h : n ≤ 16777216) : sizeB n = true := decide_eq_true h
theorem e_cat (h : xs.length + ys.length ≤ 16777216) : catD (.lst xs) (.lst ys) = some (xs ++ ys) := if_pos h
theorem e_addL (h : xs.length + ys.length ≤ 16777216) : addD (.lst xs) (.lst ys) = some (.lst (xs ++ ys)) := if_pos h
theorem e_addT (h : xs.length + ys.length ≤ 16777216) : addD (.tup xs) (.tup ys) = some (.tup (xs ++ ys)) := if_pos h
theorem cut_one {x : D} {l : List D} : cutD (x :: l) none (some 1) = [x] := by
  unfold cutD HT.sIx
  simp
/-! isinstance -/
def tyI (d : D) : Bool := match d with | .int _ => true | .bl _ => true | _ => false
theorem e_isI_int : isiD (.int i) (.ty "int") = some true := rfl
theorem e_isB_int : isiD (.int i) (.ty "bool") = some false := rfl
theorem e_isS_int : isiD (.int i) (.ty "str") = some false := rfl
theorem e_isL_int : isiD (.int i) (.ty "list") = some false := rfl
theorem e_isT_int : isiD (.int i) (.ty "tuple") = some false := rfl
theorem e_isD_int : isiD (.int i) (.ty "dict") = some false := rfl
theorem e_isTL_int : isiD (.int i) (.tup [.ty "tuple", .ty "list"]) = some false := rfl
theorem e_isLT_int : isiD (.int i) (.tup [.ty "list", .ty "tuple"]) = some false := rfl
end
/-! ### loops -/
section
variable {ε α β : Type}
/-- the ways that o may end -/
def Nx (o : B ε α) (J : α → Prop) : Prop := match o with | .nx b => J b | _ => False
def Go (o : B ε α) (J : α → Prop) : Prop := match o with | .nx b => J b | .ct b => J b | _ => False
def Ok (x : R ε α) (Φ : α → ε → Prop) : Prop := match x with | .ok a s => Φ a s | _ => False
theorem Nx.ex {o : B ε α} {J : α → Prop} (h : Nx o J) : ∃ b, o = .nx b ∧ J b := by
  cases o <;> first | exact ⟨_, rfl, h⟩ | exact h.elim
theorem Ok.ex {x : R ε α} {Φ : α → ε → Prop} (h : Ok x Φ) : ∃ a s, x = .ok a s ∧ Φ a s := by
  cases x <;> first | exact ⟨_, _, rfl, h⟩ | exact h.elim
theorem Nx.mono {o : B ε α} {J J' : α → Prop} (h : Nx o J) (f : ∀ a, J a → J' a) : Nx o J' := by
  cases o <;> first | exact f _ h | exact h.elim
theorem Ok.mono {x : R ε α} {Φ Ψ : α → ε → Prop} (h : Ok x Φ) (f : ∀ a s, Φ a s → Ψ a s) : Ok x Ψ := by
  cases x <;> first | exact f _ _ h | exact h.elim
theorem nx_out {o : B ε α} (J : α → Prop) {P : β → Prop} {nx bk ct : α → β} {rt : D → ε → β} {er : Str → Flds → ε → β} {bad : β} (h : Nx o J) (hn : ∀ b, J b → P (nx b)) : P (outB o nx bk ct rt er bad) := by
  obtain ⟨b, rfl, h⟩ := h.ex
  exact hn b h
theorem nx_eq {o : B ε α} (J : α → Prop) {y : β} {nx bk ct : α → β} {rt : D → ε → β} {er : Str → Flds → ε → β} {bad : β} (h : Nx o J) (hn : ∀ b, J b → nx b = y) : outB o nx bk ct rt er bad = y := by
  obtain ⟨b, rfl, h⟩ := h.ex
  exact hn b h
theorem nx_go {γ δ : Type} {o : B ε α} (J : α → Prop) {I : δ → Prop} {nx bk ct : α → B γ δ} {rt : D → ε → B γ δ} {er : Str → Flds → ε → B γ δ} {bad : B γ δ} (h : Nx o J) (hn : ∀ b, J b → Go (nx b) I) : Go (outB o nx bk ct rt er bad) I := nx_out (P := fun y => Go y I) J h hn
theorem nx_nx {γ δ : Type} {o : B ε α} (J : α → Prop) {I : δ → Prop} {nx bk ct : α → B γ δ} {rt : D → ε → B γ δ} {er : Str → Flds → ε → B γ δ} {bad : B γ δ} (h : Nx o J) (hn : ∀ b, J b → Nx (nx b) I) : Nx (outB o nx bk ct rt er bad) I := nx_out (P := fun y => Nx y I) J h hn
theorem nx_ok {γ δ : Type} {o : B ε α} (J : α → Prop) {Φ : γ → δ → Prop} {nx bk ct : α → R δ γ} {rt : D → ε → R δ γ} {er : Str → Flds → ε → R δ γ} {bad : R δ γ} (h : Nx o J) (hn : ∀ b, J b → Ok (nx b) Φ) : Ok (outB o nx bk ct rt er bad) Φ := nx_out (P := fun y => Ok y Φ) J h hn
theorem ok_got {x : R ε α} (Ψ : α → ε → Prop) {P : β → Prop} {k : α → ε → β} {ex : Str → Flds → ε → β} {b : β} (h : Ok x Ψ) (hk : ∀ a s, Ψ a s → P (k a s)) : P (got x k ex b) := by
  obtain ⟨a, s, rfl, h⟩ := h.ex
  exact hk a s h
theorem ok_ok {γ δ : Type} {x : R ε α} (Ψ : α → ε → Prop) {Φ : γ → δ → Prop} {k : α → ε → R δ γ} {ex : Str → Flds → ε → R δ γ} {b : R δ γ} (h : Ok x Ψ) (hk : ∀ a s, Ψ a s → Ok (k a s) Φ) : Ok (got x k ex b) Φ := ok_got (P := fun y => Ok y Φ) Ψ h hk
theorem ok_go {γ δ : Type} {x : R ε α} (Ψ : α → ε → Prop) {I : δ → Prop} {k : α → ε → B γ δ} {ex : Str → Flds → ε → B γ δ} {b : B γ δ} (h : Ok x Ψ) (hk : ∀ a s, Ψ a s → Go (k a s) I) : Go (got x k ex b) I := ok_got (P := fun y => Go y I) Ψ h hk
theorem ok_nx {γ δ : Type} {x : R ε α} (Ψ : α → ε → Prop) {I : δ → Prop} {k : α → ε → B γ δ} {ex : Str → Flds → ε → B γ δ} {b : B γ δ} (h : Ok x Ψ) (hk : ∀ a s, Ψ a s → Nx (k a s) I) : Nx (got x k ex b) I := ok_got (P := fun y => Nx y I) Ψ h hk
theorem nx_goE {γ δ κ : Type} {o : B ε α} (J : κ → α → Prop) {I : δ → Prop} {nx bk ct : α → B γ δ} {rt : D → ε → B γ δ} {er : Str → Flds → ε → B γ δ} {bad : B γ δ} (h : Nx o fun t => ∃ c, J c t) (hn : ∀ c b, J c b → Go (nx b) I) : Go (outB o nx bk ct rt er bad) I := nx_go _ h fun b ⟨c, h⟩ => hn c b h
theorem ok_goE {γ δ κ : Type} {x : R ε α} (J : κ → α → ε → Prop) {I : δ → Prop} {k : α → ε → B γ δ} {ex : Str → Flds → ε → B γ δ} {b : B γ δ} (h : Ok x fun a s => ∃ c, J c a s) (hk : ∀ c a s, J c a s → Go (k a s) I) : Go (got x k ex b) I := ok_go _ h fun a s ⟨c, h⟩ => hk c a s h
theorem nx_nxE {γ δ κ : Type} {o : B ε α} (J : κ → α → Prop) {I : δ → Prop} {nx bk ct : α → B γ δ} {rt : D → ε → B γ δ} {er : Str → Flds → ε → B γ δ} {bad : B γ δ} (h : Nx o fun t => ∃ c, J c t) (hn : ∀ c b, J c b → Nx (nx b) I) : Nx (outB o nx bk ct rt er bad) I := nx_nx _ h fun b ⟨c, h⟩ => hn c b h
/-- a loop that runs to its end -/
theorem loop_all {f : α → D → B ε α} (I : Nat → α → Prop) : ∀ {xs : List D} {a : α} (n : Nat), I n a → (∀ (k : Nat) (h : k < xs.length) (a : α), I (n + k) a → Go (f a xs[k]) (I (n + k + 1))) → Nx (loopB f xs a) (I (n + xs.length))
  | [], a, n, h, _ => h
  | x :: xs, a, n, h, hs => by
    have h1 := hs 0 (by simp) a h
    have h2 : ∀ b, I (n + 1) b → Nx (loopB f xs b) (I (n + (x :: xs).length)) := fun b h => by
      have := loop_all (f := f) I (xs := xs) (n + 1) h fun k hk a ha => by
        have := hs (k + 1) (by simpa using hk) a (by rwa [show n + (k + 1) = n + 1 + k by omega])
        rw [show n + (k + 1) + 1 = n + 1 + k + 1 by omega] at this
        simpa using this
      rwa [show n + 1 + xs.length = n + (x :: xs).length by rw [List.length_cons]; omega] at this
    simp only [List.getElem_cons_zero] at h1
    unfold loopB
    cases e : f a x <;> rw [e] at h1 <;> first | exact h1.elim | exact h2 _ h1
/-- .. whose state keeps a property -/
theorem loop_inv {f : α → D → B ε α} (I : α → Prop) {xs : List D} {a : α} (h : I a) (hs : ∀ x ∈ xs, ∀ a, I a → Go (f a x) I) : Nx (loopB f xs a) I := loop_all (fun _ => I) 0 h fun k hk a ha => hs _ (List.getElem_mem hk) a ha
/-- .. that is a fold -/
theorem loop_fold {f : α → D → B ε α} (g : α → D → α) : ∀ {xs : List D} {a : α}, (∀ x ∈ xs, ∀ a, f a x = .nx (g a x)) → loopB f xs a = .nx (xs.foldl g a)
  | [], a, _ => rfl
  | x :: xs, a, h => by
    unfold loopB
    rw [h x (by simp)]
    exact loop_fold g fun y hy a => h y (by simp [hy]) a
/-- a loop that ends at the first bad item -/
theorem loop_find {f : α → D → B ε α} {S : Nat → α} {bad : Nat → Bool} {o : Nat → B ε α} (term : ∀ k go, stepB (o k) go = o k) : ∀ {xs : List D} (n : Nat), (∀ k (h : k < xs.length), (∀ j, n ≤ j → j < n + k → bad j = false) → f (S (n + k)) xs[k] = if bad (n + k) then o (n + k) else .nx (S (n + k + 1))) →
    loopB f xs (S n) = match ((List.range xs.length).map (n + ·)).find? bad with | some k => o k | none => .nx (S (n + xs.length))
  | [], n, _ => rfl
  | x :: xs, n, h => by
    have h0 := h 0 (by simp) fun j h1 h2 => by omega
    simp only [List.getElem_cons_zero, Nat.add_zero] at h0
    have e : (List.range (x :: xs).length).map (n + ·) = n :: (List.range xs.length).map (n + 1 + ·) := by
      rw [List.length_cons, List.range_succ_eq_map, List.map_cons, List.map_map]
      congr 1
      exact List.map_congr_left fun a _ => by simp; omega
    rw [e, List.find?_cons]
    unfold loopB
    rw [h0]
    cases hb : bad n with
    | true => simp only [if_true]; exact term n _
    | false =>
      simp only [Bool.false_eq_true, if_false]
      show loopB f xs (S (n + 1)) = _
      rw [loop_find term (n + 1) fun k hk hj => by
        have := h (k + 1) (by simpa using hk) fun j h1 h2 => by
          by_cases c : j = n
          · rw [c]; exact hb
          · exact hj j (by omega) (by omega)
        rw [show n + (k + 1) = n + 1 + k by omega] at this
        simpa using this]
      rw [show n + 1 + xs.length = n + (x :: xs).length by rw [List.length_cons]; omega]
theorem find_eq {f : α → D → B ε α} (S : Nat → α) (bad : Nat → Bool) (o : Nat → B ε α) (term : ∀ k go, stepB (o k) go = o k) {xs : List D} {nx bk ct : α → β} {rt : D → ε → β} {er : Str → Flds → ε → β} {b y : β} (hs : ∀ k (h : k < xs.length), (∀ j, j < k → bad j = false) → f (S k) xs[k] = if bad k then o k else .nx (S (k + 1)))
    (hy : outB (match (List.range xs.length).find? bad with | some k => o k | none => .nx (S xs.length)) nx bk ct rt er b = y) : outB (loopB f xs (S 0)) nx bk ct rt er b = y := by
  rw [loop_find term 0 fun k hk hj => by
    have := hs k hk fun j h => hj j (by omega) (by omega)
    simpa using this]
  rw [← hy]
  have e : (List.range xs.length).map (0 + ·) = List.range xs.length := by
    rw [List.map_congr_left (g := id) fun a _ => by simp]; simp
  rw [e, Nat.zero_add]
/-- a comprehension that changes a state -/
theorem lc_all {f : D → α → R α (Option D)} (I : α → Prop) (Q : D → Prop) : ∀ {xs : List D} {a : α}, I a → (∀ x ∈ xs, ∀ a, I a → Ok (f x a) fun o b => ∃ d, o = some d ∧ Q d ∧ I b) → Ok (lcS f xs a) fun ys b => ys.length = xs.length ∧ (∀ y ∈ ys, Q y) ∧ I b
  | [], a, h, _ => ⟨rfl, by simp, h⟩
  | x :: xs, a, h, hs => by
    obtain ⟨o, b, e, d, rfl, q, h1⟩ := (hs x (by simp) a h).ex
    obtain ⟨ys, c, e2, l, q2, h2⟩ := (lc_all I Q (xs := xs) h1 fun y hy a ha => hs y (by simp [hy]) a ha).ex
    unfold lcS; rw [e]; dsimp only; rw [e2]
    refine ⟨by simp [l], fun y hy => ?_, h2⟩
    rcases List.mem_cons.mp hy with rfl | hy
    · exact q
    · exact q2 y hy
theorem mapR_ok {f : D → P D} {g : D → D} : ∀ {xs : List D}, (∀ x ∈ xs, f x = .ok (g x) ()) → mapR f xs = .ok (xs.map g) ()
  | [], _ => rfl
  | x :: xs, h => by
    have := mapR_ok (xs := xs) fun y hy => h y (by simp [hy])
    simp only [mapR, h x (by simp), this, List.map_cons, bind_o]
theorem lcR_ok {f : D → P (Option D)} {g : D → Option D} : ∀ {xs : List D}, (∀ x ∈ xs, f x = .ok (g x) ()) → lcR f xs = .ok (xs.filterMap g) ()
  | [], _ => rfl
  | x :: xs, h => by
    have := lcR_ok (xs := xs) fun y hy => h y (by simp [hy])
    simp only [lcR, h x (by simp), this, List.filterMap_cons, bind_o]
    cases g x <;> rfl
theorem chkR_ok {xs : List D} (h : xs.length ≤ 16777216) : chkR (.ok xs ()) = .ok xs () := by
  unfold chkR; dsimp only
  first | (rw [e_size h]; rfl) | (rw [if_pos (e_size h)])
theorem mem_range {lo : Int} {n : Nat} {x : D} (h : x ∈ rangeD lo n) : ∃ k : Nat, k < n ∧ x = .int (lo + k) := by
  unfold rangeD at h
  obtain ⟨k, h1, h2⟩ := List.mem_map.mp h
  exact ⟨k, by simpa using h1, h2.symm⟩
theorem range_len {lo : Int} {n : Nat} : (rangeD lo n).length = n := by simp [rangeD]
theorem range_get {lo : Int} {n k : Nat} (h : k < (rangeD lo n).length) : (rangeD lo n)[k] = .int (lo + k) := by simp [rangeD]
end
end KM
namespace KD
open PySem PySem.Spec PyProof.Rows L2
/-! ### constants that are tuples: a decided look -/
/-- a word of the module, as data -/
def valOk : Value → D → Bool
  | .none, .non => true
  | .bool b, .bl c => b == c
  | .int i _, .int j => decide (i = j)
  | .str x _, .str y => decide (x = y)
  | _, _ => false
def valsOk : List Value → List D → Bool
  | [], [] => true
  | u :: us, d :: ds => valOk u d && valsOk us ds
  | _, _ => false
def isTupT : Value → Bool
  | .type n => n == "tuple"
  | _ => false
def tupOk (o : Obj) (ds : List D) : Bool :=
  match o.data with
  | .seq its _ => isTupT o.cls && (decide (its.size ≤ sizeLine) && valsOk its.toList ds)
  | _ => false
theorem valOk_rep : ∀ {u : Value} {d : D}, valOk u d = true → ∃ v, RelV v u ∧ ∀ K G, Rep K G v d := by
  intro u d h
  cases u <;> cases d <;> simp [valOk] at h
  · exact ⟨.non, rfl, fun _ _ => .non⟩
  · subst h; exact ⟨.bl _, rfl, fun _ _ => .bl _⟩
  · subst h; exact ⟨.int _, ⟨_, rfl⟩, fun _ _ => .int _⟩
  · subst h; exact ⟨.str _, ⟨_, rfl⟩, fun _ _ => .str _⟩
theorem valsOk_rep : ∀ {us : List Value} {ds : List D}, valsOk us ds = true → ∃ vs, Vals vs us ∧ ∀ K G, RepL K G vs ds
  | [], [], _ => ⟨[], .nil, fun _ _ => .nil⟩
  | [], _ :: _, h => by simp [valsOk] at h
  | _ :: _, [], h => by simp [valsOk] at h
  | u :: us, d :: ds, h => by
    simp only [valsOk, Bool.and_eq_true] at h
    obtain ⟨v, h1, h2⟩ := valOk_rep h.1
    obtain ⟨vs, h3, h4⟩ := valsOk_rep h.2
    exact ⟨v :: vs, .cons h1 h3, fun K G => .cons (h2 K G) (h4 K G)⟩
theorem tup_mk {K : PySem.W.Frag} {mg : Str → Option Value} {x : Str} {p : Addr} {o : Obj} {ds : List D} (h : mg x = some (.ref p)) (l : K.lookup p = some o) (c : tupOk o ds = true) : TupC K mg x ds := by
  obtain ⟨cls, dict, data, slots⟩ := o
  cases data <;> simp only [tupOk, Bool.false_eq_true] at c
  rename_i its n
  simp only [Bool.and_eq_true, decide_eq_true_eq] at c
  obtain ⟨vs, h3, h4⟩ := valsOk_rep c.2.2
  have hc : cls = .type "tuple" := by
    have := c.1
    cases cls <;> simp [isTupT] at this
    exact congrArg Value.type this
  exact ⟨p, _, its, n, vs, h, l, hc, rfl, c.2.1, h3, fun G => h4 K G⟩
end KD

set_option maxRecDepth 100000
set_option maxHeartbeats 4000000
/-! Kn0: try with several clauses that each name the error. -/
namespace KD
open PySem PySem.Spec PyProof.Rows L2
/-- a clause: the class, the slot of its name, the reading of its suite -/
abbrev ClN := Value × Nat × (Addr → Value → Option Addr → TS)
def wishN (K : PySem.W.Frag) (D : Ends) (W : WX) : List ClN → WX
  | [] => W
  | (c, i, t) :: l => wAs K c i t (wishN K D W l) D
inductive NHs (X : Cx) : List ExceptHandler → List ClN → Prop
  | nil : NHs X [] []
  | cons {x n : Str} {c : Value} {i : Nat} {t : Addr → Value → Option Addr → TS} {b : Stmt} {bs : List Stmt} {p q : Pos} {hs : List ExceptHandler} {l : List ClN} (hc : Names X x c) (hi : X.N[i]? = some n) (hk : X.env.kindOf n = some .local)
      (ht : ∀ (a : Addr) (oe : Obj) (y : Value) (d : Option Addr) (pn : List (Addr × Obj)), Zc y d oe → (∃ vs, oe.data = .fields vs) → PSs (X.suite a ((a, oe) :: pn)) (b :: bs) (t a y d)) (r : NHs X hs l) :
      NHs X (.ExceptHandler (some (.Name x p)) (some n) (b :: bs) q :: hs) ((c, i, t) :: l)
section
variable {X : Cx} {pins : List (Addr × Obj)} {D : Ends} {Wo : WX}
/-- what stands when the clauses are asked -/
structure Land (X : Cx) (pins : List (Addr × Obj)) (a : Addr) (y : Value) (d : Option Addr) (σ : L2.St) (H : Hp) (s : Shared) : Prop where
  ok : X.Ok
  fr : X.env.frame = some X.env.locals
  nl : a ≠ X.env.locals
  nf : a ∉ X.fs
  na : H a = none
  here : ∃ (oe : Obj) (vs : Array Value), s.heap.get? a = some oe ∧ Zc y d oe ∧ oe.data = .fields vs
  inv : Inv X pins σ H s
  again : ∀ {Q : Unit → Shared → Prop} {E : Value → Shared → Prop}, (∀ h, (∃ (oe : Obj) (vs : Array Value), h.get? a = some oe ∧ Zc y d oe ∧ oe.data = .fields vs) → Inv X pins σ H { s with heap := h } → Q () { s with heap := h }) → wpAny (model X.prog X.w) (X.A.mark (some (.ref a))) (setFlight (.ref a) none) Q E s
theorem Land.named (hN : X.N.Nodup) {a : Addr} {y : Value} {d : Option Addr} {σ : L2.St} {H : Hp} {s : Shared} (L : Land X pins a y d σ H s)
    (last : Wo y d σ H → wpAny (model X.prog X.w) X.A (handleBy (.ref a) X.env []) (SP X pins D) X.xe s) :
    ∀ {hs : List ExceptHandler} {l : List ClN}, NHs X hs l → wishN X.K D Wo l y d σ H → wpAny (model X.prog X.w) X.A (handleBy (.ref a) X.env hs) (SP X pins D) X.xe s := by
  intro hs l hk
  induction hk with
  | nil => exact last
  | @cons x n c i t b bs p q hs l hc hi hln ht r ih =>
    intro ⟨g, g1, gy, gn⟩
    obtain ⟨oe, vs, e1, e2, e3⟩ := L.here
    have I1 := L.inv.suite e1 e3 L.na L.nl L.nf
    have gone : PySem.W.Looks (model X.prog X.w) s.heap (typeOf (.ref a)) y := fun A Q E s k z => wpAny_typeOf_ref (k _ _ e1) (by rw [e2.1]; exact z)
    refine wpAny_handleBy_cons (codeAny_handlers_test ?_) nofun
    have named : ∀ {Q E : Value → Shared → Prop}, Q c s → wpAny (model X.prog X.w) (X.A.mark (some (.ref a))) (eval (.Name x p) X.env) Q E s := fun {Q E} z => by
      rcases hc with ⟨w1, w2, w3 | ⟨w3, w4, w5⟩⟩
      · exact ld_glob I1 w1 w3 z w2
      · exact ld_blt I1 w1 w3 w4 z w5 w2
    refine named ((PySem.W.exm_one L.inv.kIn gone g1).here ?_)
    match g, gy, gn with
    | false, _, gn => exact ih (gn rfl)
    | true, gy, _ =>
      refine codeAny_handlers_suite_as (L.again fun h ⟨o2, vs2, f1, f2, f3⟩ I2 => ?_)
      have I3 := I2.suite f1 f3 L.na L.nl L.nf
      refine store_ok (X := X.suite a ((a, o2) :: (X.pn ++ pins))) I3 hN hi (.inl hln) (v := .ref a) rfl (fun s5 I5 => wpAny_mono ((ht a o2 y d _ f2 ⟨_, f3⟩).run [] s5 _ H _ I5 (gy rfl a L.na)) (fun f s6 z => ?_) fun _ _ z => z.elim) (.inr hln)
      cases f with
      | ret u => exact let ⟨v, σ6, H6, I6, r6, q6⟩ := z; gone_ok (I6.unsuite L.ok) hN hi hln fun s7 I7 => ⟨v, _, H6, I7, r6, q6⟩
      | next => exact let ⟨σ6, H6, I6, q6⟩ := z; gone_ok (I6.unsuite L.ok) hN hi hln fun s7 I7 => ⟨_, H6, I7, q6⟩
      | brk => exact let ⟨σ6, H6, I6, q6⟩ := z; gone_ok (I6.unsuite L.ok) hN hi hln fun s7 I7 => ⟨_, H6, I7, q6⟩
      | cont => exact let ⟨σ6, H6, I6, q6⟩ := z; gone_ok (I6.unsuite L.ok) hN hi hln fun s7 I7 => ⟨_, H6, I7, q6⟩
/-- try: .. except C as n: .. except C' as n': .. -/
theorem ps_tryN {body : List Stmt} {h0 : ExceptHandler} {hs : List ExceptHandler} {l : List ClN} {pos : Pos} {tb : WX → TS} (hst : X.stack = X.env :: X.outer) (hf : X.env.frame = some X.env.locals) (hN : X.N.Nodup) (tk : Takes X Wo)
    (hb : ∀ (W : WX) (pn : List (Addr × Obj)) (xe : Value → Shared → Prop), Takes (X.tr pn xe) W → PassesOwn (model X.prog X.w) X.A X.env xe → PSs (X.tr pn xe) body (tb W)) (hh : NHs X (h0 :: hs) l) :
    PS X (.Try body (h0 :: hs) [] [] pos) fun D σ H => tb (wishN X.K D Wo l) D σ H := ⟨fun pins s σ H D I h => by
  have ok := I.ok
  have frs1 : X.A.frames = some (X.env :: X.outer) := ok.frames.trans (congrArg some hst)
  have back : ∀ {pn' : List (Addr × Obj)} {xe : Value → Shared → Prop} {s2 : Shared} {f : Flow}, SP (X.tr (X.pn ++ pins) xe) pn' D f s2 → SP X pins D f s2 := fun {pn' xe s2 f} z => by
    cases f with
    | ret u => exact let ⟨v, σ', H', J, r, q⟩ := z; ⟨v, σ', H', J.ofTry ok, r, q⟩
    | next => exact let ⟨σ', H', J, q⟩ := z; ⟨σ', H', J.ofTry ok, q⟩
    | brk => exact let ⟨σ', H', J, q⟩ := z; ⟨σ', H', J.ofTry ok, q⟩
    | cont => exact let ⟨σ', H', J, q⟩ := z; ⟨σ', H', J.ofTry ok, q⟩
  let xe : Value → Shared → Prop := fun e s1 => wpAny (model X.prog X.w) X.A (noteFrame e X.env) (fun _ s2 => wpAny (model X.prog X.w) X.A (setFlight e none) (fun _ s3 => wpAny (model X.prog X.w) X.A (handleBy e X.env (h0 :: hs)) (SP X pins D) X.xe s3) X.xe s2) X.xe s1
  have come : Takes (X.tr (X.pn ++ pins) xe) (wishN X.K D Wo l) := by
    rintro u s1 ⟨a, B, sI, pn', σ1, H1, y, d, rfl, J, nb, up, sky, na, os, ag, w⟩
    have J := J.ofTry ok
    rw [show (X.tr (X.pn ++ pins) xe).stack = X.env :: X.outer from hst] at sky
    refine Sky.land Zc.steady frs1 hf sky fun h3 fl up3 => ?_
    have fly := fl
    obtain ⟨o3, v3, g1, g2, g3⟩ := fl.there
    have out : a ∉ frs (X.env :: X.outer) := fun z => by
      obtain ⟨_, o', w1, w2⟩ := fl.2.2.1.mem z
      rw [g1] at w1; cases w1; exact w2 _ g3
    have up13 := up.trans up3
    have Lnd : Land X pins a y d σ1 H1 { s1 with heap := h3 } := ⟨ok, hf, fun z => out (List.mem_filterMap.mpr ⟨X.env, List.mem_cons_self, by rw [hf, z]⟩), fun z => by
        obtain ⟨e, w1, w2⟩ := List.mem_filterMap.mp z
        exact out (List.mem_filterMap.mpr ⟨e, List.mem_cons_of_mem _ w1, w2⟩), na, ⟨o3, v3, g1, g2, g3⟩, J.landed nb fl.1 up13 os ag, fun {Q E} k => HandSPX.lands_againZ fl fun h4 fl4 up4 => k h4 fl4.there (J.landed nb fl4.1 (up13.trans up4) os ag)⟩
    refine Lnd.named hN (fun wo => wpAny_handleBy_nil ?_) hh w
    obtain ⟨_, _, _, oe, vs, T, oT, ts', z1, _, z3, z4, _⟩ := fly
    have fin : wpAny (model X.prog X.w) X.A (setFlight (.ref a) X.env.frame) (fun _ s4 => wpAny (model X.prog X.w) X.A (throw (.ref a) : Sem Flow) (SP X pins D) X.xe s4) X.xe { s1 with heap := h3 } := by
      rw [hf]
      exact HandSPX.setFlight_upZ fl fun h4 hd4 up4 => wpAny_throw (tk _ _ ⟨a, B, sI, pins, σ1, H1, y, d, rfl, J, nb, up13.trans up4, .inr (.inr (by rw [hst]; exact hd4)), na, os, ag, wo⟩)
    unfold PySem.passOn
    refine wpAny_bind (wpAny_field z1 z3 z4 ?_)
    rw [if_neg (show ¬ ((Value.ref T == Value.none) = true) by simp)]
    first
      | exact wpAny_bind fin
      | exact wpAny_bind (wpAny_pure (wpAny_bind fin))
  refine wpAny_Try_except (wpAny_mono ((hb _ (X.pn ++ pins) xe come PassesOwn.looking).run [] s σ H D (I.toTry _) h) (fun f s1 z => ?_) fun _ _ z => z)
  cases f with
  | next => exact wpAny_execs_nil (back (f := .next) z)
  | ret u => exact back (f := .ret u) z
  | brk => exact back (f := .brk) z
  | cont => exact back (f := .cont) z⟩
end
end KD

set_option maxRecDepth 100000
set_option maxHeartbeats 4000000
/-! Kn1: mirrors of try with several clauses that name the error. -/
namespace KM
open PySem PySem.Spec PyProof.Rows L2 KD
section
variable {X : Cx} {W : WX} {C : Str → Addr} {T U : List Str}
abbrev ClD := Str × Nat × (Addr → Str → Addr → DTS)
/-- the ends of a suite whose error stands in slot i, its dict at d -/
def endsN (Z : DEnds) (i : Nat) (d : Addr) : DEnds := ⟨fun σ S => Z.nx (σ.set i none) (rem S d), fun v S => Z.rt v (rem S d), fun σ S => Z.bk (σ.set i none) (rem S d), fun σ S => Z.ct (σ.set i none) (rem S d), fun _ _ _ _ => False⟩
def exN (C : Str → Addr) (Z : DEnds) (x : Str) (d : Addr) (σ : DSt) (S : Sto) : List ClD → Prop
  | [] => Z.ex (C x) d σ S
  | (c, i, r) :: l => (subN x c = true → ∀ a, r a x d (endsN Z i d) (σ.set i (some (.ref a))) S) ∧ (subN x c = false → exN C Z x d σ S l)
inductive DHn (X : Cx) (C : Str → Addr) (T U : List Str) : List ExceptHandler → List ClD → Prop
  | nil : DHn X C T U [] []
  | cons {c n : Str} {i : Nat} {r : Addr → Str → Addr → DTS} {b : Stmt} {bs : List Stmt} {p q : Pos} {hds : List ExceptHandler} {l : List ClD} (hU : c ∈ U) (hg : Gl X c) (hd : (c == ("__debug__" : Str)) = false) (hi : X.N[i]? = some n) (hk : X.env.kindOf n = some .local)
      (hsu : ∀ (a : Addr) (oe : Obj) (x : Str) (d : Addr) (pn : List (Addr × Obj)), x ∈ T → Zc (.ref (C x)) (some d) oe → (∃ vs, oe.data = .fields vs) → DSs (X.suite a ((a, oe) :: pn)) W0 (b :: bs) (r a x d)) (rr : DHn X C T U hds l) :
      DHn X C T U (.ExceptHandler (some (.Name c p)) (some n) (b :: bs) q :: hds) ((c, i, r) :: l)
def clN (K : PySem.W.Frag) (C : Str → Addr) (T : List Str) : List ClD → List ClN
  | [] => []
  | (c, i, r) :: l => (.ref (C c), i, fun a cls d D σ H => ∃ x dd, x ∈ T ∧ cls = .ref (C x) ∧ d = some dd ∧ hS K W0 (r a x dd) D σ H) :: clN K C T l
theorem clN_ok (E : ErrT X.K X.mg C T U) {hds : List ExceptHandler} {l : List ClD} (h : DHn X C T U hds l) : NHs X hds (clN X.K C T l) := by
  induction h with
  | nil => exact .nil
  | cons hU hg hd hi hk hsu rr ih =>
    refine .cons ⟨hg, hd, .inl (E.glb _ hU).1⟩ hi hk (fun a oe cls d pn hz hf => ⟨fun pins s σ H D I ⟨x, dd, hx, e1, e2, q⟩ => ?_⟩) ih
    subst e1 e2
    exact (hsu a oe x dd pn hx hz hf).can.run pins s σ H D I q
theorem exN_ok (E : ErrT X.K X.mg C T U) {Z : DEnds} {G H : Hp} {S : Sto} {Dh : Ends} (e : EndsOk X.K W Z G H S Dh) {x : Str} {d : Addr} (hx : x ∈ T) {G' H' : Hp} {S' : Sto} {σV : L2.St} {σ : DSt} (k : Wok X.K G' H' S') (f : Fr G H S G' H' S') (s : Sl X.K G' σV σ)
    {hds : List ExceptHandler} {l : List ClD} (h : DHn X C T U hds l) : exN C Z x d σ S' l → wishN X.K Dh W (clN X.K C T l) (.ref (C x)) (some d) σV H' := by
  induction h with
  | nil => exact fun q => e.ex _ _ _ _ _ _ _ q k f s
  | @cons c n i r b bs p q hds l hU hg hd hi hk hsu rr ih =>
    intro ⟨q1, q2⟩
    refine ⟨subN x c, (E.two x hx c hU).1, fun hb a _ => ⟨x, d, hx, rfl, rfl, ⟨endsN Z i d, G', S', _, ?_, k, s.set i (.ref a), q1 hb a⟩⟩, fun hb => ih (q2 hb)⟩
    have e2 := e.mono f
    exact ⟨⟨fun σ3 S3 G3 H3 σV3 q k f s => e2.nx.go _ _ G3 H3 _ q k.drop f.drop (s.unset i)⟩, fun v S3 G3 H3 u q k f r => e2.rt v _ G3 H3 u q k.drop f.drop r, ⟨fun σ3 S3 G3 H3 σV3 q k f s => e2.bk.go _ _ G3 H3 _ q k.drop f.drop (s.unset i)⟩, ⟨fun σ3 S3 G3 H3 σV3 q k f s => e2.ct.go _ _ G3 H3 _ q k.drop f.drop (s.unset i)⟩, fun _ _ _ _ _ _ _ q => q.elim⟩
theorem ds_tryN {body : List Stmt} {h₀ : ExceptHandler} {hds : List ExceptHandler} {l : List ClD} {pos : Pos} {rb : DTS} (hs : X.stack = X.env :: X.outer) (hf : X.env.frame = some X.env.locals) (hN : X.N.Nodup) (tk : Takes X W) (E : ErrT X.K X.mg C T U)
    (hb : ∀ (W : WX) (pn : List (Addr × Obj)) (xe : Value → Shared → Prop), Takes (X.tr pn xe) W → PassesOwn (model X.prog X.w) X.A X.env xe → DSs (X.tr pn xe) W body rb) (hh : DHn X C T U (h₀ :: hds) l) :
    DS X W (.Try body (h₀ :: hds) [] [] pos) (fun Z σ S => rb ⟨Z.nx, Z.rt, Z.bk, Z.ct, fun Ca d σ' S' => ∃ x ∈ T, Ca = C x ∧ exN C Z x d σ' S' l⟩ σ S) := by
  refine ⟨_, ps_tryN (tb := fun W => hS X.K W rb) hs hf hN tk (fun W pn xe tk ps => (hb W pn xe tk ps).can) (clN_ok E hh), ⟨fun Dd G H S σV σ Dh eo k s h => ?_⟩⟩
  refine ⟨_, G, S, σ, ?_, k, s, h⟩
  refine ⟨eo.nx, eo.rt, eo.bk, eo.ct, fun Ca d σ' S' G' H' σV' ⟨x, hx, e1, q⟩ k' f' s' => ?_⟩
  subst e1
  exact exN_ok E eo hx k' f' s' hh q
end
/-! mirrors -/
def dispN {β : Type} (z : ZM β) (c' : Str) (fs : Flds) (μ' : Env) : List (Str × Nat × MS) → β
  | [] => z.ex c' fs μ'
  | (c, i, h) :: l => if subN c' c then guard (noX μ') (setS i (.x c' fs) μ' (fun μ2 => h β (zSuite i z) μ2) z.bad) z.bad else dispN z c' fs μ' l
def mTryN (T : List Str) (s : MS) (l : List (Str × Nat × MS)) : MS := fun β z μ => s β ⟨z.nx, z.rt, z.bk, z.ct, fun c' fs μ' => guard (T.contains c') (dispN z c' fs μ' l) z.bad, z.bad⟩ μ
section
variable {C : Str → Addr} {ax : Ax} {X : Cx} {W : WX} {T U : List Str} {s h : MS}
inductive XHn (tb : List (Addr × Str)) (fm : Bool) (X : Cx) (C : Str → Addr) (T U : List Str) : List ExceptHandler → List (Str × Nat × MS) → Prop
  | nil : XHn tb fm X C T U [] []
  | cons {c n : Str} {i : Nat} {h : MS} {b : Stmt} {bs : List Stmt} {p q : Pos} {hds : List ExceptHandler} {l : List (Str × Nat × MS)} (hU : c ∈ U) (hg : Gl X c) (hd : (c == ("__debug__" : Str)) = false) (hi : X.N[i]? = some n) (hk : X.env.kindOf n = some .local)
      (hsu : ∀ (a : Addr) (oe : Obj) (x : Str) (d : Addr) (pn : List (Addr × Obj)), x ∈ T → Zc (.ref (C x)) (some d) oe → (∃ vs, oe.data = .fields vs) → XSs C ⟨a, d, x, tb, fm⟩ (X.suite a ((a, oe) :: pn)) W0 (b :: bs) h) (rr : XHn tb fm X C T U hds l) :
      XHn tb fm X C T U (.ExceptHandler (some (.Name c p)) (some n) (b :: bs) q :: hds) ((c, i, h) :: l)
def rdN (C : Str → Addr) (tb : List (Addr × Str)) (fm : Bool) : List (Str × Nat × MS) → List ClD
  | [] => []
  | (c, i, h) :: l => (c, i, fun a x d => rdS C ⟨a, d, x, tb, fm⟩ h) :: rdN C tb fm l
theorem xhn_ok {tb : List (Addr × Str)} {fm : Bool} {hds : List ExceptHandler} {l : List (Str × Nat × MS)} (h : XHn tb fm X C T U hds l) : DHn X C T U hds (rdN C tb fm l) := by
  induction h with
  | nil => exact .nil
  | cons hU hg hd hi hk hsu rr ih => exact .cons hU hg hd hi hk (fun a oe x d pn hx hz hf => hsu a oe x d pn hx hz hf) ih
theorem dispN_ok {Z : DEnds} {fx : Fx} {β : Type} {z : ZM β} {Φ : β → Prop} (o : ZOk C ax fx Z z Φ) {c' : Str} {fs : Flds} {μ' : Env} {σ' : DSt} {S' : Sto} {p : Addr} (r' : Rel ax fx μ' σ' S') (hp : S' p = none) : ∀ {l : List (Str × Nat × MS)}, Φ (dispN z c' fs μ' l) → exN C Z c' p σ' (put S' p (.xd fs)) (rdN C ax.tb ax.fm l)
  | [], h => o.ex c' fs μ' σ' S' r' h p hp
  | (c, i, h) :: l, h' => by
    unfold dispN at h'
    refine ⟨fun hc a => ?_, fun hc => ?_⟩
    · rw [if_pos hc] at h'
      obtain ⟨hx, h'⟩ := guard_ok h' o.bad
      obtain ⟨h', u, q1, q2, q3⟩ := setS_ok h' o.bad
      refine ⟨fx, _, β, zSuite i z, Φ, r'.newX hx hp q2 q1 q3, ⟨o.bad, fun μ3 σ3 S3 r3 h3 => ?_, fun d d0 μ3 σ3 S3 r3 hr3 h3 => ?_, fun μ3 σ3 S3 r3 h3 => ?_, fun μ3 σ3 S3 r3 h3 => ?_, fun _ _ _ _ _ _ z => absurd z o.bad⟩, h'⟩
      · obtain ⟨c3, fs3, w1, w2, w3⟩ := unX_ok h3 o.bad
        exact o.nx _ _ _ (r3.goX w1 w2) w3
      · obtain ⟨c3, fs3, w1, w2, w3⟩ := unX_ok h3 o.bad
        exact o.rt d d0 _ _ _ (r3.goX (o := none) w1 w2) (hr3.rem rfl (fun _ e => e) (r3.xdD w1)) w3
      · obtain ⟨c3, fs3, w1, w2, w3⟩ := unX_ok h3 o.bad
        exact o.bk _ _ _ (r3.goX w1 w2) w3
      · obtain ⟨c3, fs3, w1, w2, w3⟩ := unX_ok h3 o.bad
        exact o.ct _ _ _ (r3.goX w1 w2) w3
    · rw [if_neg (by rw [hc]; exact Bool.false_ne_true)] at h'
      exact dispN_ok o r' hp h'
theorem xs_tryN {body : List Stmt} {h₀ : ExceptHandler} {hds : List ExceptHandler} {l : List (Str × Nat × MS)} {pos : Pos} (hs : X.stack = X.env :: X.outer) (hf : X.env.frame = some X.env.locals) (hN : X.N.Nodup) (tk : Takes X W) (E : ErrT X.K X.mg C T U)
    (hb : ∀ (W : WX) (pn : List (Addr × Obj)) (xe : Value → Shared → Prop), Takes (X.tr pn xe) W → PassesOwn (model X.prog X.w) X.A X.env xe → XSs C ax (X.tr pn xe) W body s) (hh : XHn ax.tb ax.fm X C T U (h₀ :: hds) l) : XS C ax X W (.Try body (h₀ :: hds) [] [] pos) (mTryN T s l) :=
  dsI (ds_tryN hs hf hN tk E hb (xhn_ok hh)) fun Z σ S ⟨fx, μ, β, z, Φ, r, o, h0⟩ => by
    refine ⟨fx, μ, β, _, Φ, r, ?_, (show Φ (s β _ μ) from h0)⟩
    refine ⟨o.bad, o.nx, o.rt, o.bk, o.ct, fun c' fs μ' σ' S' r' h' p hp => ?_⟩
    obtain ⟨hT, h'⟩ := guard_ok h' o.bad
    exact ⟨c', by simpa using hT, rfl, dispN_ok o r' hp h'⟩
end
end KM

set_option maxRecDepth 100000
set_option maxHeartbeats 4000000
/-! Kn2: f(lambda: e), where f is: try: a() except C as n: .. except ..; return ..; the tables of code objects. -/
namespace KD
open PySem PySem.Spec PyProof.Rows L2
section
open Classical
/-- the tables grow: new code objects become data -/
theorem Wok.grow {K : PySem.W.Frag} {G H H1 : Hp} {S : Sto} {tb : List (Addr × Str)} (k : Wok K G H S) (ht : ∀ P q l, S P = some (.tab q l) → (P, q) ∈ tb) (eN : LamX.ExtN H H1) (T1 : LamX.Tabs tb H1) : ∃ G1, Wok K G1 H1 S ∧ Fr G H S G1 H1 S := by
  let G1 : Hp := fun b => match G b with
    | some o => some o
    | none => if S b = none ∧ ∃ q, H1 b = some (LamX.CodeO b q) then H1 b else none
  have old : ∀ {b o}, G b = some o → G1 b = some o := fun {b o} e => by simp only [G1, e]
  have new : ∀ {b o}, G1 b = some o → G b = some o ∨ (G b = none ∧ S b = none ∧ H1 b = some o ∧ ∃ q, o = LamX.CodeO b q) := fun {b o} e => by
    cases g : G b with
    | some u => simp only [G1, g] at e; exact .inl e
    | none =>
      simp only [G1, g] at e
      split at e
      · rename_i c
        obtain ⟨c1, q, c2⟩ := c
        exact .inr ⟨rfl, c1, e, q, by rw [e] at c2; exact Option.some.inj c2⟩
      · cases e
  have eg : Ex G G1 := fun b o e => old e
  have kH : ∀ {b o}, H b = some o → (∀ ps, o ≠ .tbl ps) → H1 b = some o := fun {b o} e n => eN b o e n
  have ex1 : Ex G1 H1 := fun b o e => by
    rcases new e with e | ⟨_, _, e, _⟩
    · exact kH (k.ext b o e) fun ps z => k.nt b ps (by rw [e, z])
    · exact e
  refine ⟨G1, ⟨ex1, fun p m e => ?_, fun b ps e => ?_, k.tt⟩, ⟨eg, fun a o e g s n => ?_⟩⟩
  · obtain ⟨g, mk⟩ := k.sto p m e
    have g1 : G1 p = none := by
      cases q : G1 p with
      | none => rfl
      | some o =>
        rcases new q with z | ⟨_, z, _⟩
        · rw [g] at z; cases z
        · rw [e] at z; cases z
    refine ⟨g1, ?_⟩
    cases m with
    | tab q l =>
      obtain ⟨ps, h1, h2, h3⟩ := T1 (p, q) (ht p q l e)
      refine ⟨ps, h1, h2, fun pos cv hc => ?_⟩
      obtain ⟨c, e1, e2⟩ := h3 pos cv hc
      refine ⟨c, e1, ?_⟩
      cases gc : G c with
      | some o =>
        have hc := k.ext c o gc
        have h4 := kH hc fun ps z => k.nt c ps (by rw [gc, z])
        rw [e2] at h4
        rw [old gc, ← Option.some.inj h4]
      | none =>
        have sc : S c = none := by
          cases z : S c with
          | none => rfl
          | some m' =>
            have mo := (k.sto c m' z).2
            cases m' with
            | tab q' l' =>
              obtain ⟨ps', w1, _⟩ := T1 (c, q') (ht c q' l' z)
              rw [e2] at w1
              exact absurd (Option.some.inj w1) (LamX.codeO_ne _)
            | lst xs => obtain ⟨vs, w, _⟩ := mo; have w := kH w nofun; rw [e2] at w; exact absurd (Option.some.inj w) (by unfold LamX.CodeO; nofun)
            | dic xs => obtain ⟨vs, w, _⟩ := mo; have w := kH w nofun; rw [e2] at w; exact absurd (Option.some.inj w) (by unfold LamX.CodeO; nofun)
            | dit xs => obtain ⟨vs, w, _⟩ := mo; have w := kH w nofun; rw [e2] at w; exact absurd (Option.some.inj w) (by unfold LamX.CodeO; nofun)
            | ins C fs => obtain ⟨dx, vs, w, _⟩ := mo; have w := kH w nofun; rw [e2] at w; exact absurd (Option.some.inj w) (by unfold LamX.CodeO; nofun)
            | xd fs => obtain ⟨vs, w, _⟩ := mo; have w := kH w nofun; rw [e2] at w; exact absurd (Option.some.inj w) (by unfold LamX.CodeO; nofun)
        show (match G c with | some o => some o | none => if S c = none ∧ ∃ q, H1 c = some (LamX.CodeO c q) then H1 c else none) = _
        rw [gc]
        dsimp only
        rw [if_pos ⟨sc, q, e2⟩]; exact e2
    | lst xs => exact MOk.mono (H' := H1) eg mk fun o z => kH z (by obtain ⟨vs, w, _⟩ := mk; rw [z] at w; cases w; nofun)
    | dic xs => exact MOk.mono (H' := H1) eg mk fun o z => kH z (by obtain ⟨vs, w, _⟩ := mk; rw [z] at w; cases w; nofun)
    | dit xs => exact MOk.mono (H' := H1) eg mk fun o z => kH z (by obtain ⟨vs, w, _⟩ := mk; rw [z] at w; cases w; nofun)
    | ins C fs => exact MOk.mono (H' := H1) eg mk fun o z => kH z (by obtain ⟨dx, vs, w, _⟩ := mk; rw [z] at w; cases w; nofun)
    | xd fs => exact MOk.mono (H' := H1) eg mk fun o z => kH z (by obtain ⟨vs, w, _⟩ := mk; rw [z] at w; cases w; nofun)
  · rcases new e with e | ⟨_, _, _, q, e⟩
    · exact k.nt b ps e
    · exact LamX.codeO_ne _ e.symm
  · have h1 := kH e fun ps z => by rw [z] at n; exact n
    refine ⟨h1, ?_, s⟩
    cases q : G1 a with
    | none => rfl
    | some u =>
      rcases new q with z | ⟨_, _, z, q', z'⟩
      · rw [g] at z; cases z
      · rw [h1] at z; cases z; rw [z'] at n; exact n.elim
end
/-! ### the def that calls what it got -/
abbrev gCx (X : Cx) (Ng : List Str) (x : Str) (sg : Scope) (g : Addr) (cdg : Value) (s : Shared) (H : Hp) : Cx := (cxOf C8.CX0 X.prog X.w X.K X.mg X.base Ng x sg g cdg X.A X.stack s H C8.E0).nox
def topE (Q : VK) : Ends := { nx := fun _ H' => Q .non H', rt := Q }
def tryE (K : PySem.W.Frag) (rr : DTS) (Q : VK) : Ends := { nx := hS K W0 rr (topE Q), rt := Q }
def zTry (rr : DTS) (Q : DK) : DEnds := ⟨fun σ S => rr (dends Q fun _ _ _ => False) σ S, Q, fun _ _ => False, fun _ _ => False, fun _ _ _ _ => False⟩
def noW : WX := fun _ _ _ _ => False
def TTr (K : PySem.W.Frag) (C : Str → Addr) (T : List Str) (l : List KM.ClD) (rr : DTS) (Ng : List Str) : (XK → Hp → VK → Prop) → Hp → VK → Prop := fun tl H Q =>
  ∀ f : Addr, ∃ Ech : XK, (∀ (σ' : L2.St) (cls : Value) (d : Option Addr) (H' : Hp), σ'.length = Ng.length → Ech cls d H' → wishN K (tryE K rr Q) noW (KM.clN K C T l) cls d σ' H') ∧ tl Ech H (fun _ H' => hS K W0 rr (topE Q) (L2.start Ng [.ref f]) H')
theorem takes_len {X : Cx} {W : WX} (tk : Takes X W) : Takes X (fun cls d σ H => σ.length = X.N.length → W cls d σ H) := fun u s ⟨a, B, sI, pn, σ1, H1, y, d, e, J, nb, up, sky, na, os, ag, w⟩ => tk u s ⟨a, B, sI, pn, σ1, H1, y, d, e, J, nb, up, sky, na, os, ag, w J.len⟩
section
variable {X : Cx} {C : Str → Addr} {T U : List Str} {Ng : List Str} {x a q : Str} {sg : Scope} {g : Addr} {cdg : Value} {h0 : ExceptHandler} {hds : List ExceptHandler} {l : List KM.ClD} {rr : DTS} {re : Expr} {p1 p2 p3 p4 p5 : Pos}
theorem gives_ref (hN : Ng.Nodup) (ET : ErrT X.K X.mg C T U) (hh : ∀ s H, KM.DHn (gCx X Ng x sg g cdg s H) C T U (h0 :: hds) l) (hr : ∀ s H, DSs (gCx X Ng x sg g cdg s H) W0 [.Return (some re) p5] rr)
    (hst : ∀ f : Addr, (L2.start Ng [V.ref f])[0]? = some (some (V.ref f))) : LamX.GivesTo X Ng x sg g cdg [.Try [.Expr (.Call (.Name a p1) [] [] p2) p3] (h0 :: hds) [] [] p4, .Return (some re) p5] a q (TTr X.K C T l rr Ng) := by
  intro f c' s H Q tl act hc h
  obtain ⟨Ech, h1, h2⟩ := h f
  refine ⟨_, pss_cons (ps_tryN (X := gCx X Ng x sg g cdg s H) (Wo := noW) (l := KM.clN X.K C T l)
    (tb := fun W D σ H => ∃ E' : XK, (∀ (σ' : L2.St) cls d H', σ'.length = Ng.length → E' cls d H' → W cls d σ' H') ∧ σ[0]? = some (some (.ref f)) ∧ H c' = some (LamX.CodeO c' q) ∧ tl E' H (fun _ H' => D.nx σ H'))
    rfl rfl hN LamX.takes0 (fun W pn xe tk _ => ?_) (KM.clN_ok (X := gCx X Ng x sg g cdg s H) ET (hh s H))) (hr s H).can, ?_⟩
  · refine ⟨fun pins s' σ H' D I ⟨E', hW, k1, k2, k3⟩ => ?_⟩
    have hp := act (fun cls d σ H => σ.length = Ng.length → W cls d σ H) pn xe E' p1 p2 (takes_len tk) fun cls d σ' H' z e => hW σ' cls d H' e z
    exact (pss_one (ps_expr (pos := p3) hp)).run pins s' σ H' D I ⟨k1, k2, k3⟩
  · exact ⟨Ech, h1, hst f, hc, h2⟩
/-- the reading of g(lambda: e) -/
def dRef (C : Str → Addr) (T : List Str) (tb : List (Addr × Str)) (n : Nat) (r : DTE) (l : List KM.ClD) (rr : DTS) : DTE := fun _ σ S Q => (∀ e ∈ tb, S e.1 = some (.tab e.2 tb)) ∧
  r (fun Ca d S' => ∃ x ∈ T, Ca = C x ∧ KM.exN C (zTry rr Q) x d (List.replicate n none) S' l) σ S (fun _ S' => rr (dends Q fun _ _ _ => False) (List.replicate n none) S')
theorem ev_ref {K : PySem.W.Frag} {W : WX} {mg : Str → Option Value} {X' : Cx} (hK : X'.K = K) {tb : List (Addr × Str)} (hne : tb ≠ []) {r : DTE} (ET : ErrT X'.K X'.mg C T U) (hh : KM.DHn X' C T U (h0 :: hds) l) (hNg : 1 ≤ Ng.length) :
    EvD K W (LamX.tLam tb (TTr K C T l rr Ng) (fun E => hE K (fun cls d _ H' => E cls d H') r)) (dRef C T tb Ng.length r l rr) := ⟨fun E G H S σV σ Q P w k s ⟨hT, h⟩ p => by
  subst hK
  obtain ⟨e0, he0⟩ := List.exists_mem_of_ne_nil tb hne
  have tabs : LamX.Tabs tb H := fun e m => by
    obtain ⟨ps, t1, t2, t3⟩ := (k.sto _ _ (hT e m)).2
    exact ⟨ps, t1, t2, fun pos cv hc => let ⟨c, z1, z2⟩ := t3 pos cv hc; ⟨c, z1, k.ext _ _ z2⟩⟩
  refine ⟨tabs, fun H1 eN T1 f => ?_⟩
  obtain ⟨G1, k1, f1⟩ := k.grow (tb := tb) (fun P q l e => (k.tt _ _ _ _ _ _ (hT e0 he0) e).2) eN T1
  have sl : ∀ (G' : Hp) (σ' : L2.St), σ'.length = Ng.length → Sl X'.K G' σ' (List.replicate Ng.length none) := fun G' σ' e => ⟨by rw [e, List.length_replicate], fun i d z => by
    rw [List.getElem?_replicate] at z
    split at z <;> cases z⟩
  have top : ∀ {G2 H2 S2}, Fr G H S G2 H2 S2 → EndsOk X'.K W0 (dends Q fun _ _ _ => False) G2 H2 S2 (topE P) := fun {G2 H2 S2} f2 =>
    ⟨⟨fun σ' S' G' H' σV' q k' f' s' => p _ S' G' H' _ q k' (f2.trans f') .non⟩, fun d S' G' H' v q k' f' r' => p d S' G' H' v q k' (f2.trans f') r', ⟨fun _ _ _ _ _ q => q.elim⟩, ⟨fun _ _ _ _ _ q => q.elim⟩, fun _ _ _ _ _ _ _ q => q.elim⟩
  have mid : EndsOk X'.K noW (zTry rr Q) G1 H1 S (tryE X'.K rr P) :=
    ⟨⟨fun σ' S' G' H' σV' q k' f' s' => ⟨_, G', S', σ', top (f1.trans f'), k', s', q⟩⟩, fun d S' G' H' v q k' f' r' => p d S' G' H' v q k' (f1.trans f') r', ⟨fun _ _ _ _ _ q => q.elim⟩, ⟨fun _ _ _ _ _ q => q.elim⟩, fun _ _ _ _ _ _ _ q => q.elim⟩
  refine ⟨fun cls d H' => ∃ (Ca dd : Addr) (S' : Sto) (G' : Hp), cls = .ref Ca ∧ d = some dd ∧ (∃ x ∈ T, Ca = C x ∧ KM.exN C (zTry rr Q) x dd (List.replicate Ng.length none) S' l) ∧ Wok X'.K G' H' S' ∧ Fr G1 H1 S G' H' S', ?_, ?_⟩
  · rintro σ' cls d H' hl ⟨Ca, dd, S', G', rfl, rfl, ⟨x, hx, rfl, q⟩, k', f'⟩
    exact KM.exN_ok ET mid hx k' f' (sl G' σ' hl) hh q
  · refine ⟨_, G1, S, σ, _, ⟨fun Ca d S' G' H' e k' f' => ⟨Ca, d, S', G', rfl, rfl, e, k', f'⟩⟩, k1, s.mono f1.g, h, fun d S' G' H' v q k' f' _ => ?_⟩
    refine ⟨_, G', S', _, top (f1.trans f'), k', sl G' _ ?_, q⟩
    simp [L2.start]; omega⟩
end
end KD

set_option maxRecDepth 100000
set_option maxHeartbeats 4000000
/-! Kn3: the mirror of g(lambda: e). -/
namespace KD
open PySem PySem.Spec PyProof.Rows L2
section
variable {X : Cx} {W : WX} {C : Str → Addr} {T U : List Str} {Ng : List Str} {x a : Str} {st : Stmt} {h0 : ExceptHandler} {hds : List ExceptHandler} {l : List KM.ClD} {rr : DTS} {re : Expr} {p1 p2 p3 p4 p5 p lpos pos : Pos} {k : Nat} {P c : Addr} {tb : List (Addr × Str)} {params : Arguments} {body : Expr} {scope : Scope} {r : DTE}
theorem de_ref (A : At X.K X.mg x st [a]) (Sg : FnScope Ng [a] (defScope st)) (hN : Ng.Nodup) (hNg : Ng[0]? = some a) (hva : Vis (defScope st) a) (hg : Gl X x) (hbd : defBody st = [.Try [.Expr (.Call (.Name a p1) [] [] p2) p3] (h0 :: hds) [] [] p4, .Return (some re) p5]) (ET : ErrT X.K X.mg C T U)
    (hh : ∀ g cdv s H, KM.DHn (gCx X Ng x (defScope st) g cdv s H) C T U (h0 :: hds) l) (hr : ∀ g cdv s H, DSs (gCx X Ng x (defScope st) g cdv s H) W0 [.Return (some re) p5] rr)
    (TB : LamX.TabB X.base X.mg c P) (hcode : X.env.code = .ref c) (htb : tb = [(P, X.env.qual ++ "<lambda>")]) (hrm : Room (k + 2) X.A) (L : LamX.LamS X.env.scope scope) (hdef : defaultsOf params X.env = ([], []))
    (hbind : ∀ (q : Str) (cl : List (Str × Addr)) (pm cv ctv : Value), bindArgs (PySem.W.kla_fn "<lambda>" q params body scope cl pm cv ctv) ⟨[], []⟩ = pure [])
    (hb : ∀ (A : Around) (outer : List Env) (s : Shared) (H : Hp) (E : XK) (f c' : Addr), Room k (A.deeper (LamX.lamEnv X scope s.heap.objs.size f c')) → DE (LamX.lamCx X A outer s H E scope f c') (fun cls d _ H' => E cls d H') body r)
    (hdb : (x == ("__debug__" : Str)) = false := by decide) (hd : (a == ("__debug__" : Str)) = false := by decide) (hcd : (a == ("__classdict__" : Str)) = false := by decide) :
    DE X W (.Call (.Name x p) [.Lambda params body scope lpos] [] pos) (dRef C T tb Ng.length r l rr) := by
  obtain ⟨f, fd, hm, F, hbn⟩ := A.ex
  obtain ⟨⟨oc, od, kV, doc, pm, an, cdv, ct, osl, e1, lk, hcg⟩, hk⟩ := F
  subst e1
  subst htb
  rw [hbd] at lk hbn
  have n1 : 1 ≤ Ng.length := by
    cases Ng with
    | nil => cases hNg
    | cons y r => simp
  have hst : ∀ f : Addr, (L2.start Ng [V.ref f])[0]? = some (some (V.ref f)) := fun f => by simp [L2.start]
  exact ⟨_, LamX.pe_lamcall (T := [(P, X.env.qual ++ "<lambda>")]) hg hm hk lk hcg hbn Sg hNg hva (gives_ref hN ET (hh f cdv) (hr f cdv) hst) TB hcode (by simp) (fun q hq _ => by simp at hq; rw [hq]) hrm L hdef hbind (fun A outer s H E f c' hr => (hb A outer s H E f c' hr).can) hdb hd hcd,
    ev_ref (X' := gCx X Ng x (defScope st) f cdv X.s_0 X.H_0) rfl (mg := X.mg) (by simp) ET (hh f cdv X.s_0 X.H_0) n1⟩
end
end KD
namespace KM
open PySem PySem.Spec PyProof.Rows L2 KD
def zEnd : ZM (P D) := ⟨fun _ => .ok .non (), fun d _ => .ok d (), fun _ => .bad, fun _ => .bad, fun _ _ _ => .bad, .bad⟩
def zTryM (rt : MS) : ZM (P D) := ⟨fun μ => rt _ zEnd μ, fun d _ => .ok d (), fun _ => .bad, fun _ => .bad, fun _ _ _ => .bad, .bad⟩
def retP (n : Nat) (rt : MS) : P D := rt _ zEnd (List.replicate n .un)
def hdlP (n : Nat) (rt : MS) (l : List (Str × Nat × MS)) (c : Str) (fs : Flds) : P D := dispN (zTryM rt) c fs (List.replicate n .un) l
def mRef (T : List Str) (n : Nat) (rt : MS) (l : List (Str × Nat × MS)) (m : MC) : MC := fun β μ k ex b => m β μ (fun _ μ1 => got (retP n rt) (fun d _ => k d μ1) (fun _ _ _ => b) b) (fun c fs μ1 => guard (T.contains c) (got (hdlP n rt l c fs) (fun d _ => k d μ1) (fun _ _ _ => b) b) b) b
section
variable {X : Cx} {W : WX} {C : Str → Addr} {ax : Ax} {T U : List Str} {Ng : List Str} {x a : Str} {st : Stmt} {h0 : ExceptHandler} {hds : List ExceptHandler} {l : List (Str × Nat × MS)} {rt : MS} {re : Expr} {p1 p2 p3 p4 p5 p lpos pos : Pos} {k : Nat} {P c : Addr} {params : Arguments} {body : Expr} {scope : Scope} {m : MC}
theorem relNil {n : Nat} {S : Sto} : Rel ax0 ⟨n, fun _ => none, S, fun _ => none⟩ (List.replicate n .un) (List.replicate n none) S := by
  have un : ∀ {i : Nat} {t : SV}, (List.replicate n SV.un)[i]? = some t → t = .un := fun {i t} e => by
    rw [List.getElem?_replicate] at e
    split at e <;> cases e; rfl
  refine ⟨fun _ => 0, by simp, by simp, fun i t e => ?_, fun i j t u a b e f g q _ => ?_, fun i t a e g => ?_, fun b a e => e, (fun i t e => by cases e), (fun i t e => by cases e), fun i t e o => ?_, (fun _ m => by cases m)⟩
  · rw [un e]; trivial
  · rw [un e] at g; cases g
  · rw [un e] at g; cases g
  · rw [un e] at o; cases o
theorem xc_ref (A : At X.K X.mg x st [a]) (Sg : FnScope Ng [a] (defScope st)) (hN : Ng.Nodup) (hNg : Ng[0]? = some a) (hva : Vis (defScope st) a) (hg : Gl X x) (hbd : defBody st = [.Try [.Expr (.Call (.Name a p1) [] [] p2) p3] (h0 :: hds) [] [] p4, .Return (some re) p5]) (ET : ErrT X.K X.mg C T U)
    (hh : ∀ g cdv s H, XHn [] false (gCx X Ng x (defScope st) g cdv s H) C T U (h0 :: hds) l) (hr : ∀ g cdv s H, XSs C ax0 (gCx X Ng x (defScope st) g cdv s H) W0 [.Return (some re) p5] rt)
    (TB : LamX.TabB X.base X.mg c P) (hcode : X.env.code = .ref c) (htb : ax.tb = [(P, X.env.qual ++ "<lambda>")]) (hrm : Room (k + 2) X.A) (L : LamX.LamS X.env.scope scope) (hdef : defaultsOf params X.env = ([], []))
    (hbind : ∀ (q : Str) (cl : List (Str × Addr)) (pm cv ctv : Value), bindArgs (PySem.W.kla_fn "<lambda>" q params body scope cl pm cv ctv) ⟨[], []⟩ = pure [])
    (hb : ∀ (A : Around) (outer : List PySem.Env) (s : Shared) (H : Hp) (E : XK) (f c' : Addr), Room k (A.deeper (LamX.lamEnv X scope s.heap.objs.size f c')) → XC C ax (LamX.lamCx X A outer s H E scope f c') (fun cls d _ H' => E cls d H') body m)
    (hdb : (x == ("__debug__" : Str)) = false := by decide) (hd : (a == ("__debug__" : Str)) = false := by decide) (hcd : (a == ("__classdict__" : Str)) = false := by decide) :
    XC C ax X W (.Call (.Name x p) [.Lambda params body scope lpos] [] pos) (mRef T Ng.length rt l m) :=
  deI (de_ref A Sg hN hNg hva hg hbd ET (fun g cdv s H => xhn_ok (hh g cdv s H)) hr TB hcode htb hrm L hdef hbind hb hdb hd hcd) fun E σ S Q ⟨fx, μ, β, k, ex, b, Φ, r, z, h⟩ => by
    refine ⟨fun e he => ?_, ?_⟩
    · obtain ⟨B, r⟩ := r
      exact r.ext _ _ (r.tb e he)
    · have fin : ∀ {μ1 : Env} {S1 S2 : Sto} {d : D}, Rel ax fx μ1 σ S1 → (∀ b m, S1 b = some m → S2 b = some m) → Φ (k d μ1) → Q d S2 := fun {μ1 S1 S2 d} ⟨B, r1⟩ hs hq => z.k d μ1 S2 ⟨B, r1.sto hs⟩ hq
      have zE : ∀ {μ1 : Env} {S1 : Sto}, Rel ax fx μ1 σ S1 → ZOk C ax0 ⟨Ng.length, fun _ => none, S1, fun _ => none⟩ (dends Q fun _ _ _ => False) zEnd (fun y : KM.P D => Φ (got y (fun d _ => k d μ1) (fun _ _ _ => b) b)) := fun {μ1 S1} r1 =>
        ⟨z.bad, fun μ' σ' S' ⟨_, r'⟩ h => fin r1 r'.ext h, fun d d0 μ' σ' S' ⟨_, r'⟩ hr h => by rw [hr.eq rfl]; exact fin r1 r'.ext h, fun _ _ _ _ h => absurd h z.bad, fun _ _ _ _ h => absurd h z.bad, fun _ _ _ _ _ _ h => absurd h z.bad⟩
      refine ⟨fx, μ, β, _, _, b, Φ, r, ⟨z.bad, fun d μ1 S1 r1 h1 => ?_, fun c' fs μ1 S1 r1 h1 p hp => ?_⟩, h⟩
      · exact ⟨_, _, _, zEnd, _, relNil, zE r1, h1⟩
      · obtain ⟨hT, h1⟩ := guard_ok h1 z.bad
        refine ⟨c', by simpa using hT, rfl, dispN_ok (ax := ax0) (fx := ⟨Ng.length, fun _ => none, S1, fun _ => none⟩) (z := zTryM rt) (Φ := fun y : KM.P D => Φ (got y (fun d _ => k d μ1) (fun _ _ _ => b) b)) ⟨z.bad, fun μ' σ' S' r' h => ?_, fun d d0 μ' σ' S' ⟨_, r'⟩ hr h => by rw [hr.eq rfl]; exact fin r1 r'.ext h, fun _ _ _ _ h => absurd h z.bad, fun _ _ _ _ h => absurd h z.bad, fun _ _ _ _ _ _ h => absurd h z.bad⟩ relNil hp h1⟩
        exact ⟨_, μ', _, zEnd, _, r', zE r1, h⟩
end
end KM

set_option maxRecDepth 100000
set_option maxHeartbeats 4000000
/-! Kn4: repr of lists and tuples of data. -/
namespace KD
open PySem PySem.Spec PyProof.Rows L2
mutual
theorem py_nodict : ∀ (d : D) (p : PyData), toPy d = some p → PyData.hasDict p = false
  | .non, p, h => by simp only [toPy, Option.some.injEq] at h; subst h; rw [PyData.hasDict]
  | .bl b, p, h => by simp only [toPy, Option.some.injEq] at h; subst h; rw [PyData.hasDict]
  | .int b, p, h => by simp only [toPy, Option.some.injEq] at h; subst h; rw [PyData.hasDict]
  | .str b, p, h => by simp only [toPy, Option.some.injEq] at h; subst h; rw [PyData.hasDict]
  | .lst xs, p, h => by
    simp only [toPy, Option.map_eq_some_iff] at h
    obtain ⟨ps, h1, rfl⟩ := h
    rw [PyData.hasDict]; exact py_nodictL xs ps h1
  | .tup xs, p, h => by
    simp only [toPy, Option.map_eq_some_iff] at h
    obtain ⟨ps, h1, rfl⟩ := h
    rw [PyData.hasDict]; exact py_nodictL xs ps h1
  | .dic _, _, h => by simp [toPy] at h
  | .dit _, _, h => by simp [toPy] at h
  | .ref _, _, h => by simp [toPy] at h
  | .scr _, _, h => by simp [toPy] at h
  | .ty _, _, h => by simp [toPy] at h
  | .fn _, _, h => by simp [toPy] at h
theorem py_nodictL : ∀ (ds : List D) (ps : List PyData), toPyL ds = some ps → PyData.hasDictAll ps = false
  | [], ps, h => by simp only [toPyL, Option.some.injEq] at h; subst h; rw [PyData.hasDictAll]
  | d :: ds, ps, h => by
    simp only [toPyL] at h
    split at h
    · rename_i p qs h1 h2
      cases h
      rw [PyData.hasDictAll, py_nodict d p h1, py_nodictL ds qs h2]; rfl
    · cases h
end
def isSeqD : D → Bool
  | .lst _ => true
  | .tup _ => true
  | _ => false
/-- repr of data -/
def dRepr : List D → Sto → DK → Prop := fun ds S Q => ∃ x p, ds = [x] ∧ isSeqD (vw S x) = true ∧ toPy (vw S x) = some p ∧ p.showable = true ∧ p.depth ≤ 64 ∧ p.shown.length ≤ 16777216 ∧ Q (.str p.shown) S
section
variable {X : Cx}
theorem call_reprD (hg : X.A.guards = some []) (hu : X.A.units + 65 < cLine) : CallR X (.builtin "repr") (fun xs H Q => ∃ (a : Addr) (p : PyData), xs = [.ref a] ∧ Dp X.K H (.ref a) p ∧ p.hasDict = false ∧ p.showable = true ∧ p.depth ≤ 64 ∧ p.shown.length ≤ sizeLine ∧ Q (.str p.shown) H) := by
  intro pins s σ H xs us Q I r ⟨a, p, e, hp, hn, hs, hd, hz, q⟩
  subst e
  obtain ⟨as, rd⟩ := Dp.reads I p (.ref a) (.ref a) hp rfl
  have key := repr_of_reads' (prog := X.prog) (w := X.w) (A := X.A) (E := X.xe) (s := s) (Q := EP X pins σ Q) rd hs (PyData.noDict_hsm hn) hg (by omega) (fun _ _ h => h) (fun h' u tk k => ⟨.str _, H, I.kept k, ⟨u, rfl⟩, q⟩) hz
  cases r with
  | cons r1 r2 =>
    cases r2
    obtain rfl := r1
    exact key
theorem dc_repr (hg : X.A.guards = some []) (hu : X.A.units + 65 < cLine) : DC X (.builtin "repr") dRepr := ⟨_, call_reprD hg hu, ⟨fun G H S xs vs Q P k r ⟨x, p, e, h0, h1, h2, h3, h4, h5⟩ hp => by
  subst e
  obtain ⟨v, rfl, r1⟩ := one_of r
  have hD := dp_vw k r1 h1
  have hv : ∃ a, v = .ref a := by
    cases hD with
    | lst _ _ => exact ⟨_, rfl⟩
    | tup _ _ => exact ⟨_, rfl⟩
    | _ =>
      exfalso
      revert h0 h1
      cases vw S x <;> simp [isSeqD, toPy]
  obtain ⟨a, rfl⟩ := hv
  exact ⟨a, p, rfl, hD, py_nodict _ _ h1, h2, h3, Nat.le_trans h4 (by decide), hp _ S G H _ h5 k (.refl _ _ _) (.str _)⟩⟩⟩
end
end KD
namespace KM
open PySem PySem.Spec PyProof.Rows L2 KD
def reprD (x : D) : Option D := match isSeqD x with
  | true => match toPy x with
    | some p => if p.showable = true ∧ p.depth ≤ 64 ∧ p.shown.length ≤ 16777216 then some (.str p.shown) else none
    | none => none
  | false => none
theorem seq_vw {S : Sto} {x0 x : D} (h : Vw S x0 x) (hx : isSeqD x = true) : vw S x0 = x := by
  rcases h with rfl | h
  · cases x0 <;> simp [isSeqD] at hx <;> rfl
  · exact h
theorem ok_repr : ClOk dRepr (on1 reprD) := fun xs xs0 S d Q v e q => by
  match xs, xs0, v with
  | [x], [x0], .cons v .nil =>
    have e : reprD x = some d := e
    unfold reprD at e
    split at e
    · rename_i hx
      split at e
      · rename_i p hp
        split at e
        · rename_i c
          cases e
          have hv := seq_vw v hx
          exact ⟨x0, p, rfl, by rw [hv]; exact hx, by rw [hv]; exact hp, c.1, c.2.1, c.2.2, q⟩
        · cases e
      · cases e
    · cases e
  | [], _, _ => cases e
  | _ :: _ :: _, _, _ => cases e
end KM

set_option maxRecDepth 100000
set_option maxHeartbeats 4000000
/-! Kn5: a law's end where its def makes lambdas: its code object's table is tracked; what surrounds the law is the caller alone. -/
namespace KD
open PySem PySem.Spec PyProof.Rows L2
abbrev emptyTb : Obj := { cls := .none, data := .fields #[] }
/-- the law's run -/
def LawRun (P : Program) (w : World) (K : PySem.W.Frag) (mg : Str → Option Value) (base : Heap) (fa Pt : Addr) : Prop := ∀ (s : Shared) (H : Hp) (a : Addr) (ns : List Int), ns.length ≤ 63 → Env0 P w K mg base callerA [] s H → H Pt = some (.tbl #[]) → SqL K H a (ns.map V.int) →
  codeAny (model P w) callerA (.call (.ref fa) ⟨[.ref a], []⟩) (CR (L2.CX P w) [] P w H s (fun v _ => v = .bl true) fun _ _ _ => False) s
section
variable {P : Program} {w : World} {K : PySem.W.Frag} {mg mb : Str → Option Value} {fa a c Pt : Addr} {s1 : Shared} {vs : List Value} {ns : List Int}
theorem law_callG (KX : K.In s1.heap) (hns : s1.heap.Ns mainGlobals mg) (hb : s1.heap.Ns builtinsNs mb) (hbb : ∀ x : Str, x ≠ "__name__" → mb x = bootBuiltins x) (hlim : s1.heap.NoLimit) (hg : s1.gens = #[]) (hT : s1.heap.get? Pt = some emptyTb) (nT : K.lookup Pt = none) (C : PySem.W.CodeHd s1.heap c Pt)
    (hbm : ∃ (bm : Addr) (ob : Obj), mg "__builtins__" = some (.ref bm) ∧ bm ≠ builtinsNs ∧ s1.heap.get? bm = some ob ∧ ob.cls = .type "module" ∧ ob.dict = some builtinsNs ∧ ob.data = .plain) (ha : s1.heap.get? a = some { cls := .type "list", data := .seq vs.toArray }) (hi : IntsAre vs ns) (hl : ns.length ≤ 63)
    (R : ∀ base : Heap, K.In base → base.Ns mainGlobals mg → LamX.TabB base mg c Pt → LawRun P w K mg base fa Pt) :
    codeAny (model P w) callerA (.call (.ref fa) ⟨[.ref a], []⟩) (fun r s' => r = .ok (.ret (.bool true)) ∧ OldK s1.heap s'.heap ∧ s'.os = s1.os ∧ AllBare s'.gens) s1 := by
  classical
  have rv := vals_ints hi
  have nPa : Pt ≠ a := fun z => by rw [z, ha] at hT; cases hT
  let fz : HO := .frz { cls := .type "list", data := .seq vs.toArray } (.lst (ns.map V.int))
  let H : Hp := fun b => if b = Pt then some (.tbl #[]) else if b = a ∧ K.lookup a = none then some fz else none
  have HP : H Pt = some (.tbl #[]) := if_pos rfl
  have two : ∀ {b u}, H b = some u → (b = Pt ∧ u = .tbl #[]) ∨ (b = a ∧ K.lookup a = none ∧ u = fz) := fun {b u} e => by
    by_cases z : b = Pt
    · rw [z, HP] at e; exact .inl ⟨z, (Option.some.inj e).symm⟩
    · have e : (if b = a ∧ K.lookup a = none then some fz else none) = some u := (if_neg z).symm.trans e
      by_cases y : b = a ∧ K.lookup a = none
      · rw [if_pos y] at e; exact .inr ⟨y.1, y.2, (Option.some.inj e).symm⟩
      · rw [if_neg y] at e; cases e
  have free : ∀ {b : Addr} {o : Obj}, s1.heap.get? b = some o → o ≠ emptyTb → (b = a → K.lookup a ≠ none) → H b = none := fun {b o} e n1 n2 => by
    cases q : H b with
    | none => rfl
    | some u =>
      rcases two q with ⟨z, _⟩ | ⟨z, y, _⟩
      · rw [z, hT] at e; exact absurd (Option.some.inj e).symm n1
      · exact absurd y (n2 z)
  have sq : ∀ {b : Addr} {o : Obj}, s1.heap.get? b = some o → (∀ us n, o.data ≠ .seq us n) → b ≠ a := fun {b o} e n z => by rw [z, ha] at e; cases e; exact n _ _ rfl
  have hS : SqL K H a (ns.map V.int) := by
    cases hk : K.lookup a with
    | none => exact .inl (.inr ⟨_, by show (if a = Pt then _ else _) = _; rw [if_neg nPa.symm, if_pos ⟨rfl, hk⟩]⟩)
    | some o =>
      have e := KX a o hk
      rw [ha] at e; cases e
      refine .inr ⟨_, vs.toArray, _, hk, rfl, rfl, rfl, ?_, by simpa using rv⟩
      rw [List.size_toArray, hi.length]; exact Nat.le_trans hl (by decide)
  have hok : HOk P w H s1.heap := fun b u e => by
    rcases two e with ⟨rfl, rfl⟩ | ⟨rfl, _, rfl⟩
    · exact hT
    · exact ⟨ha, by rw [List.length_map]; exact Nat.le_trans hl (by decide), vs, _, rv, ha⟩
  have up : ∀ {b : Addr} {o : Obj}, s1.heap.get? b = some o → H b = none → (hidT s1.heap H).get? b = some o := fun e n => hidT_get e n
  have dict : ∀ {b : Addr} {m : Str → Option Value}, s1.heap.Ns b m → (hidT s1.heap H).Ns b m := fun {b m} ⟨o, es, ep, e, d, r⟩ => ⟨o, es, ep, up e (free e (fun z => by rw [z] at d; cases d) fun z => absurd z (sq e fun us n y => by rw [d] at y; cases y)), d, r⟩
  have KB : K.In (hidT s1.heap H) := fun b o e => up (KX b o e) (by
    cases q : H b with
    | none => rfl
    | some u =>
      rcases two q with ⟨z, _⟩ | ⟨z, y, _⟩
      · rw [z, nT] at e; cases e
      · rw [z, y] at e; cases e)
  have M : L2.Mod K mg (hidT s1.heap H) := ⟨KB, dict hns, ⟨mb, dict hb, hbb⟩, let ⟨mc, h1, h2⟩ := hlim; ⟨mc, dict h1, h2⟩⟩
  have TB : LamX.TabB (hidT s1.heap H) mg c Pt := by
    obtain ⟨bm, ob, b1, b2, b3, b4, b5, b6⟩ := hbm
    have plain : ob ≠ emptyTb := fun z => by rw [z] at b6; cases b6
    obtain ⟨o, us, f, tf, fl, tg, inF, tx, tt, e1, r⟩ := C
    have co : o ≠ emptyTb := fun z => by rw [z] at r; cases r.1
    refine ⟨⟨o, us, f, tf, fl, tg, inF, tx, tt, up e1 (free e1 co fun z => absurd z (sq e1 fun us n y => by rw [r.2.1] at y; cases y)), r⟩, ⟨bm, ob, b1, b2, fun z => ?_, fun z => ?_, up b3 (free b3 plain fun z => absurd z (sq b3 fun us n y => by rw [b6] at y; cases y)), b4, b5, b6⟩, fun z => ?_⟩
    · obtain ⟨o', es, ep, q1, q2, _⟩ := hns
      rw [← z, b3] at q1; cases q1; rw [b6] at q2; cases q2
    · rw [z, hT] at b3; cases b3; cases b6
    · obtain ⟨o', es, ep, q1, q2, _⟩ := hns
      rw [z, hT] at q1; cases q1; cases q2
  have e0 : Env0 P w K mg (hidT s1.heap H) callerA [] s1 H := ⟨rfl, M, fun b o e => of_hidT e, Nat.le_of_eq (hidT_size _ _), trivial, fun b z => (List.not_mem_nil z).elim, hok, .of_eq hg⟩
  refine codeAny_mono (R _ KB (dict hns) TB s1 H a ns hl e0 HP hS) fun r s' h => ?_
  match r, h with
  | .error e, h => obtain ⟨_, _, _, _, _, _, _, _, _, _, _, _, z⟩ := h; exact z.elim
  | .ok .next, h => exact (show False from h).elim
  | .ok .brk, h => exact (show False from h).elim
  | .ok .cont, h => exact (show False from h).elim
  | .ok (.ret u), h =>
    obtain ⟨v, H', os, bare, un, hok', rl, rfl⟩ := h
    have ru : u = Value.bool true := rl
    subst ru
    obtain ⟨more, hm⟩ := un.tbls Pt #[] HP
    have grown : s'.heap.get? Pt = some { cls := .none, data := .fields more } := by
      have := hok' Pt _ hm
      rw [Array.empty_append] at this; exact this
    have same : ∀ b o, b ≠ Pt → s1.heap.get? b = some o → s'.heap.get? b = some o := fun b o n e => by
      cases q : H b with
      | none => exact un.keep b o e q (List.not_mem_nil) (List.not_mem_nil)
      | some u =>
        rcases two q with ⟨z, _⟩ | ⟨z, _, y⟩
        · exact absurd z n
        · rw [y] at q
          have k1 := (hok' b _ (un.frzs b _ _ q)).1
          rw [z, ha] at e; cases e; exact k1
    refine ⟨rfl, ⟨fun b o e => ?_, fun b o e => ?_⟩, os, bare⟩
    · by_cases z : b = Pt
      · subst z
        rw [hT] at e; cases e
        exact .inr (.inl ⟨(C.tab hT).isCodeTable, rfl, #[], more, rfl, by rw [Array.empty_append]; exact grown⟩)
      · exact .inl (same b o z e)
    · by_cases z : b = Pt
      · subst z; exact ⟨_, grown⟩
      · exact ⟨o, same b o z e⟩
end
theorem walkG {l : PySem.W.OpenLaw} {q : Program} {loose : List Str} {XP : (Str → Option Value) → Heap → Prop} {YP : World → Heap → Prop} {d : DefRec} {K : Params → PySem.W.Frag} (hn : l.most = some 63) (hdf : d.params.defaults = []) (hdn : d.name = "law") (hY : ∀ (w : World) (h : Heap), YP w h → (K w.params).In h)
    (F : ∀ (w : World) (mg : Str → Option Value) (h : Heap), YP w h → (K w.params).In h → h.Ns mainGlobals mg → ∃ (f c Pt : Addr), mg "law" = some (.ref f) ∧ h.get? Pt = some emptyTb ∧ (K w.params).lookup Pt = none ∧ PySem.W.CodeHd h c Pt ∧
      ∀ base : Heap, (K w.params).In base → base.Ns mainGlobals mg → LamX.TabB base mg c Pt → LawRun l.prog w (K w.params) mg base f Pt) :
    PySem.W.WalkO q loose XP YP l.row.toRowW d [] (fun f vs => PySem.call f vs) := by
  refine Att.attach_callB hn hdf fun w s₀ s₁ mg mb fa o pm cd doc a vs ns G Y ho hd hcd hmg hobj hints hlen hbits hg => ?_
  obtain ⟨f, c, Pt, h1, h2, h3, h4, h5⟩ := F w mg _ Y (hY w _ Y) G.T.g
  rw [hdn, h1] at hmg
  cases hmg
  exact law_callG (hY w _ Y) G.T.g G.T.b G.T.builtins G.T.nolimit hg h2 h3 h4 G.T.bmain hobj hints hlen h5
end KD

set_option maxRecDepth 100000
set_option maxHeartbeats 4000000
/-! Kn6: the law's own def, where it makes lambdas. -/
namespace KM
open PySem PySem.Spec PyProof.Rows L2 KD
abbrev lamQ : Str := (("law" : Str) ++ ".<locals>.") ++ "<lambda>"
abbrev axL (Pt : Addr) : Ax := ⟨0, 0, "", [(Pt, lamQ)], false⟩
section
variable {P : Program} {w : World} {K : PySem.W.Frag} {mg : Str → Option Value} {base : Heap} {C : Str → Addr}
theorem okLawG {st : Stmt} {f c Pt : Addr} {N : List Str} {k : Nat} {m : D → KM.P D} {s : MS} {oc kV doc pm ct : Value} {od an : Option Addr} {osl : Array (Option Value)} (lk : K.lookup f = some ⟨oc, od, .func (PySem.W.fnOf "law" "law" (defArgs st) (defBody st) (defScope st) .none kV doc pm an (.ref c) ct), osl⟩) (hcd : PySem.W.codeIn K (.ref c) "law" = true)
    (hbd : ∀ (s : Shared) (u : Value), BindsTo s (PySem.W.fnOf "law" "law" (defArgs st) (defBody st) (defScope st) .none kV doc pm an (.ref c) ct) ⟨[u], []⟩ [("script", u)])
    (Sc : FnScope N ["script"] (defScope st)) (hN : 1 ≤ N.length) (hm : ∀ d, m d = s _ zTop (SV.v d :: List.replicate (N.length - 1) .un)) (hl : ∀ ns : List Int, ns.length ≤ 63 → m (.scr ns) = .ok (.bl true) ()) (hr : Room (k + 1) callerA)
    (hb : ∀ (s0 : Shared) (H : Hp) (E : XK), Room k (callerA.deeper (envOfC "law" (defScope st) s0.heap.objs.size f (.ref c))) →
      XSs C (axL Pt) (cxOf (L2.CX P w) P w K mg base N "law" (defScope st) f (.ref c) callerA [] s0 H E) (fun cls d _ H' => E cls d H') (defBody st) s) : LawRun P w K mg base f Pt := by
  intro s1 H a ns hns e0 hP hS
  refine LamX.run_ofS (N := N) (ps := ["script"]) (us := [.ref a]) (vs := [.ref a]) lk hcd Sc hr e0 (hbd s1 _) (.cons rfl .nil) rfl fun hr' => ?_
  obtain ⟨t, p, ev⟩ := dss_drop (hb s1 H (fun _ _ _ => False) hr')
  let S : Sto := fun b => if b = Pt then some (.tab lamQ [(Pt, lamQ)]) else none
  have hSP : S Pt = some (.tab lamQ [(Pt, lamQ)]) := if_pos rfl
  have only : ∀ {b m}, S b = some m → b = Pt ∧ m = .tab lamQ [(Pt, lamQ)] := fun {b m} e => by
    by_cases z : b = Pt
    · rw [z, hSP] at e; exact ⟨z, (Option.some.inj e).symm⟩
    · exact absurd ((if_neg z).symm.trans e) nofun
  have k : Wok K (noT H) H S := ⟨fun b o h => (noT_get h).1, fun b m e => by
      obtain ⟨rfl, rfl⟩ := only e
      refine ⟨?_, #[], hP, trivial, fun pos cv hc => ?_⟩
      · cases q : noT H b with
        | none => rfl
        | some u => obtain ⟨q1, q2⟩ := noT_get q; rw [hP] at q1; cases q1; exact absurd rfl (q2 _)
      · have hc : codeAmong pos [] = some cv := hc
        simp [codeAmong] at hc, fun _ ps h => (noT_get h).2 ps rfl, fun p q l p' q' l' e e' => by
      obtain ⟨rfl, z⟩ := only e
      obtain ⟨rfl, z'⟩ := only e'
      cases z; cases z'; exact ⟨rfl, by simp⟩⟩
  refine ⟨t, p, ev.run (dends (fun d _ => d = .bl true) fun _ _ _ => False) (noT H) H S (L2.start N [.ref a]) (dstart N [.scr ns]) _
    ⟨⟨fun σ' S' G' H' σV' q k' f' s' => by cases q⟩, fun d S' G' H' v q k' f' r' => by subst q; cases r'; rfl, ⟨fun _ _ _ _ _ q => q.elim⟩, ⟨fun _ _ _ _ _ q => q.elim⟩, fun C d σ' S' G' H' σV' q k' f' => q.elim⟩ k (sl_start (.cons (.scr (noT_sq hS)) .nil)) ?_⟩
  refine pureX (m := fun ds => match ds with | [d] => m d | _ => .bad) (ps := ["script"]) hN (fun ds hd => ?_) _ S _ _ ⟨rfl, ?_⟩ (fun e he => ?_)
  · match ds, hd with
    | [d], _ => exact hm d
  · show post C _ S _ (m (.scr ns))
    rw [hl ns hns]; exact rfl
  · have : e = (Pt, lamQ) := by simpa using he
    rw [this]; exact hSP
end
end KM

set_option maxRecDepth 100000
set_option maxHeartbeats 4000000
/-! Kp1: plain lemmas further: whiles, slices, rows of numbers, repr. -/
namespace KM
open PySem PySem.Spec PyProof.Rows L2 KD
/-! ### while -/
theorem while_ok {ε α : Type} {c : α → P Bool} {er : Str → Flds → α → B ε α} {f : α → B ε α} (I : α → Prop) (J : α → Prop) (μ : α → Nat) (hc : ∀ a, I a → ∃ g, c a = .ok g () ∧ (g = false → J a) ∧ (g = true → Go (f a) fun b => I b ∧ μ b < μ a)) : ∀ (n : Nat) (a : α), I a → μ a < n → Nx (whileB c er f n a) J
  | 0, a, _, h => absurd h (by omega)
  | n + 1, a, ha, hn => by
    obtain ⟨g, e, h1, h2⟩ := hc a ha
    unfold whileB
    rw [e]
    show Nx (if g = true then stepB (f a) (fun b => whileB c er f n b) else .nx a) J
    cases g with
    | false => rw [if_neg Bool.false_ne_true]; exact h1 rfl
    | true =>
      rw [if_pos rfl]
      have h2 := h2 rfl
      cases q : f a <;> rw [q] at h2 <;> first | exact h2.elim | exact while_ok I J μ hc n _ h2.1 (by have := h2.2; omega)
/-! ### slices -/
theorem cut_take {xs : List D} {k : Nat} : KD.cutD xs none (some (k : Int)) = xs.take k := by
  unfold KD.cutD
  rw [HT.sIx_none, HT.sIx_nat, List.drop_zero, Nat.sub_zero]
  by_cases h : k ≤ xs.length
  · rw [Nat.min_eq_left h]
  · rw [Nat.min_eq_right (by omega), List.take_length, List.take_of_length_le (by omega)]
theorem cut_drop {xs : List D} {k : Nat} : KD.cutD xs (some (k : Int)) none = xs.drop k := by
  unfold KD.cutD
  rw [HT.sIx_none, HT.sIx_nat]
  by_cases h : k ≤ xs.length
  · rw [Nat.min_eq_left h, List.take_of_length_le (by simp)]
  · rw [Nat.min_eq_right (by omega), Nat.sub_self, List.take_zero, List.drop_eq_nil_of_le (by omega)]
theorem cut_mid {xs : List D} {a b : Nat} (h : a ≤ b) : KD.cutD xs (some (a : Int)) (some (b : Int)) = (xs.drop a).take (b - a) := by
  unfold KD.cutD
  rw [HT.sIx_nat, HT.sIx_nat]
  by_cases h1 : b ≤ xs.length
  · rw [Nat.min_eq_left h1, Nat.min_eq_left (by omega)]
  · rw [Nat.min_eq_right (show xs.length ≤ b by omega)]
    by_cases h2 : a ≤ xs.length
    · rw [Nat.min_eq_left h2, List.take_of_length_le (by simp), List.take_of_length_le (by simp; omega)]
    · rw [Nat.min_eq_right (by omega), Nat.sub_self, List.take_zero, List.drop_eq_nil_of_le (show xs.length ≤ a by omega), List.take_nil]
theorem e_slT {xs : List D} {k : Nat} : slD (.tup xs) none (some (k : Int)) = some (.tup (xs.take k)) := congrArg (fun z => some (D.tup z)) cut_take
theorem e_slL {xs : List D} {k : Nat} : slD (.lst xs) none (some (k : Int)) = some (.lst (xs.take k)) := congrArg (fun z => some (D.lst z)) cut_take
theorem e_sdT {xs : List D} {k : Nat} : slD (.tup xs) (some (k : Int)) none = some (.tup (xs.drop k)) := congrArg (fun z => some (D.tup z)) cut_drop
theorem e_sdL {xs : List D} {k : Nat} : slD (.lst xs) (some (k : Int)) none = some (.lst (xs.drop k)) := congrArg (fun z => some (D.lst z)) cut_drop
theorem e_smT {xs : List D} {a b : Nat} (h : a ≤ b) : slD (.tup xs) (some (a : Int)) (some (b : Int)) = some (.tup ((xs.drop a).take (b - a))) := congrArg (fun z => some (D.tup z)) (cut_mid h)
theorem e_smL {xs : List D} {a b : Nat} (h : a ≤ b) : slD (.lst xs) (some (a : Int)) (some (b : Int)) = some (.lst ((xs.drop a).take (b - a))) := congrArg (fun z => some (D.lst z)) (cut_mid h)
theorem e_intOf {i : Int} : intOf (.int i) = some i := rfl
theorem e_mulL1 {x : D} {k : Nat} (h : k ≤ 16777216) : mulD (.lst [x]) (.int (k : Nat)) = some (.lst (List.replicate k x)) := by
  show (if -9223372036854775808 ≤ (k : Int) ∧ (k : Int) < 9223372036854775808 ∧ [x].length * ((k : Nat) : Int).toNat ≤ 16777216 then some (D.lst (List.replicate ((k : Nat) : Int).toNat [x]).flatten) else none) = _
  rw [if_pos ⟨by omega, by omega, by simp; omega⟩, Int.toNat_natCast]
  congr 2
  induction k with
  | zero => rfl
  | succ k ih => rw [List.replicate_succ, List.flatten_cons, ih (by omega), List.replicate_succ]; rfl
/-! ### rows of numbers -/
def oN (l : List Nat) : List D := l.map fun n => .int (n : Nat)
theorem oN_len {l : List Nat} : (oN l).length = l.length := List.length_map _
theorem oN_app {l m : List Nat} : oN (l ++ m) = oN l ++ oN m := List.map_append
theorem oN_take {l : List Nat} {k : Nat} : (oN l).take k = oN (l.take k) := List.map_take.symm
theorem oN_drop {l : List Nat} {k : Nat} : (oN l).drop k = oN (l.drop k) := List.map_drop.symm
theorem oN_cons {n : Nat} {l : List Nat} : oN (n :: l) = .int (n : Nat) :: oN l := rfl
theorem oN_get {l : List Nat} {k : Nat} (h : k < (oN l).length) : (oN l)[k] = .int (l[k]'(by rw [oN_len] at h; exact h) : Nat) := List.getElem_map _
theorem oN_set {l : List Nat} {k n : Nat} : (oN l).set k (.int (n : Nat)) = oN (l.set k n) := List.map_set.symm
theorem oN_rep {k n : Nat} : List.replicate k (.int (n : Nat)) = oN (List.replicate k n) := by unfold oN; rw [List.map_replicate]
theorem oN_of {xs : List D} {p : Nat → Prop} (h : ∀ d ∈ xs, ∃ n : Nat, d = .int (n : Nat) ∧ p n) : ∃ l : List Nat, xs = oN l ∧ ∀ n ∈ l, p n := by
  induction xs with
  | nil => exact ⟨[], rfl, by simp⟩
  | cons d xs ih =>
    obtain ⟨n, rfl, hn⟩ := h d (by simp)
    obtain ⟨l, rfl, hl⟩ := ih fun d hd => h d (by simp [hd])
    exact ⟨n :: l, rfl, by simpa using ⟨hn, hl⟩⟩
theorem oN_pl {n : Nat} {l : List Nat} : plDL n (oN l) = true := by
  induction l with
  | nil => cases n <;> rfl
  | cons a l ih =>
    rw [oN_cons]
    cases n <;> (unfold plDL; rw [ih, Bool.and_true]; rfl)
theorem oN_eqD {l m : List Nat} : eqDL (oN l) (oN m) = decide (l = m) := by
  induction l generalizing m with
  | nil => cases m <;> simp [oN, eqDL]
  | cons a l ih =>
    cases m with
    | nil => simp [oN, eqDL]
    | cons b m =>
      rw [oN_cons, oN_cons, eqDL, ih]
      have : eqD (.int (a : Nat)) (.int (b : Nat)) = decide (a = b) := by
        show decide ((a : Int) = b) = _
        by_cases h : a = b
        · subst h; simp
        · rw [decide_eq_false h]; exact decide_eq_false (by omega)
      rw [this]
      by_cases h : a = b <;> by_cases h2 : l = m <;> simp [h, h2]
theorem e_eqNT {l m : List Nat} : eqC (.tup (oN l)) (.tup (oN m)) = some (decide (l = m)) := by
  show (if plD 64 (.tup (oN l)) = true ∧ plD 64 (.tup (oN m)) = true then some (eqD (.tup (oN l)) (.tup (oN m))) else _) = _
  rw [if_pos ⟨oN_pl (n := 63), oN_pl (n := 63)⟩]
  exact congrArg some oN_eqD
theorem e_neNT {l m : List Nat} : neC (.tup (oN l)) (.tup (oN m)) = some (!decide (l = m)) := by unfold neC; rw [e_eqNT]
theorem e_eqNL {l m : List Nat} : eqC (.lst (oN l)) (.lst (oN m)) = some (decide (l = m)) := by
  cases l with
  | nil => cases m <;> simp [oN] <;> rfl
  | cons a l =>
    cases m with
    | nil => simp [oN]; rfl
    | cons b m =>
      show (if plD 64 (.lst (oN (a :: l))) = true ∧ plD 64 (.lst (oN (b :: m))) = true then some (eqD (.lst (oN (a :: l))) (.lst (oN (b :: m)))) else _) = _
      rw [if_pos ⟨oN_pl (n := 63), oN_pl (n := 63)⟩]
      exact congrArg some oN_eqD
theorem e_neNL {l m : List Nat} : neC (.lst (oN l)) (.lst (oN m)) = some (!decide (l = m)) := by unfold neC; rw [e_eqNL]
/-! ### loops over numbered things -/
theorem loop_pre {ε α : Type} {f : α → D → B ε α} {a : α} : ∀ {xs ys : List D}, (∀ x ∈ xs, f a x = .nx a) → loopB f (xs ++ ys) a = loopB f ys a
  | [], _, _ => rfl
  | x :: xs, ys, h => by
    rw [List.cons_append, show loopB f (x :: (xs ++ ys)) a = stepB (f a x) fun b => loopB f (xs ++ ys) b from rfl, h x (by simp)]
    exact loop_pre (xs := xs) fun y hy => h y (by simp [hy])
theorem loop_stop {ε α : Type} {f : α → D → B ε α} {a : α} {x : D} {xs : List D} {c : Str} {fs : Flds} {s : ε} (h : f a x = .er c fs s) : loopB f (x :: xs) a = .er c fs s := by unfold loopB; rw [h]; rfl
theorem loop_nil {ε α : Type} {f : α → D → B ε α} {a : α} : loopB f [] a = .nx a := rfl
def numD (k : Nat) : List D → List D
  | [] => []
  | x :: xs => .tup [.int (k : Nat), x] :: numD (k + 1) xs
theorem num_range {xs : List D} : ∀ {ys : List D}, numD ys.length xs = (List.range' ys.length xs.length).map fun i => .tup [.int (i : Nat), (ys ++ xs).getD i .non] := by
  induction xs with
  | nil => intro ys; rfl
  | cons x xs ih =>
    intro ys
    have := ih (ys := ys ++ [x])
    rw [List.length_append, List.length_singleton] at this
    rw [numD, this, List.length_cons, List.range'_succ, List.map_cons]
    congr 1
    · simp
    · simp
theorem enum_num {xs : List D} : enumD xs = numD 0 xs := by
  have := num_range (xs := xs) (ys := [])
  rw [show ([] : List D).length = 0 from rfl, List.nil_append] at this
  rw [this, enumD, List.range_eq_range']
theorem num_app {xs ys : List D} : ∀ {k : Nat}, numD k (xs ++ ys) = numD k xs ++ numD (k + xs.length) ys := by
  induction xs with
  | nil => intro k; simp [numD]
  | cons x xs ih => intro k; rw [List.cons_append, numD, ih, numD, List.length_cons, List.cons_append, show k + 1 + xs.length = k + (xs.length + 1) by omega]
/-! ### repr -/
def RepW (n w : Nat) (d : D) : Prop := ∃ p, toPy d = some p ∧ p.leavesShort 62 = true ∧ p.showable = true ∧ p.depth ≤ n ∧ p.weight ≤ w
theorem repW_mono {n w n' w' : Nat} {d : D} (h : RepW n w d) (hn : n ≤ n') (hw : w ≤ w') : RepW n' w' d := let ⟨p, a, b, c, d, e⟩ := h; ⟨p, a, b, c, by omega, by omega⟩
theorem repW_non : RepW 0 0 .non := ⟨.none, rfl, rfl, rfl, by decide, by decide⟩
theorem repW_bl {b : Bool} : RepW 0 0 (.bl b) := ⟨.bool b, rfl, rfl, rfl, by rw [PyData.depth]; omega, by rw [PyData.weight]; omega⟩
theorem repW_int {i : Int} (h : i.natAbs < 10 ^ 60) : RepW 0 200 (.int i) := by
  have e := int_text_length_le10 (k := 60) (by decide) h
  have lg : i.natAbs.log2 < 200 := by
    by_cases z : i.natAbs = 0
    · rw [z]; decide
    · exact (Nat.log2_lt z).mpr (Nat.lt_trans h (by decide))
  refine ⟨.int i, rfl, ?_, ?_, by rw [PyData.depth]; omega, ?_⟩
  · have : (PyData.shown (.int i)).length ≤ 62 := by
      show (Str.ofString (toString i)).length ≤ 62
      rw [PySem.ofString_length]; omega
    simp only [PyData.leavesShort, decide_eq_true_eq]; exact this
  · simp only [PyData.showable, decide_eq_true_eq]; omega
  · rw [PyData.weight]; split <;> omega
theorem repW_str {x : Str} (h : ∀ c ∈ x.cps.toList, c < 16 ^ 8) : RepW 0 x.cps.size (.str x) := ⟨.str x, rfl, by simp only [PyData.leavesShort, List.all_eq_true, decide_eq_true_eq]; exact h, rfl, by rw [PyData.depth]; omega, by rw [PyData.weight]; omega⟩
theorem repW_all {n w : Nat} : ∀ {xs : List D}, (∀ x ∈ xs, RepW n w x) → ∃ ps, toPyL xs = some ps ∧ PyData.leavesShortAll 62 ps = true ∧ PyData.showableAll ps = true ∧ PyData.depthAll ps ≤ n ∧ PyData.weightAll ps ≤ (w + 1) * xs.length
  | [], _ => ⟨[], rfl, rfl, rfl, by rw [PyData.depthAll]; omega, by rw [PyData.weightAll]; omega⟩
  | x :: xs, h => by
    obtain ⟨p, a1, a2, a3, a4, a5⟩ := h x (by simp)
    obtain ⟨ps, b1, b2, b3, b4, b5⟩ := repW_all (xs := xs) fun y hy => h y (by simp [hy])
    refine ⟨p :: ps, by rw [toPyL, a1, b1], by rw [PyData.leavesShortAll, a2, b2]; rfl, by rw [PyData.showableAll, a3, b3]; rfl, by rw [PyData.depthAll]; omega, ?_⟩
    rw [PyData.weightAll, List.length_cons, Nat.mul_add]; omega
theorem repW_tup {n w : Nat} {xs : List D} (h : ∀ x ∈ xs, RepW n w x) : RepW (n + 1) ((w + 1) * xs.length) (.tup xs) := by
  obtain ⟨ps, b1, b2, b3, b4, b5⟩ := repW_all h
  exact ⟨.tuple ps, by rw [toPy, b1]; rfl, by rw [PyData.leavesShort]; exact b2, by rw [PyData.showable]; exact b3, by rw [PyData.depth]; omega, by rw [PyData.weight]; exact b5⟩
theorem repW_lst {n w : Nat} {xs : List D} (h : ∀ x ∈ xs, RepW n w x) : RepW (n + 1) ((w + 1) * xs.length) (.lst xs) := by
  obtain ⟨ps, b1, b2, b3, b4, b5⟩ := repW_all h
  exact ⟨.list ps, by rw [toPy, b1]; rfl, by rw [PyData.leavesShort]; exact b2, by rw [PyData.showable]; exact b3, by rw [PyData.depth]; omega, by rw [PyData.weight]; exact b5⟩
theorem repr_ex {d : D} (h : RepW 64 200000 d) (hs : isSeqD d = true) : ∃ s, reprD d = some (.str s) := by
  obtain ⟨p, h1, h2, h3, h4, h5⟩ := h
  have := PyData.shown_le 62 (by decide) p h2
  refine ⟨p.shown, ?_⟩
  unfold reprD
  rw [hs]
  dsimp only
  rw [h1]
  dsimp only
  rw [if_pos ⟨h3, h4, by omega⟩]
theorem repr_pair {w : Str} {d : D} {n k : Nat} (hw : ∀ c ∈ w.cps.toList, c < 16 ^ 8) (hd : RepW n k d) (hn : n ≤ 63) (hk : (max w.cps.size k + 1) * 2 ≤ 200000) : ∃ s, reprD (.tup [.str w, d]) = some (.str s) :=
  repr_ex (repW_mono (repW_tup (n := n) (w := max w.cps.size k) (xs := [.str w, d]) fun x hx => by
    simp only [List.mem_cons, List.not_mem_nil, or_false] at hx
    rcases hx with rfl | rfl
    · exact repW_mono (repW_str hw) (by omega) (by omega)
    · exact repW_mono hd (by omega) (by omega)) (by omega) (by simpa using hk)) rfl
theorem eqS_self {s : Str} : eqC (.str s) (.str s) = some true := by rw [e_eqS]; simp
theorem neS_self {s : Str} : neC (.str s) (.str s) = some false := by rw [e_neS]; simp
end KM

set_option maxRecDepth 100000
set_option maxHeartbeats 4000000
/-! Kn7: defs as values; a call of a slot that holds one. -/
namespace KD
open PySem PySem.Spec PyProof.Rows L2
/-- where a def's name stands in the written part, the module has it -/
def NsOk (K : PySem.W.Frag) (mg : Str → Option Value) : Prop := ∀ (n : Str) (a : Addr), PySem.W.nsIn K mainGlobals n = some (some (.ref a)) → mg n = some (.ref a)
def FnC (K : PySem.W.Frag) (n : Str) : Prop := ∃ a : Addr, PySem.W.nsIn K mainGlobals n = some (some (.ref a))
section
variable {X : Cx} {W : WX} {e : Expr} {es : List Expr} {x : Str} {p pos : Pos} {i : Nat}
theorem de_fnv (ns : NsOk X.K X.mg) (f : FnC X.K x) (hg : Gl X x) (hd : (x == ("__debug__" : Str)) = false := by decide) : DE X W (.Name x pos) (dC (.fn x)) := let ⟨a, h⟩ := f; ⟨_, pe_glob (v := .ref a) hg (ns x a h) rfl hd, ev_c fun _ => .fn h⟩
/-- what may be called -/
def CalO (X : Cx) (f : Addr) (sp : Sp) : Prop := ∃ (k : Nat) (fd : FuncData) (ps : List Str), FnOk X.prog X.w X.K X.mg X.base (L2.CX X.prog X.w) k f fd ps sp ∧ Room k X.A ∧ PySem.W.keepIn X.K (.ref f) = true ∧ Binds X.K fd ps []
theorem pe_slotcall {t : TA} (tk : Takes X W) (hN : X.N[i]? = some x) (hv : Vis X.env.scope x) (ha : PA X (e :: es) t) (hdb : (x == ("__debug__" : Str)) = false) (hcd : (x == ("__classdict__" : Str)) = false) (he : starEach (e :: es) X.env = (false, eval e X.env) :: starEach es X.env) (hpl : (backTo pos (starEach es X.env)).any (·.1) = false) :
    PE X (.Call (.Name x p) (e :: es) [] pos) (fun σ H Q => ∃ f sp, σ[i]? = some (some (.ref f)) ∧ CalO X f sp ∧ t σ H fun vs H1 => sp vs H1 Q (WE W σ)) := ⟨fun pins s σ H Q I ⟨f, sp, h1, ⟨k, fd, ps, F, hr, hk, hb⟩, h2⟩ => by
  have name := (pe_var (pos := p) hN hv hdb hcd).run pins s σ H (fun v H' => v = .ref f ∧ H' = H) I ⟨.ref f, h1, rfl, rfl⟩
  refine wpAny_Call_Name_kw (thn name fun u s1 ⟨v, H', J, rv, e1, e2⟩ => ?_)
  subst e1; subst e2
  obtain rfl : u = Value.ref f := rv
  refine PySem.W.callWith_K (h₀ := X.base) J.ok.mod.kin hk (thn (ha.run pos pins s1 σ _ _ J h2) fun us s2 ⟨vs, H2, J2, r, q⟩ => ⟨J2.kIn, run_fnS (E := fun σ => WE W σ) F hr hb (passAt tk σ) J2 r q⟩) he hpl⟩
def dCallW (i : Nat) (tab : List (Str × DSp)) (r : DTA) : DTE := fun E σ S Q => ∃ n sp, σ[i]? = some (some (.fn n)) ∧ tab.lookup n = some sp ∧ r E σ S fun ds S1 => sp ds S1 Q E
theorem de_callW {tab : List (Str × DSp)} {r : DTA} (tk : Takes X W) (ns : NsOk X.K X.mg) (hT : ∀ n sp, tab.lookup n = some sp → ∃ k ps, Room k X.A ∧ Has X.prog X.w X.K X.mg X.base k n ps sp) (hN : X.N[i]? = some x) (hv : Vis X.env.scope x) (ha : DA X W (e :: es) r)
    (hdb : (x == ("__debug__" : Str)) = false := by decide) (hcd : (x == ("__classdict__" : Str)) = false := by decide) (he : starEach (e :: es) X.env = (false, eval e X.env) :: starEach es X.env := by rfl) (hpl : (backTo pos (starEach es X.env)).any (·.1) = false := by rfl) :
    DE X W (.Call (.Name x p) (e :: es) [] pos) (dCallW i tab r) := by
  obtain ⟨t, pa, ea⟩ := ha
  refine ⟨_, pe_slotcall tk hN hv pa hdb hcd he hpl, ⟨fun E G H S σV σ Q P w k s ⟨n, sp, h1, h2, h3⟩ p => ?_⟩⟩
  obtain ⟨v, hs, rv⟩ := s.at_ i _ h1
  cases rv with
  | @fn a _ ha =>
    obtain ⟨kk, ps, hr, F⟩ := hT n sp h2
    obtain ⟨f, fd, hm, hk, hb, F⟩ := F.ex
    have := ns n a ha
    rw [hm] at this
    cases this
    refine ⟨_, lift X.K sp, hs, ⟨kk, fd, ps, F, hr, hk, hb⟩, ?_⟩
    refine ea.run E G H S σV σ _ _ w k s h3 fun ds S1 G1 H1 vs hd k1 f1 r1 => ?_
    exact ⟨G1, S1, ds, Q, E, k1, r1, hd, fun d S2 G2 H2 z h2 k2 f2 r2 => p d S2 G2 H2 z h2 k2 (f1.trans f2) r2, fun C d S2 G2 H2 h2 k2 f2 => w.go C d S2 G2 H2 h2 k2 (f1.trans f2)⟩
end
end KD
namespace KM
open PySem PySem.Spec PyProof.Rows L2 KD
abbrev FTab := List (Str × (List D → P D))
def selV (tab : FTab) (f : D) : Option (List D → P D) := match f with
  | .fn n => tab.lookup n
  | _ => none
def mCallV (i : Nat) (tab : FTab) (l : MPA) : Env → P D := fun μ => bind (opt (lookE μ i)) fun f => bind (opt (selV tab f)) fun m => l D μ fun ds => m ds
def mCallVC (i : Nat) (tab : FTab) (l : MA) : MC := fun β μ k ex b => gotO (lookE μ i) (fun f => gotO (selV tab f) (fun m => l β μ (fun as μ1 => gotO (valsO as) (fun ds => got (m ds) (fun d _ => k d μ1) (fun c fs _ => ex c fs μ1) b) b) ex b) b) b
theorem sel_ok {tab : FTab} {f : D} {m : List D → P D} (h : selV tab f = some m) : ∃ n, f = .fn n ∧ tab.lookup n = some m := by
  unfold selV at h
  split at h
  · exact ⟨_, rfl, h⟩
  · cases h
section
variable {C : Str → Addr} {ax : Ax} {X : Cx} {W : WX} {e : Expr} {es : List Expr} {x : Str} {p pos : Pos} {i : Nat} {tab : FTab}
def spTab (C : Str → Addr) (n : Nat) (tab : FTab) : List (Str × DSp) := tab.map fun q => (q.1, spP C n q.2)
theorem spTab_get {n : Nat} {x : Str} {m : List D → P D} : ∀ {tab : FTab}, tab.lookup x = some m → (spTab C n tab).lookup x = some (spP C n m)
  | [], h => by cases h
  | (y, m') :: r, h => by
    rw [List.lookup_cons] at h
    show ((y, spP C n m') :: spTab C n r).lookup x = _
    rw [List.lookup_cons]
    split at h
    · cases h; rfl
    · exact spTab_get h
theorem spTab_of {n : Nat} {x : Str} {sp : DSp} : ∀ {tab : FTab}, (spTab C n tab).lookup x = some sp → ∃ m, tab.lookup x = some m ∧ sp = spP C n m
  | [], h => by cases h
  | (y, m') :: r, h => by
    have h : ((y, spP C n m') :: spTab C n r).lookup x = _ := h
    rw [List.lookup_cons] at h ⊢
    split at h
    · cases h; exact ⟨m', rfl, rfl⟩
    · exact spTab_of h
theorem look_at {fx : Fx} {μ : Env} {σ : DSt} {S : Sto} {f : D} (r : Rel ax fx μ σ S) (e : lookE μ i = some f) : σ[i]? = some (some f) := by
  obtain ⟨A, r⟩ := r
  unfold lookE at e
  split at e
  · rename_i s hs; exact slot_look (r.slot i s hs) e
  · cases e
def TabOk (C : Str → Addr) (X : Cx) (n : Nat) (tab : FTab) : Prop := ∀ x m, tab.lookup x = some m → ∃ k ps, Room k X.A ∧ Has X.prog X.w X.K X.mg X.base k x ps (spP C n m)
theorem tabOk_nil {n : Nat} : TabOk C X n [] := fun _ _ h => by cases h
theorem tabOk_cons {n k : Nat} {y : Str} {ps : List Str} {m : List D → P D} (hr : Room k X.A) (F : Has X.prog X.w X.K X.mg X.base k y ps (spP C n m)) (h : TabOk C X n tab) : TabOk C X n ((y, m) :: tab) := fun x m' e => by
  rw [List.lookup_cons] at e
  split at e
  · rename_i c
    cases e
    obtain rfl := beq_iff_eq.mp c
    exact ⟨k, ps, hr, F⟩
  · exact h x m' e
def ArTab (n : Nat) (tab : FTab) : Prop := ∀ x m, tab.lookup x = some m → Ar n m
theorem arTab_nil {n : Nat} : ArTab n [] := fun _ _ h => by cases h
theorem arTab_cons {n : Nat} {y : Str} {m : List D → P D} (a : Ar n m) (h : ArTab n tab) : ArTab n ((y, m) :: tab) := fun x m' e => by
  rw [List.lookup_cons] at e
  split at e
  · cases e; exact a
  · exact h x m' e
theorem xe_callV {n : Nat} {ml : MPA} (hl : LenIs ml n) (tk : Takes X W) (ns : NsOk X.K X.mg) (hT : TabOk C X n tab) (hN : X.N[i]? = some x) (hv : Vis X.env.scope x) (ha : XA C ax X W (e :: es) ml)
    (hdb : (x == ("__debug__" : Str)) = false := by decide) (hcd : (x == ("__classdict__" : Str)) = false := by decide) (he : starEach (e :: es) X.env = (false, eval e X.env) :: starEach es X.env := by rfl) (hpl : (backTo pos (starEach es X.env)).any (·.1) = false := by rfl) :
    XE C ax X W (.Call (.Name x p) (e :: es) [] pos) (mCallV i tab ml) := deI (de_callW (tab := spTab C n tab) tk ns (fun y sp h => by
      obtain ⟨m, h1, rfl⟩ := spTab_of h
      exact hT y m h1) hN hv ha hdb hcd he hpl) fun E σ S Q ⟨fx, μ, r, p⟩ => by
  unfold mCallV at p
  rw [post_bind] at p
  obtain ⟨f, e1, p⟩ := post_opt p
  rw [post_bind] at p
  obtain ⟨m, e2, p3⟩ := post_opt p
  obtain ⟨y, rfl, hm⟩ := sel_ok e2
  refine ⟨y, spP C n m, look_at r e1, spTab_get hm, fx, μ, D, _, fun d => Q d S, r, fun ds q => len_cut q, post_len hl p3⟩
theorem xc_callV {n : Nat} {ml : MA} (tk : Takes X W) (ns : NsOk X.K X.mg) (hT : TabOk C X n tab) (hA : ∀ x m, tab.lookup x = some m → Ar n m) (hN : X.N[i]? = some x) (hv : Vis X.env.scope x) (ha : XAC C ax X W (e :: es) ml)
    (hdb : (x == ("__debug__" : Str)) = false := by decide) (hcd : (x == ("__classdict__" : Str)) = false := by decide) (he : starEach (e :: es) X.env = (false, eval e X.env) :: starEach es X.env := by rfl) (hpl : (backTo pos (starEach es X.env)).any (·.1) = false := by rfl) :
    XC C ax X W (.Call (.Name x p) (e :: es) [] pos) (mCallVC i tab ml) := deI (de_callW (tab := spTab C n tab) tk ns (fun y sp h => by
      obtain ⟨m, h1, rfl⟩ := spTab_of h
      exact hT y m h1) hN hv ha hdb hcd he hpl) fun E σ S Q ⟨fx, μ, β, k, ex, bd, Φ, r, z, h⟩ => by
  obtain ⟨f, e1, h⟩ := gotO_ok h z.bad
  obtain ⟨m, e2, h3⟩ := gotO_ok h z.bad
  obtain ⟨y, rfl, hm⟩ := sel_ok e2
  refine ⟨y, spP C n m, look_at r e1, spTab_get hm, fx, μ, β, _, ex, bd, Φ, r, z.to fun as μ1 S1 r1 h1 ds hds => ?_, h3⟩
  obtain ⟨ds', e3, h1⟩ := gotO_ok h1 z.bad
  have := vals_ok e3 hds
  subst this
  refine ⟨Classical.byContradiction fun c => ?_, ?_⟩
  · rw [hA y m hm ds c] at h1; exact absurd h1 z.bad
  · cases g : m ds with
    | bad => rw [g] at h1; exact absurd h1 z.bad
    | ok d s => rw [g] at h1; exact z.k d μ1 S1 r1 h1
    | er c fs s => rw [g] at h1; exact z.ex c fs μ1 S1 r1 h1
end
end KM

set_option maxRecDepth 100000
set_option maxHeartbeats 4000000
/-! Kp2: plain lemmas further: texts by their signs. -/
namespace KM
open PySem PySem.Spec PyProof.Rows L2 KD
def tx (cs : List Nat) : Str := ⟨cs.toArray⟩
def sg (cs : List Nat) : List D := cs.map fun c => .str (tx [c])
theorem tx_len (cs : List Nat) : (tx cs).length = cs.length := by simp [tx, Str.length]
theorem tx_eq (z : Str) : z = tx z.cps.toList := by cases z; simp [tx]
theorem tx_app (a b : List Nat) : tx a ++ tx b = tx (a ++ b) := by
  show Str.append (tx a) (tx b) = _
  simp [Str.append, tx]
theorem tx_inj {a b : List Nat} (h : tx a = tx b) : a = b := by simpa [tx] using h
theorem sg_len {cs : List Nat} : (sg cs).length = cs.length := List.length_map _
theorem sg_get {l : List Nat} {k : Nat} (h : k < (sg l).length) : (sg l)[k] = .str (tx [l[k]'(by rw [sg_len] at h; exact h)]) := List.getElem_map _
theorem tx_signs (cs : List Nat) : KD.signs (tx cs) = sg cs := by simp [KD.signs, tx, sg]
theorem tx_joinE : ∀ cs : List Nat, Str.join (tx []) (cs.map fun c => tx [c]) = tx cs
  | [] => rfl
  | [c] => rfl
  | c :: d :: r => by
    show tx [c] ++ tx [] ++ Str.join (tx []) ((d :: r).map fun c => tx [c]) = _
    rw [tx_joinE (d :: r), tx_app, tx_app]
    rfl
theorem tx_join (cs : List Nat) : Txt.join (tx []) (cs.map fun c => tx [c]) = tx cs := by
  show Builtin.Str.glued _ _ = _
  rw [StrLaws.glued_eq_join]
  exact tx_joinE cs
theorem strsOf_tx : ∀ cs : List Nat, strsOf (sg cs) = some (cs.map fun c => tx [c])
  | [] => rfl
  | c :: r => by
    show (strsOf (sg r)).map (tx [c] :: ·) = _
    rw [strsOf_tx r]; rfl
theorem sum_tx (cs : List Nat) : ((cs.map fun c => tx [c]).map (·.length)).sum = cs.length := by
  induction cs with
  | nil => rfl
  | cons c r ih =>
    simp only [List.map_cons, List.sum_cons, ih, List.length_cons, tx_len]
    simp; omega
theorem e_iterX {cs : List Nat} : iterD (.str (tx cs)) = some (sg cs) := congrArg some (tx_signs cs)
theorem e_lenX {cs : List Nat} (h : cs.length ≤ 16777216) : lenD (.str (tx cs)) = some (.int (cs.length : Nat)) := by
  show szO _ _ = _
  unfold szO
  rw [tx_len, if_pos h]
theorem chk_s {xs : List D} (h : xs.length ≤ 16777216) : chkR (.ok xs ()) = .ok xs () := by
  show KM.guard (sizeB xs.length) _ _ = _
  rw [e_size h]; rfl
theorem e_addX {a b : List Nat} (h : a.length + b.length ≤ 16777216) : addD (.str (tx a)) (.str (tx b)) = some (.str (tx (a ++ b))) := by
  show szO _ _ = _
  unfold szO
  rw [tx_len, tx_len, if_pos h, tx_app]
theorem e_ordX {c : Nat} : ordD (.str (tx [c])) = some (.int (c : Nat)) := rfl
theorem e_eqX {a b : List Nat} : eqC (.str (tx a)) (.str (tx b)) = some (decide (a = b)) := by
  rw [e_eqS]
  congr 1
  by_cases c : a = b
  · subst c; simp
  · rw [decide_eq_false c]
    simp only [beq_eq_false_iff_ne]
    exact fun h => c (tx_inj h)
theorem e_ixX {cs : List Nat} {k : Nat} (h : k < cs.length) (h2 : cs.length ≤ 16777216) : ixD (.str (tx cs)) (.int (k : Nat)) = some (.str (tx [cs[k]])) := by
  show (if (tx cs).length ≤ 16777216 then match atI (tx cs).cps.toList (k : Nat) with
      | some c => some (D.str ⟨#[c]⟩)
      | none => none else none) = _
  rw [tx_len, if_pos h2]
  have e : (tx cs).cps.toList = cs := rfl
  rw [e, at_n rfl h]; rfl
theorem e_joinX {cs : List Nat} (h : cs.length ≤ 16777216) : joinD (.str (tx [])) (.lst (sg cs)) = some (.str (tx cs)) := by
  show (match strsOf (sg cs) with
      | some zs => if (zs.map (fun z : Str => z.length)).sum + zs.length * (tx []).length ≤ 16777216 then some (D.str (Txt.join (tx []) zs)) else none
      | none => none) = _
  rw [strsOf_tx]
  show (if _ then _ else _) = _
  rw [sum_tx, tx_len, List.length_nil, Nat.mul_zero, Nat.add_zero, if_pos h, tx_join]
theorem map_ord : ∀ {cs : List Nat}, mapR (fun x => noer (opt (ordD x))) (sg cs) = .ok (oN cs) ()
  | [] => rfl
  | c :: cs => by
    show mapR _ (.str (tx [c]) :: sg cs) = _
    simp only [mapR, e_ordX, opt_s, noer_o, bind_o, map_ord (cs := cs)]
    rfl
theorem map_sg {f : D → P D} : ∀ {cs : List Nat}, (∀ c ∈ cs, f (.int (c : Nat)) = .ok (.str (tx [c])) ()) → mapR (fun x => noer (f x)) (oN cs) = .ok (sg cs) ()
  | [], _ => rfl
  | c :: cs, h => by
    show mapR _ (.int (c : Nat) :: oN cs) = _
    simp only [mapR, h c (by simp), noer_o, bind_o, map_sg (cs := cs) fun c hc => h c (by simp [hc])]
    rfl
theorem map_sgB {f : Str → Bool} {g : D → P Bool} (hg : ∀ c : Nat, g (.str (tx [c])) = .ok (f (tx [c])) ()) : ∀ {cs : List Nat}, mapR (fun x => noer (bind (g x) fun b => .ok (.bl b) ())) (sg cs) = .ok (cs.map fun c => .bl (f (tx [c]))) ()
  | [] => rfl
  | c :: cs => by
    show mapR _ (.str (tx [c]) :: sg cs) = _
    simp only [mapR, hg c, noer_o, bind_o, map_sgB hg (cs := cs)]
    rfl
theorem bls_map {α : Type} (f : α → Bool) : ∀ xs : List α, blsOf (xs.map fun x => .bl (f x)) = some (xs.map f)
  | [] => rfl
  | x :: xs => by
    show (blsOf (xs.map fun x => .bl (f x))).map (f x :: ·) = _
    rw [bls_map f xs]; rfl
theorem e_allX {α : Type} {f : α → Bool} {xs : List α} : allD (.lst (xs.map fun x => .bl (f x))) = some (xs.all f) := by
  show (match blsOf (xs.map fun x => D.bl (f x)) with
    | some ns => some (ns.all id)
    | none => none) = _
  rw [bls_map]
  show some _ = _
  rw [List.all_map]; rfl
theorem e_in0 {cs : List Nat} : inC (.str (tx [])) (.lst (sg cs)) = some false := by
  have h1 : ∀ cs : List Nat, (sg cs).all flatD = true := fun cs => by
    unfold sg; rw [List.all_map]; simp [flatD]
  have h2 : ∀ cs : List Nat, inF (.str (tx [])) (sg cs) = false := fun cs => by
    induction cs with
    | nil => rfl
    | cons c cs ih =>
      show inF _ (.str (tx [c]) :: sg cs) = _
      have e : ∀ (x y : D) (l : List D), inF x (y :: l) = (eqF y x || inF x l) := fun x y l => rfl
      rw [e, ih]
      rfl
  show (if _ then _ else _) = _
  rw [if_pos ⟨rfl, h1 cs⟩, h2]
end KM

set_option maxRecDepth 100000
set_option maxHeartbeats 4000000
/-! Kn8: defs that give back a list of their own, which the caller may change. -/
namespace KM
open PySem PySem.Spec PyProof.Rows L2 KD
def axF : Ax := ⟨0, 0, "", [], true⟩
def lstO {β : Type} (d : D) (k : List D → β) (b : β) : β := match d with
  | .lst xs => k xs
  | _ => b
theorem lstO_ok {β : Type} {d : D} {k : List D → β} {b : β} {Φ : β → Prop} (h : Φ (lstO d k b)) (hb : ¬ Φ b) : ∃ xs, d = .lst xs ∧ Φ (k xs) := by
  unfold lstO at h
  split at h
  · exact ⟨_, rfl, h⟩
  · exact absurd h hb
theorem lstO_l {β : Type} {xs : List D} {k : List D → β} {b : β} : lstO (.lst xs) k b = k xs := rfl
/-! ### what is given back -/
def mRtF (l : ML) : MS := fun β z μ => l β μ (fun xs μ1 => z.rt (.lst xs) μ1) z.ex z.bad
def ownL {β : Type} (μ : Env) (i : Nat) (k : List D → β) (b : β) : β := match μ[i]? with
  | some s => match s.core with
    | .l false xs => k xs
    | _ => b
  | none => b
def mRtL (i : Nat) : MS := fun β z μ => ownL μ i (fun xs => z.rt (.lst xs) μ) z.bad
/-- the promise -/
def freshK (Q : DK) (S : Sto) (d : D) : Prop := ∃ xs, d = .lst xs ∧ ∀ p, S p = none → Q (.ref p) (put S p (.lst xs))
def spF (C : Str → Addr) (n : Nat) (m : List D → P D) : DSp := fun ds S Q E => ds.length = n ∧ post C E S (freshK Q S) (m ds)
def spIF (C : Str → Addr) (ps : List Pk) (m : List D → Ct ps → R (Ct ps) D) : DSp := fun ds S Q E => ds.length = ps.length ∧ ∃ (S0 : Sto) (io : Nat → Option Addr) (vs : List D) (c : Ct ps) (A : Nat → Addr), Rl ax0 ⟨ps.length, fun _ => none, S0, io⟩ (argE ps vs c) (ds.map some) S A ∧
  match m vs c with
  | .ok d c' => ∃ xs, d = .lst xs ∧ ∀ S', Rel ax0 ⟨ps.length, fun _ => none, S0, io⟩ (argU ps c') (ds.map some) S' → ∀ p, S' p = none → Q (.ref p) (put S' p (.lst xs))
  | .er x fs c' => ∀ S', Rel ax0 ⟨ps.length, fun _ => none, S0, io⟩ (argU ps c') (ds.map some) S' → ∀ p, S' p = none → E (C x) p (put S' p (.xd fs))
  | .bad => False
def mFnF (f : List D → P D) (l : MA) : ML := fun β μ k ex b => l β μ (fun as μ1 => gotO (valsO as) (fun ds => got (f ds) (fun d _ => lstO d (fun xs => k xs μ1) b) (fun c fs _ => ex c fs μ1) b) b) ex b
def mCallIF (ps : List Pk) (m : List D → Ct ps → R (Ct ps) D) (l : MA) : ML := fun β μ k ex b => mCallI ps m l β μ (fun d μ1 => lstO d (fun xs => k xs μ1) b) ex b
section
variable {C : Str → Addr} {ax : Ax} {X : Cx} {W : WX} {e : Expr} {pos : Pos} {es : List Expr} {l : ML} {la : MA}
theorem xs_retF (h : XCF C ax X W e l) (hf : ax.fm = true := by rfl) : XS C ax X W (.Return (some e) pos) (mRtF l) := dsI (ds_ret h) fun Z σ S ⟨fx, μ, β, z, Φ, r, o, h⟩ =>
  ⟨fx, μ, β, _, z.ex, z.bad, Φ, r, o.kok fun xs μ1 S1 r1 h1 p hp => o.rt (.lst xs) (.ref p) μ1 σ _ (r1.junk hp) (.inr ⟨hf, p, xs, rfl, rfl, put_same, r1.elim fun A a => a.S0n hp, fun i e => by
    obtain ⟨A, a⟩ := r1
    obtain ⟨e1, s, e2, e3⟩ := a.io i p e
    have : ∃ m, s.dm = some m := by
      clear e2
      induction s with
      | l q xs => exact ⟨_, rfl⟩
      | k q xs => exact ⟨_, rfl⟩
      | p t ih => exact ih e3
      | _ => cases e3
    obtain ⟨m, hm⟩ := this
    exact a.far hp e2 hm e1⟩) h1, h⟩
theorem xs_retL {i : Nat} (h : DE X W e (dVar i)) (hf : ax.fm = true := by rfl) : XS C ax X W (.Return (some e) pos) (mRtL i) := dsI (ds_ret h) fun Z σ S ⟨fx, μ, β, z, Φ, r, o, h⟩ => by
  unfold mRtL ownL at h
  split at h
  · rename_i s hs
    split at h
    · rename_i xs hc
      have r0 := r
      obtain ⟨A, a⟩ := r
      have q := a.slot i s hs
      rw [core_ok, hc] at q
      have dm : s.dm = some (.lst xs) := by rw [core_dm, hc]; rfl
      have own : s.own = false := by rw [core_own, hc]; rfl
      show dVar i (exOf Z σ) σ S _
      unfold dVar
      rw [q.1]
      refine o.rt (.lst xs) (.ref (A i)) μ σ S r0 (.inr ⟨hf, A i, xs, rfl, rfl, q.2, a.new i s _ hs dm, fun j e => ?_⟩) h
      obtain ⟨e1, t, e2, e3⟩ := a.io j _ e
      have : ∃ m, t.dm = some m := by
        clear e2
        induction t with
        | l q xs => exact ⟨_, rfl⟩
        | k q xs => exact ⟨_, rfl⟩
        | p t ih => exact ih e3
        | _ => cases e3
      obtain ⟨m, hm⟩ := this
      have := a.inj j i t s m _ e2 hs hm dm e1
      subst this
      rw [hs] at e2; cases e2; rw [own] at e3; cases e3
    · exact absurd h o.bad
  · exact absurd h o.bad
theorem xcf_has {k n : Nat} {ps : List Str} {m : List D → P D} {x : Str} {p : Pos} (hA : Ar n m) (tk : Takes X W) (F : Has X.prog X.w X.K X.mg X.base k x ps (spF C n m)) (hr : Room k X.A) (hg : Gl X x) (ha : XAC C ax X W (e :: es) la) (hd : (x == ("__debug__" : Str)) = false := by decide)
    (hs : starEach (e :: es) X.env = (false, eval e X.env) :: starEach es X.env := by rfl) (hpl : (backTo pos (starEach es X.env)).any (·.1) = false := by rfl) :
    XCF C ax X W (.Call (.Name x p) (e :: es) [] pos) (mFnF m la) := deI (de_has tk F hr hg ha hd hs hpl) fun E σ S Q ⟨fx, μ, β, k, ex, bd, Φ, r, z, h⟩ =>
  ⟨fx, μ, β, _, ex, bd, Φ, r, z.to fun as μ1 S1 r1 h1 ds hds => by
    obtain ⟨ds', e1, h1⟩ := gotO_ok h1 z.bad
    have := vals_ok e1 hds
    subst this
    refine ⟨Classical.byContradiction fun c => ?_, ?_⟩
    · rw [hA ds c] at h1; exact absurd h1 z.bad
    · cases g : m ds with
      | bad => rw [g] at h1; exact absurd h1 z.bad
      | ok d s =>
        rw [g] at h1
        obtain ⟨xs, rfl, h1⟩ := lstO_ok (Φ := Φ) h1 z.bad
        exact ⟨xs, rfl, z.k xs μ1 S1 r1 h1⟩
      | er c fs s => rw [g] at h1; exact z.ex c fs μ1 S1 r1 h1, h⟩
theorem xcf_hasI {k : Nat} {ps : List Pk} {ns : List Str} {m : List D → Ct ps → R (Ct ps) D} {x : Str} {p : Pos} (tk : Takes X W) (F : Has X.prog X.w X.K X.mg X.base k x ns (spIF C ps m)) (hr : Room k X.A) (hg : Gl X x) (ha : XAC C ax X W (e :: es) la) (hd : (x == ("__debug__" : Str)) = false := by decide)
    (hs : starEach (e :: es) X.env = (false, eval e X.env) :: starEach es X.env := by rfl) (hpl : (backTo pos (starEach es X.env)).any (·.1) = false := by rfl) :
    XCF C ax X W (.Call (.Name x p) (e :: es) [] pos) (mCallIF ps m la) := deI (de_has tk F hr hg ha hd hs hpl) fun E σ S Q ⟨fx, μ, β, k, ex, bd, Φ, r, z, h⟩ =>
  ⟨fx, μ, β, _, ex, bd, Φ, r, z.to fun as μ1 S1 r1 h1 ds hds => by
    obtain ⟨hn, h1⟩ := guard_ok h1 z.bad
    have nd := nodup_ok hn
    obtain ⟨vs, c, h1, hl, hp, hv, hr⟩ := takeA_ok (Φ := Φ) h1 z.bad
    obtain ⟨S0, io, Aa, ra, back⟩ := r1.call hds nd hl hv hr
    have en : ds.length = ps.length := by rw [← (act_get hds).1, hp]
    rw [en] at ra back
    refine ⟨en, S0, io, vs, c, Aa, ra, ?_⟩
    cases g : m vs c with
    | bad => rw [g] at h1; exact absurd h1 z.bad
    | ok d c' =>
      rw [g] at h1
      obtain ⟨μ2, h2, q1, q2, q3⟩ := giveA_ok (Φ := Φ) h1 z.bad nd
      obtain ⟨xs, rfl, h2⟩ := lstO_ok (Φ := Φ) h2 z.bad
      exact ⟨xs, rfl, fun S' rb => z.k xs μ2 S' (back _ S' rb μ2 q1 q2 q3) h2⟩
    | er y fs c' =>
      rw [g] at h1
      intro S' rb
      obtain ⟨μ2, h2, q1, q2, q3⟩ := giveA_ok (Φ := Φ) h1 z.bad nd
      exact z.ex y fs μ2 S' (back _ S' rb μ2 q1 q2 q3) h2, h⟩
end
section
variable {P : Program} {w : World} {K : PySem.W.Frag} {mg : Str → Option Value} {base : Heap} {C : Str → Addr}
theorem pureF {N ps : List Str} {m : List D → KM.P D} {s : MS} (hN : ps.length ≤ N.length) (hm : ∀ ds, ds.length = ps.length → m ds = s _ zTop (ds.map .v ++ List.replicate (N.length - ds.length) .un)) (ds : List D) (S : Sto) (Q : DK) (E : DEr) (h : spF C ps.length m ds S Q E) : rdS C axF s (dropZ (dends Q E)) (dstart N ds) S := by
  obtain ⟨hl, hp⟩ := h
  rw [hm ds hl] at hp
  refine ⟨⟨N.length, fun _ => none, S, fun _ => none⟩, _, _, zTop, fun y => post C E S (freshK Q S) y, ⟨fun _ => 0, ?_⟩, ⟨id, ?_, ?_, ?_, ?_, ?_⟩, hp⟩
  · refine ⟨by simp; omega, by simp [dstart]; omega, fun i t e => ?_, fun i j t u a b e f g q _ => ?_, fun i t a e g => ?_, fun b a e => e, (fun i t e => by cases e), (fun i t e => by cases e), fun i t e o => ?_, fun _ m => by cases m⟩
    · rcases start_get e with rfl | ⟨d, rfl, h⟩
      · trivial
      · exact h
    · rcases start_get e with rfl | ⟨d, rfl, h⟩ <;> cases g
    · rcases start_get e with rfl | ⟨d, rfl, h⟩ <;> cases g
    · rcases start_get e with rfl | ⟨d, rfl, h⟩ <;> cases o
  · exact fun μ σ S' _ ⟨xs, h, _⟩ => by cases h
  · rintro d d0 μ σ S' ⟨_, r⟩ hr h
    rcases hr with ⟨hf, _⟩ | ⟨_, p, xs, rfl, rfl, e3, e4, _⟩
    · cases hf
    · obtain ⟨ys, h1, h2⟩ := h
      cases h1
      refine ⟨put S p (.lst xs), fun b a e => ?_, h2 p e4⟩
      by_cases z : b = p
      · subst z; rw [put_same] at e; rw [e3]; exact e
      · rw [put_ne z] at e; exact r.ext b a e
  · exact fun μ σ S' _ h => h.elim
  · exact fun μ σ S' _ h => h.elim
  · intro c fs μ σ S' ⟨_, r⟩ h p hp
    have h0 : S p = none := by
      cases q : S p with
      | none => rfl
      | some a => have := r.ext p a q; rw [hp] at this; cases this
    refine ⟨put S p (.xd fs), fun b a e => ?_, h p h0⟩
    by_cases z : b = p
    · subst z; rw [put_same] at e ⊢; exact e
    · rw [put_ne z] at e ⊢; exact r.ext b a e
theorem okF {x : Str} {st : Stmt} {N ps : List Str} {k : Nat} {m : List D → KM.P D} {s : MS} (A : At K mg x st ps) (Sc : FnScope N ps (defScope st)) (hN : ps.length ≤ N.length) (hm : ∀ ds, ds.length = ps.length → m ds = s _ zTop (ds.map .v ++ List.replicate (N.length - ds.length) .un))
    (hb : ∀ (f : Addr) (cdv : Value) (A : Around) (outer : List PySem.Env) (s0 : Shared) (H : Hp) (E : XK), Room k (A.deeper (envOfC x (defScope st) s0.heap.objs.size f cdv)) →
      XSs C axF (cxOf (L2.CX P w) P w K mg base N x (defScope st) f cdv A outer s0 H E) (fun cls d _ H' => E cls d H') (defBody st) s) : Has P w K mg base (k + 1) x ps (spF C ps.length m) :=
  okH (k := k) A Sc (fun ds S Q E h => h.1) fun f cdv A outer s0 H E hr => ⟨_, dss_drop (hb f cdv A outer s0 H E hr), pureF hN hm⟩
theorem argE_nox : ∀ {ps : List Pk} {vs : List D} {c : Ct ps} {i : Nat} {t : SV}, (argE ps vs c)[i]? = some t → (match t.core with | .x _ _ => false | _ => true) = true
  | [], _, _, _, _, e => by simp [argE] at e
  | .v :: r, d :: vs, c, 0, t, e => by simp [argE] at e; subst e; rfl
  | .v :: r, d :: vs, c, i + 1, t, e => argE_nox (ps := r) (vs := vs) (c := c) (i := i) (by simpa [argE] using e)
  | .v :: r, [], c, 0, t, e => by simp [argE] at e; subst e; rfl
  | .v :: r, [], c, i + 1, t, e => argE_nox (ps := r) (vs := []) (c := c) (i := i) (by simpa [argE] using e)
  | .l :: r, vs, c, 0, t, e => by simp [argE] at e; subst e; rfl
  | .l :: r, vs, c, i + 1, t, e => argE_nox (ps := r) (vs := vs) (c := c.2) (i := i) (by simpa [argE] using e)
  | .k :: r, vs, c, 0, t, e => by simp [argE] at e; subst e; rfl
  | .k :: r, vs, c, i + 1, t, e => argE_nox (ps := r) (vs := vs) (c := c.2) (i := i) (by simpa [argE] using e)
theorem okIF {x : Str} {st : Stmt} {N ns : List Str} {k : Nat} {ps : List Pk} {m : List D → Ct ps → R (Ct ps) D} {s : MS} (A : At K mg x st ns) (Sc : FnScope N ns (defScope st)) (hn : ns.length = ps.length) (hN : ps.length ≤ N.length) (hm : ∀ vs c, m vs c = .bad ∨ m vs c = s _ (zTopI ps) (argE ps vs c ++ List.replicate (N.length - ps.length) .un))
    (hb : ∀ (f : Addr) (cdv : Value) (A : Around) (outer : List PySem.Env) (s0 : Shared) (H : Hp) (E : XK), Room k (A.deeper (envOfC x (defScope st) s0.heap.objs.size f cdv)) →
      XSs C axF (cxOf (L2.CX P w) P w K mg base N x (defScope st) f cdv A outer s0 H E) (fun cls d _ H' => E cls d H') (defBody st) s) : Has P w K mg base (k + 1) x ns (spIF C ps m) := by
  have key : ∀ ds S Q E, spIF C ps m ds S Q E → rdS C axF s (dends Q E) (dstart N ds) S := by
    intro ds S Q E ⟨hl, S0, io, vs, c, B, r, hp⟩
    rcases hm vs c with hf | hf
    · rw [hf] at hp; exact hp.elim
    rw [hf] at hp
    generalize hμ : argE ps vs c = μ at r hp
    have lm : μ.length = ps.length := r.lenμ
    have hcore : ∀ (i : Nat) (t : SV), μ[i]? = some t → t.core = t := fun i t e => (argE_own (c' := c) (by rw [hμ]; exact e)).1
    have sg : ∀ {i : Nat} {t : SV}, (μ ++ List.replicate (N.length - ps.length) SV.un)[i]? = some t → t = .un ∨ (i < ps.length ∧ μ[i]? = some t) := fun {i t} e => by
      by_cases c : i < μ.length
      · rw [List.getElem?_append_left c] at e
        exact .inr ⟨by omega, e⟩
      · rw [List.getElem?_append_right (by omega), List.getElem?_replicate] at e
        split at e
        · cases e; exact .inl rfl
        · cases e
    have dg : ∀ i, i < ps.length → (dstart N ds)[i]? = (ds.map some)[i]? := fun i h => by
      unfold dstart; rw [List.getElem?_append_left (by simp; omega)]
    have start : Rl axF ⟨N.length, fun _ => none, S0, io⟩ (μ ++ List.replicate (N.length - ps.length) SV.un) (dstart N ds) S B := by
      refine ⟨by simp; omega, by simp [dstart]; omega, fun i t e => ?_, fun i j t u a b e f g q z => ?_, fun i t a e g => ?_, r.ext, (fun i t e => by cases e), fun i p e => ?_, fun i t e o => ?_, (fun _ m => by cases m)⟩
      · rcases sg e with rfl | ⟨h, e⟩
        · trivial
        · exact slot_ax (argE_nox (by rw [hμ]; exact e)) (slot_same (dg i h) rfl (fun _ _ => rfl) (r.slot i t e))
      · rcases sg e with rfl | ⟨h, e⟩
        · cases g
        rcases sg f with rfl | ⟨h, f⟩
        · cases q
        exact r.inj i j t u a b e f g q z
      · rcases sg e with rfl | ⟨h, e⟩
        · cases g
        exact r.new i t a e g
      · obtain ⟨e1, t, e2, e3⟩ := r.io i p e
        exact ⟨e1, t, by rw [List.getElem?_append_left (List.getElem?_eq_some_iff.mp e2).1]; exact e2, e3⟩
      · rcases sg e with rfl | ⟨h, e⟩
        · cases o
        exact r.oi i t e o
    have fin : ∀ μ' σ S' (c' : Ct ps), Rel axF ⟨N.length, fun _ => none, S0, io⟩ μ' σ S' → (∀ (j : Nat) (t : SV), (argU ps c')[j]? = some t → t = .un ∨ (μ'[0 + j]? = some t ∧ t.own = true ∧ ((∃ xs, t = .l true xs) ∨ ∃ xs, t = .k true xs))) → Rel ax0 ⟨ps.length, fun _ => none, S0, io⟩ (argU ps c') (ds.map some) S' := fun μ' σ S' c' ⟨A', r'⟩ hc => by
      have hc : ∀ (j : Nat) (t : SV), (argU ps c')[j]? = some t → t = .un ∨ (μ'[j]? = some t ∧ t.own = true ∧ ((∃ xs, t = .l true xs) ∨ ∃ xs, t = .k true xs)) := fun j t e => by have := hc j t e; rwa [Nat.zero_add] at this
      have own : ∀ i t, μ'[i]? = some t → t.own = true → ∃ p, io i = some p ∧ A' i = p ∧ (ds.map some)[i]? = some (some (.ref p)) := fun i t e o => by
        have := r'.oi i t e o
        cases q : io i with
        | none => rw [show (Fx.mk N.length (fun _ => none) S0 io).io i = io i from rfl, q] at this; cases this
        | some p =>
          obtain ⟨e1, _⟩ := r'.io i p q
          obtain ⟨e2, t', e3, e4⟩ := r.io i p q
          refine ⟨p, rfl, e1, ?_⟩
          have sl := r.slot i t' e3
          have hc := hcore i t' e3
          rw [← e2]
          cases t' with
          | l _ xs => exact sl.1
          | k _ xs => exact sl.1
          | p t' => exact absurd hc core_p
          | _ => cases e4
      refine ⟨A', argU_len, by simp [hl], fun i t e => ?_, fun i j t u a b e f g q z => ?_, fun i t a e g => ?_, r'.ext, (fun i t e => by cases e), fun i p e => ?_, fun i t e o => ?_, (fun _ m => by cases m)⟩
      · rcases hc i t e with rfl | ⟨e', o, w⟩
        · trivial
        · obtain ⟨p, _, h2, h3⟩ := own i t e' o
          have sl := r'.slot i t e'
          rcases w with ⟨xs, rfl⟩ | ⟨xs, rfl⟩
          · exact ⟨by rw [h2]; exact h3, sl.2⟩
          · exact ⟨by rw [h2]; exact h3, sl.2⟩
      · rcases hc i t e with rfl | ⟨e', _⟩
        · cases g
        rcases hc j u f with rfl | ⟨f', _⟩
        · cases q
        exact r'.inj i j t u a b e' f' g q z
      · rcases hc i t e with rfl | ⟨e', _⟩
        · cases g
        exact r'.new i t a e' g
      · obtain ⟨e1, _⟩ := r'.io i p e
        obtain ⟨_, t, e2, e3⟩ := r.io i p e
        exact ⟨e1, (argE_own (c' := c') (by rw [hμ]; exact e2)).2 e3⟩
      · rcases hc i t e with rfl | ⟨e', _⟩
        · cases o
        exact r'.oi i t e' o
    let Φ : R (Ct ps) D → Prop := fun y => (match y with
      | .ok d c' => ∃ xs, d = .lst xs ∧ ∀ S', Rel ax0 ⟨ps.length, fun _ => none, S0, io⟩ (argU ps c') (ds.map some) S' → ∀ p, S' p = none → Q (.ref p) (put S' p (.lst xs))
      | .er x fs c' => ∀ S', Rel ax0 ⟨ps.length, fun _ => none, S0, io⟩ (argU ps c') (ds.map some) S' → ∀ p, S' p = none → E (C x) p (put S' p (.xd fs))
      | .bad => False)
    have nb : ¬ Φ .bad := id
    refine ⟨⟨N.length, fun _ => none, S0, io⟩, _, _, zTopI ps, Φ, ⟨B, start⟩, ⟨nb, ?_, ?_, ?_, ?_, ?_⟩, hp⟩
    · intro μ' σ S' r' h
      obtain ⟨c', h, q⟩ := getC_ok (Φ := Φ) h nb
      obtain ⟨xs, h, _⟩ := h
      cases h
    · intro d d0 μ' σ S' r' hr h
      obtain ⟨c', h, q⟩ := getC_ok (Φ := Φ) h nb
      rcases hr with ⟨hf, _⟩ | ⟨_, p, xs, rfl, rfl, e3, e4, e5⟩
      · cases hf
      obtain ⟨ys, h1, h2⟩ := h
      cases h1
      have r2 := fin μ' σ S' c' r' q
      have r3 : Rel ax0 ⟨ps.length, fun _ => none, S0, io⟩ (argU ps c') (ds.map some) (rem S' p) := r2.goD e4 fun A a i t m e g z => by
        have o : t.own = true := by
          rcases q i t e with rfl | ⟨_, o, _⟩
          · cases g
          · exact o
        have := a.oi i t e o
        cases y : io i with
        | none => rw [show (Fx.mk ps.length (fun _ => none) S0 io).io i = io i from rfl, y] at this; cases this
        | some p' =>
          obtain ⟨e1, _⟩ := a.io i p' y
          exact e5 i (by rw [show (Fx.mk N.length (fun _ => none) S0 io).io i = io i from rfl, y, ← e1, z])
      have := h2 (rem S' p) r3 p rem_same
      have e : put (rem S' p) p (.lst xs) = S' := by
        funext b
        by_cases z : b = p
        · subst z; rw [put_same, e3]
        · rw [put_ne z, rem_ne z]
      rw [e] at this; exact this
    · exact fun μ' σ S' _ h => h.elim
    · exact fun μ' σ S' _ h => h.elim
    · intro x fs μ' σ S' r' h p hp
      obtain ⟨c', h, q⟩ := getC_ok (Φ := Φ) h nb
      exact h S' (fin μ' σ S' c' r' q) p hp
  exact okH (k := k) A Sc (fun ds S Q E h => h.1.trans hn.symm) fun f cdv A outer s0 H E hr => ⟨_, hb f cdv A outer s0 H E hr, fun ds S Q E h => key ds S Q E h⟩
end
end KM

set_option maxRecDepth 100000
set_option maxHeartbeats 4000000
/-! Kn9: a peek: a pure expression with a flat answer sees own lists as data. -/
namespace KM
open PySem PySem.Spec PyProof.Rows L2 KD
def nonTab : DM → Bool
  | .tab _ _ => false
  | _ => true
def peekG (G H : Hp) (S : Sto) : Hp := fun a => match S a with
  | some m => if nonTab m then H a else G a
  | none => G a
def peekS (S : Sto) : Sto := fun a => match S a with
  | some m => if nonTab m then none else some m
  | none => none
def backG (G' : Hp) (S : Sto) : Hp := fun a => match S a with
  | some m => if nonTab m then none else G' a
  | none => G' a
def seenO (S : Sto) : Option D → Option D
  | some (.ref p) => match S p with
    | some (.lst xs) => some (.lst xs)
    | _ => some (.ref p)
  | o => o
def seenS (ix : List Nat) (S : Sto) : Nat → DSt → DSt
  | _, [] => []
  | n, o :: r => (if ix.contains n then seenO S o else o) :: seenS ix S (n + 1) r
theorem seenS_get {ix : List Nat} {S : Sto} : ∀ {n : Nat} {σ : DSt} {i : Nat}, (seenS ix S n σ)[i]? = σ[i]?.map fun o => if ix.contains (n + i) then seenO S o else o
  | _, [], i => by simp [seenS]
  | n, o :: r, 0 => by simp [seenS]
  | n, o :: r, i + 1 => by
    rw [seenS, List.getElem?_cons_succ, List.getElem?_cons_succ, seenS_get]
    rw [show n + 1 + i = n + (i + 1) by omega]
theorem seenS_len {ix : List Nat} {S : Sto} : ∀ {n : Nat} {σ : DSt}, (seenS ix S n σ).length = σ.length
  | _, [] => rfl
  | n, o :: r => by rw [seenS, List.length_cons, List.length_cons, seenS_len]
def scal : D → Bool
  | .non => true
  | .bl _ => true
  | .int _ => true
  | .str _ => true
  | _ => false
def dPeek (ix : List Nat) (r : DTE) : DTE := fun E σ S Q => r (fun _ _ _ => False) (seenS ix S 0 σ) (peekS S) fun d S1 => S1 = peekS S ∧ scal d = true ∧ Q d S
section
variable {K : PySem.W.Frag}
theorem rep_scal {G G' : Hp} {v : V} {d : D} (h : Rep K G v d) (s : scal d = true) : Rep K G' v d := by
  cases h <;> first | (cases s; done) | exact .non | exact .bl _ | exact .int _ | exact .str _
theorem mok_nt {G H : Hp} {p : Addr} {m : DM} (h : MOk K G H p m) (hn : nonTab m = true) : ∀ ps, H p ≠ some (.tbl ps) := fun ps e => by
  cases m <;> first | (cases hn; done) | skip
  all_goals (unfold MOk at h; rw [e] at h; obtain ⟨_, h⟩ := h; first | (cases h.1; done) | (obtain ⟨_, h⟩ := h; cases h.1; done))
theorem ev_peek {W : WX} {t : TE} {r : DTE} {ix : List Nat} (h : EvD K W t r) : EvD K W t (dPeek ix r) := ⟨fun E G H S σV σ Q P w k sl hr p => by
  have eg : Ex G (peekG G H S) := fun a o e => by
    unfold peekG
    split
    · rename_i m hm
      rw [(k.sto a m hm).1] at e; cases e
    · exact e
  have k1 : Wok K (peekG G H S) H (peekS S) := by
    refine ⟨fun a o e => ?_, fun q m e => ?_, fun q ps e => ?_, fun p1 q l p' q' l' e e' => ?_⟩
    · unfold peekG at e
      split at e
      · split at e
        · exact e
        · exact k.ext a o e
      · exact k.ext a o e
    · unfold peekS at e
      split at e
      · rename_i m' hm
        split at e
        · cases e
        · rename_i c
          cases e
          obtain ⟨g, mo⟩ := k.sto q m hm
          refine ⟨?_, MOk.mono eg mo fun u z => z⟩
          unfold peekG; rw [hm]; simp only [c]; exact g
      · cases e
    · unfold peekG at e
      split at e
      · rename_i m hm
        split at e
        · rename_i c
          exact mok_nt (k.sto q m hm).2 c ps e
        · exact k.nt q ps e
      · exact k.nt q ps e
    · have key : ∀ a m, peekS S a = some m → S a = some m := fun a m e => by
        unfold peekS at e
        split at e
        · rename_i m' hm
          split at e
          · cases e
          · cases e; exact hm
        · cases e
      exact k.tt _ _ _ _ _ _ (key _ _ e) (key _ _ e')
  have s1 : Sl K (peekG G H S) σV (seenS ix S 0 σ) := by
    refine ⟨sl.len.trans seenS_len.symm, fun i d e => ?_⟩
    rw [seenS_get] at e
    cases ho : σ[i]? with
    | none => rw [ho] at e; cases e
    | some o =>
      rw [ho] at e
      simp only [Option.map_some, Option.some.injEq] at e
      have plain : ∀ d, o = some d → ∃ v, σV[i]? = some (some v) ∧ Rep K (peekG G H S) v d := fun d z => by
        obtain ⟨v, h1, h2⟩ := sl.at_ i d (by rw [ho, z])
        exact ⟨v, h1, h2.mono eg⟩
      split at e
      · unfold seenO at e
        split at e
        · rename_i q
          split at e
          · rename_i xs hx
            cases e
            obtain ⟨v, h1, h2⟩ := sl.at_ i (.ref q) ho
            obtain ⟨_, vs, h3, h4⟩ := k.sto q _ hx
            cases h2
            refine ⟨_, h1, .lst (vs := vs) ?_ (h4.mono eg)⟩
            unfold peekG; rw [hx]; exact h3
          · exact plain _ e
        · exact plain _ e
      · exact plain _ e
  refine h.run _ _ H _ σV _ _ P ⟨fun _ _ _ _ _ e => e.elim⟩ k1 s1 hr fun d S' G' H' v ⟨e1, e2, q⟩ k2 f2 rv => ?_
  subst e1
  have eb : Ex G (backG G' S) := fun a o e => by
    unfold backG
    split
    · rename_i m hm
      rw [(k.sto a m hm).1] at e; cases e
    · exact f2.g a o (eg a o e)
  have same : ∀ q m, S q = some m → nonTab m = true → H' q = H q := fun q m hm c => by
    obtain ⟨o, ho⟩ := (k.sto q m hm).2.ex
    rw [ho]
    refine k2.ext q o (f2.g q o ?_)
    unfold peekG; rw [hm]; simp only [c, if_true]; exact ho
  refine p d S (backG G' S) H' v q ⟨fun a o e => ?_, fun q m hm => ?_, fun q ps e => ?_, k.tt⟩ ⟨eb, fun a o e g s n => ?_⟩ (rep_scal rv e2)
  · unfold backG at e
    split at e
    · split at e
      · cases e
      · exact k2.ext a o e
    · exact k2.ext a o e
  · obtain ⟨g, mo⟩ := k.sto q m hm
    by_cases c : nonTab m = true
    · refine ⟨by unfold backG; rw [hm]; simp only [c, if_true], MOk.mono eb mo fun u z => ?_⟩
      rw [same q m hm c]; exact z
    · have c' : nonTab m = false := by simpa using c
      have hp : peekS S q = some m := by unfold peekS; rw [hm]; simp only [c', Bool.false_eq_true, if_false]
      obtain ⟨g2, mo2⟩ := k2.sto q m hp
      refine ⟨by unfold backG; rw [hm]; simp only [c', Bool.false_eq_true, if_false]; exact g2, ?_⟩
      cases m <;> first | (cases c'; done) | skip
      obtain ⟨ps, h1, h2, h3⟩ := mo2
      refine ⟨ps, h1, h2, fun pos cv e => ?_⟩
      obtain ⟨cc, e1, e2⟩ := h3 pos cv e
      refine ⟨cc, e1, ?_⟩
      unfold backG
      split
      · rename_i m' hm'
        split
        · rename_i cn
          exfalso
          have mo3 := (k.sto cc m' hm').2
          have e3 : G' cc = H cc := by
            obtain ⟨o, ho⟩ := mo3.ex
            rw [ho]
            exact f2.g cc o (by unfold peekG; rw [hm']; simp only [cn, if_true]; exact ho)
          rw [e3] at e2
          cases m' <;> first | (cases cn; done) | skip
          all_goals (unfold MOk at mo3; rw [e2] at mo3; obtain ⟨_, mo3⟩ := mo3; first | (cases mo3.1; done) | (obtain ⟨_, mo3⟩ := mo3; cases mo3.1; done))
        · exact e2
      · exact e2
  · unfold backG at e
    split at e
    · split at e
      · cases e
      · exact k2.nt q ps e
    · exact k2.nt q ps e
  · have := f2.fr a o e (by unfold peekG; rw [s]; exact g) (by unfold peekS; rw [s]) n
    exact ⟨this.1, by unfold backG; rw [s]; exact this.2.1, s⟩⟩
end
section
variable {C : Str → Addr} {ax : Ax} {X : Cx} {W : WX} {e : Expr}
theorem de_peek {ix : List Nat} {r : DTE} (h : DE X W e r) : DE X W e (dPeek ix r) := let ⟨t, p, ev⟩ := h; ⟨t, p, ev_peek ev⟩
def seenE (ix : List Nat) : Nat → Env → Env
  | _, [] => []
  | n, s :: r => (if ix.contains n then (match s.core with | .l _ xs => .v (.lst xs) | _ => .un) else (match s.core with | .v d => .v d | _ => .un)) :: seenE ix (n + 1) r
theorem seenE_get {ix : List Nat} : ∀ {n : Nat} {μ : Env} {i : Nat}, (seenE ix n μ)[i]? = μ[i]?.map fun s => if ix.contains (n + i) then (match s.core with | .l _ xs => SV.v (.lst xs) | _ => .un) else (match s.core with | .v d => .v d | _ => .un)
  | _, [], i => by simp [seenE]
  | n, s :: r, 0 => by simp [seenE]
  | n, s :: r, i + 1 => by
    rw [seenE, List.getElem?_cons_succ, List.getElem?_cons_succ, seenE_get]
    rw [show n + 1 + i = n + (i + 1) by omega]
theorem seenE_len {ix : List Nat} : ∀ {n : Nat} {μ : Env}, (seenE ix n μ).length = μ.length
  | _, [] => rfl
  | n, s :: r => by rw [seenE, List.length_cons, List.length_cons, seenE_len]
def mPeek (ix : List Nat) (m : Env → P D) : Env → P D := fun μ => bind (noer (m (seenE ix 0 μ))) fun d => guard (scal d) (.ok d ()) .bad
theorem xe_peek {m : Env → P D} (ix : List Nat) (h : XE C ax X W e m) : XE C ax X W e (mPeek ix m) := deI (de_peek (ix := ix) h) fun E σ S Q ⟨fx, μ, ⟨A, r⟩, p⟩ => by
  have key : ∃ d u, m (seenE ix 0 μ) = .ok d u ∧ scal d = true ∧ Q d S := by
    unfold mPeek at p
    rw [post_bind] at p
    cases g : m (seenE ix 0 μ) with
    | bad => rw [g] at p; exact p.elim
    | er c fs u => rw [g] at p; exact p.elim
    | ok d u =>
      rw [g] at p
      have p : post C E S (fun d => Q d S) (guard (scal d) (.ok d ()) .bad) := p
      cases c : scal d with
      | false => rw [c] at p; exact p.elim
      | true => rw [c] at p; exact ⟨d, u, rfl, c, p⟩
  obtain ⟨d, u, g, c, q⟩ := key
  have get : ∀ i s, (seenE ix 0 μ)[i]? = some s → s = SV.un ∨ ∃ d, s = SV.v d ∧ (seenS ix S 0 σ)[i]? = some (some d) := fun i s e => by
    rw [seenE_get] at e
    cases hs : μ[i]? with
    | none => rw [hs] at e; cases e
    | some t =>
      rw [hs] at e
      simp only [Option.map_some, Option.some.injEq] at e
      have sl := core_ok.mp (r.slot i t hs)
      split at e
      · rename_i c
        split at e
        · rename_i q xs hc
          rw [hc] at sl
          refine .inr ⟨_, e.symm, ?_⟩
          rw [seenS_get, sl.1]
          simp only [Option.map_some, c, if_true, seenO, sl.2]
        · exact .inl e.symm
      · rename_i c
        split at e
        · rename_i d hc
          rw [hc] at sl
          refine .inr ⟨_, e.symm, ?_⟩
          have sl : σ[i]? = some (some d) := sl
          rw [seenS_get, sl]
          simp only [Option.map_some, if_neg c]
        · exact .inl e.symm
  refine ⟨⟨fx.n, fun _ => none, peekS S, fun _ => none⟩, seenE ix 0 μ, ⟨A, ?_⟩, ?_⟩
  · refine ⟨seenE_len.trans r.lenμ, seenS_len.trans r.lenσ, fun i s e => ?_, fun i j s t a b e f g q _ => ?_, fun i t a e g => ?_, fun b a e => e, (fun i t e => by cases e), (fun i t e => by cases e), fun i t e o => ?_, fun e m => ?_⟩
    · rcases get i s e with rfl | ⟨d, rfl, h⟩
      · trivial
      · exact h
    · rcases get i s e with rfl | ⟨d, rfl, h⟩ <;> cases g
    · rcases get i t e with rfl | ⟨d, rfl, h⟩ <;> cases g
    · rcases get i t e with rfl | ⟨d, rfl, h⟩ <;> cases o
    · have := r.ext _ _ (r.tb e m)
      show peekS S e.1 = _
      unfold peekS; rw [this]; rfl
  · rw [g]
    exact ⟨rfl, c, q⟩
end
end KM

set_option maxRecDepth 100000
set_option maxHeartbeats 4000000
/-! Kp3: plain lemmas further: sums, membership, rows cut in parts. -/
namespace KM
open PySem PySem.Spec PyProof.Rows L2 KD
theorem ap1_e {f : D → P D} {x : D} : ap1 f [x] = f x := rfl
theorem ap2_e {f : D → D → P D} {x y : D} : ap2 f [x, y] = f x y := rfl
theorem ap3_e {f : D → D → D → P D} {x y z : D} : ap3 f [x, y, z] = f x y z := rfl
/-! ### sums -/
theorem intsOf_map {α : Type} (f : α → Int) : ∀ l : List α, intsOf (l.map fun x => .int (f x)) = some (l.map f)
  | [] => rfl
  | x :: l => by
    show (intsOf (l.map fun x => .int (f x))).map (f x :: ·) = _
    rw [intsOf_map f l]; rfl
theorem e_sumL {α : Type} {f : α → Int} {l : List α} : sumD (.lst (l.map fun x => .int (f x))) = some (.int (l.map f).sum) := by
  show (match intsOf (l.map fun x => D.int (f x)) with
    | some ns => some (D.int ns.sum)
    | none => none) = _
  rw [intsOf_map]
theorem e_sumT {α : Type} {f : α → Int} {l : List α} : sumD (.tup (l.map fun x => .int (f x))) = some (.int (l.map f).sum) := by
  show (match intsOf (l.map fun x => D.int (f x)) with
    | some ns => some (D.int ns.sum)
    | none => none) = _
  rw [intsOf_map]
theorem e_sumNT {l : List Nat} : sumD (.tup (oN l)) = some (.int (l.map fun n : Nat => (n : Int)).sum) := e_sumT
theorem e_sumNL {l : List Nat} : sumD (.lst (oN l)) = some (.int (l.map fun n : Nat => (n : Int)).sum) := e_sumL
/-! ### membership -/
theorem inF_oN {a : Nat} : ∀ {l : List Nat}, inF (.int (a : Nat)) (oN l) = decide (a ∈ l)
  | [] => rfl
  | b :: l => by
    have e : inF (.int (a : Nat)) (oN (b :: l)) = (eqF (.int (b : Nat)) (.int (a : Nat)) || inF (.int (a : Nat)) (oN l)) := rfl
    rw [e, inF_oN]
    have : eqF (.int (b : Nat)) (.int (a : Nat)) = decide (a = b) := by
      show decide ((b : Int) = a) = _
      by_cases h : a = b
      · subst h; simp
      · rw [decide_eq_false h]; exact decide_eq_false (by omega)
    rw [this]
    simp [List.mem_cons, Bool.decide_or]
theorem flat_oN {l : List Nat} : (oN l).all flatD = true := by
  unfold oN; rw [List.all_map]; simp [flatD]
theorem e_inNL {a : Nat} {l : List Nat} : inC (.int (a : Nat)) (.lst (oN l)) = some (decide (a ∈ l)) := by
  show (if _ then _ else _) = _
  rw [if_pos ⟨rfl, flat_oN⟩, inF_oN]
theorem e_inNT {a : Nat} {l : List Nat} : inC (.int (a : Nat)) (.tup (oN l)) = some (decide (a ∈ l)) := by
  show (if _ then _ else _) = _
  rw [if_pos ⟨rfl, flat_oN⟩, inF_oN]
/-! ### rows of rows -/
def tN (ls : List (List Nat)) : List D := ls.map fun l => .tup (oN l)
theorem tN_len {ls : List (List Nat)} : (tN ls).length = ls.length := List.length_map _
theorem tN_app {a b : List (List Nat)} : tN (a ++ b) = tN a ++ tN b := List.map_append
theorem mapR_map {α : Type} {f : D → P D} {a b : α → D} : ∀ {xs : List α}, (∀ x ∈ xs, f (a x) = .ok (b x) ()) → mapR f (xs.map a) = .ok (xs.map b) ()
  | [], _ => rfl
  | x :: xs, h => by
    have := mapR_map (f := f) (a := a) (b := b) (xs := xs) fun y hy => h y (by simp [hy])
    simp only [mapR, List.map_cons, h x (by simp), this, bind_o]
theorem chk_map {α : Type} {b : α → D} {xs : List α} (h : xs.length ≤ 16777216) : chkR (.ok (xs.map b) ()) = .ok (xs.map b) () := chkR_ok (by rw [List.length_map]; exact h)
theorem e_ext {xs zs : List D} (h : xs.length + zs.length ≤ 16777216) : extG xs [.lst zs] = some (.non, xs ++ zs) := if_pos h
theorem oN_flat : ∀ {ls : List (List Nat)}, (ls.map oN).flatten = oN ls.flatten
  | [] => rfl
  | l :: ls => by rw [List.map_cons, List.flatten_cons, oN_flat, List.flatten_cons, oN_app]
theorem mul_oN {l : List Nat} {k : Int} {p : Nat → Prop} (h : ∀ n ∈ l, p n) (hk : 1 ≤ k ∧ k ≤ 1000) (hl : l.length ≤ 1000) : ∃ l2 : List Nat, mulD (.tup (oN l)) (.int k) = some (.tup (oN l2)) ∧ ∀ n ∈ l2, p n := by
  refine ⟨(List.replicate k.toNat l).flatten, ?_, fun n hn => ?_⟩
  · show (if _ then _ else _) = _
    rw [if_pos ⟨hk.1, hk.2, by rw [oN_len]; exact hl⟩, ← oN_flat, List.map_replicate]
  · obtain ⟨x, h1, h2⟩ := List.mem_flatten.mp hn
    rw [(List.mem_replicate.mp h1).2] at h2
    exact h n h2
/-! ### a row in parts -/
/-- parts of m items each, the last one shorter -/
def chunks {α : Type} (m : Nat) : Nat → List α → List (List α)
  | 0, _ => []
  | n + 1, l => l.take m :: chunks m n (l.drop m)
theorem chunks_get {α : Type} {m : Nat} : ∀ {n : Nat} {l : List α}, chunks m n l = (List.range n).map fun k => (l.drop (k * m)).take m
  | 0, l => rfl
  | n + 1, l => by
    rw [chunks, chunks_get, List.range_succ_eq_map, List.map_cons, List.map_map]
    congr 1
    · simp
    · exact List.map_congr_left fun k _ => by
        simp only [Function.comp, List.drop_drop]
        congr 2
        rw [Nat.succ_mul]; omega
/-- how many -/
def parts (n m : Nat) : Nat := (n + m - 1) / m
theorem parts_one {n m : Nat} (h : 0 < n) (h2 : n ≤ m) : parts n m = 1 := by
  unfold parts
  exact Nat.div_eq_of_lt_le (by omega) (by omega)
theorem parts_next {n m : Nat} (h : 0 < m) (h2 : m < n) : parts n m = parts (n - m) m + 1 := by
  unfold parts
  rw [show n + m - 1 = (n - m + m - 1) + m by omega, Nat.add_div_right _ h]
theorem rng3_parts {n m : Nat} (hm : 0 < m) (hn : n ≤ 16777216) (hm2 : m ≤ 16777216) : rng3 (.int 0) (.int (n : Nat)) (.int (m : Nat)) = some ((List.range (parts n m)).map fun k => .int ((k * m : Nat) : Int)) := by
  have hs : Builtin.Range.rangeSize 0 (n : Nat) (m : Nat) = ((parts n m : Nat) : Int) := by
    rw [rangeSize_pos (by omega) (by omega)]
    unfold parts
    rw [show ((n : Nat) : Int) + (m : Nat) - 1 = ((n + m - 1 : Nat) : Int) by omega]
    rfl
  have hp : parts n m ≤ n := by
    unfold parts
    by_cases c : n = 0
    · subst c; rw [Nat.zero_add, Nat.div_eq_of_lt (by omega)]; omega
    · refine Nat.le_of_lt_succ (Nat.div_lt_of_lt_mul ?_)
      have h1 : 1 * n ≤ m * n := Nat.mul_le_mul_right n hm
      rw [show n.succ = n + 1 from rfl, Nat.mul_add]
      omega
  unfold rng3
  dsimp only
  have sm : Builtin.Range.small 0 (n : Nat) (m : Nat) = true := by
    unfold Builtin.Range.small
    rw [hs, if_pos (by omega)]
    have fl : ∀ i : Int, 0 ≤ i → i ≤ 67108864 → Builtin.Range.rangeFitsLong i = true := fun i h1 h2 => by
      unfold Builtin.Range.rangeFitsLong
      rw [decide_eq_true (show -(2 ^ 63) ≤ i by omega), decide_eq_true (show i < 2 ^ 63 by omega)]; rfl
    rw [fl 0 (by omega) (by omega), fl _ (show (0 : Int) ≤ (n : Nat) by omega) (by omega), fl _ (show (0 : Int) ≤ (m : Nat) by omega) (by omega), fl _ (show (0 : Int) ≤ (parts n m : Nat) by omega) (by omega), fl ((n : Nat) + ((m : Nat) - 1)) (by omega) (by omega)]
    simp
  have rc : rangeC 0 (m : Nat) (parts n m) = (List.range (parts n m)).map fun k => .int ((k * m : Nat) : Int) := by
    unfold rangeC
    exact List.map_congr_left fun k _ => by simp
  rw [hs, if_pos ⟨by omega, by omega, sm⟩, Int.toNat_natCast, rc]
end KM

set_option maxRecDepth 100000
set_option maxHeartbeats 4000000
/-! Kn10: list and tuple of a range. -/
namespace KD
open PySem PySem.Spec PyProof.Rows L2
section
variable {X : Cx} {W : WX} {a b e : Expr} {ra rb : DTE} {pos : Pos}
theorem rep_rg {K : PySem.W.Frag} {G : Hp} (i j : Int) : RepL K G (rgV i j) (rangeD i (j - i).toNat) := by
  have := RepL.of_ints (K := K) (G := G) ((List.range (j - i).toNat).map fun k => i + (k : Nat))
  unfold rgV rangeD
  rwa [List.map_map, List.map_map] at this
def dRg1 (ra : DTE) : DEr → DSt → Sto → (Int → Int → Sto → Prop) → Prop := fun E σ S Q => ra E σ S fun d S1 => ∃ n, d = .int n ∧ Q 0 n S1
def dRg2 (ra rb : DTE) : DEr → DSt → Sto → (Int → Int → Sto → Prop) → Prop := fun E σ S Q => ra E σ S fun d S1 => rb E σ S1 fun d' S2 => ∃ i j, d = .int i ∧ d' = .int j ∧ Q i j S2
structure EvR (K : PySem.W.Frag) (W : WX) (t : L2.St → Hp → (Int → Int → Hp → Prop) → Prop) (r : DEr → DSt → Sto → (Int → Int → Sto → Prop) → Prop) : Prop where
  run : ∀ (E : DEr) (G H : Hp) (S : Sto) (σV : L2.St) (σ : DSt) (Q : Int → Int → Sto → Prop) (P : Int → Int → Hp → Prop), WOk K W E σV G H S → Wok K G H S → Sl K G σV σ → r E σ S Q → (∀ i j S' G' H', Q i j S' → Wok K G' H' S' → Fr G H S G' H' S' → P i j H') → t σV H P
theorem evr_1 {K : PySem.W.Frag} {ta : TE} (ha : EvD K W ta ra) : EvR K W (tRg1 ta) (dRg1 ra) := ⟨fun E G H S σV σ Q P w k s h p => by
  refine ha.run E G H S σV σ _ _ w k s h fun d S1 G1 H1 v ⟨n, e, q⟩ k1 f1 r1 => ?_
  subst e
  cases r1
  exact ⟨n, rfl, p _ _ _ _ _ q k1 f1⟩⟩
theorem evr_2 {K : PySem.W.Frag} {ta tb : TE} (ha : EvD K W ta ra) (hb : EvD K W tb rb) : EvR K W (tRg2 ta tb) (dRg2 ra rb) := ⟨fun E G H S σV σ Q P w k s h p => by
  refine ha.run E G H S σV σ _ _ w k s h fun d S1 G1 H1 v q1 k1 f1 r1 => ?_
  refine hb.run E G1 H1 S1 σV σ _ _ (w.mono f1) k1 (s.mono f1.g) q1 fun d' S2 G2 H2 v' ⟨i, j, e, e', q⟩ k2 f2 r2 => ?_
  subst e; subst e'
  cases r1; cases r2
  exact ⟨i, j, rfl, rfl, p _ _ _ _ _ q k2 (f1.trans f2)⟩⟩
def DR (X : Cx) (W : WX) (e : Expr) (r : DEr → DSt → Sto → (Int → Int → Sto → Prop) → Prop) : Prop := ∃ t, PRg X e t ∧ EvR X.K W t r
theorem dr_1 {p pos : Pos} (hg : Gl X "range") (hm : X.mg "range" = none) (ha : DE X W a ra) (na : starEach [a] X.env = (false, eval a X.env) :: starEach [] X.env := by rfl) : DR X W (.Call (.Name "range" p) [a] [] pos) (dRg1 ra) := by
  obtain ⟨t, p, ea⟩ := ha
  exact ⟨_, prg_1 hg hm p na, evr_1 ea⟩
theorem dr_2 {p pos : Pos} (hg : Gl X "range") (hm : X.mg "range" = none) (ha : DE X W a ra) (hb : DE X W b rb) (na : starEach [a, b] X.env = (false, eval a X.env) :: starEach [b] X.env := by rfl) (nb : starEach [b] X.env = (false, eval b X.env) :: starEach [] X.env := by rfl) (hp : (backTo pos (starEach [b] X.env)).any (·.1) = false := by rfl) : DR X W (.Call (.Name "range" p) [a, b] [] pos) (dRg2 ra rb) := by
  obtain ⟨t, p, ea⟩ := ha
  obtain ⟨t', p', eb⟩ := hb
  exact ⟨_, prg_2 hg hm p p' na nb hp, evr_2 ea eb⟩
variable {r : DEr → DSt → Sto → (Int → Int → Sto → Prop) → Prop}
def dRgL (r : DEr → DSt → Sto → (Int → Int → Sto → Prop) → Prop) : DTE := fun E σ S Q => r E σ S fun i j S1 => RgOk i j ∧ Q (.lst (rangeD i (j - i).toNat)) S1
def dRgT (r : DEr → DSt → Sto → (Int → Int → Sto → Prop) → Prop) : DTE := fun E σ S Q => r E σ S fun i j S1 => RgOk i j ∧ Q (.tup (rangeD i (j - i).toNat)) S1
def dRgM (r : DEr → DSt → Sto → (Int → Int → Sto → Prop) → Prop) : DTE := fun E σ S Q => r E σ S fun i j S1 => RgOk i j ∧ ∀ p, S1 p = none → Q (.ref p) (put S1 p (.lst (rangeD i (j - i).toNat)))
theorem de_rgL {p pos : Pos} (hc : X.calm = true) (hg : Gl X "list") (hm : X.mg "list" = none) (he : DR X W e r) (na : starEach [e] X.env = (false, eval e X.env) :: starEach [] X.env := by rfl) : DE X W (.Call (.Name "list" p) [e] [] pos) (dRgL r) := by
  obtain ⟨t, p, ea⟩ := he
  refine ⟨_, pe_listRg hc hg hm p na, ⟨fun E G H S σV σ Q P w k s h p => ?_⟩⟩
  refine ea.run E G H S σV σ _ _ w k s h fun i j S1 G1 H1 hd k1 f1 => ⟨hd.1, fun q hq => ?_⟩
  obtain ⟨k2, f2⟩ := k1.newG (o := .lst (rgV i j)) hq
  exact p _ _ _ _ _ hd.2 k2 (f1.trans f2) (.lst upd_same (rep_rg i j))
theorem de_rgT {p pos : Pos} (hc : X.calm = true) (hg : Gl X "tuple") (hm : X.mg "tuple" = none) (he : DR X W e r) (na : starEach [e] X.env = (false, eval e X.env) :: starEach [] X.env := by rfl) : DE X W (.Call (.Name "tuple" p) [e] [] pos) (dRgT r) := by
  obtain ⟨t, p, ea⟩ := he
  refine ⟨_, pe_tupRg hc hg hm p na, ⟨fun E G H S σV σ Q P w k s h p => ?_⟩⟩
  refine ea.run E G H S σV σ _ _ w k s h fun i j S1 G1 H1 hd k1 f1 => ⟨hd.1, fun q hq => ?_⟩
  obtain ⟨k2, f2⟩ := k1.newG (o := .tup (rgV i j)) hq
  exact p _ _ _ _ _ hd.2 k2 (f1.trans f2) (.tup (.inl upd_same) (rep_rg i j))
theorem de_rgM {p pos : Pos} (hc : X.calm = true) (hg : Gl X "list") (hm : X.mg "list" = none) (he : DR X W e r) (na : starEach [e] X.env = (false, eval e X.env) :: starEach [] X.env := by rfl) : DE X W (.Call (.Name "list" p) [e] [] pos) (dRgM r) := by
  obtain ⟨t, p, ea⟩ := he
  refine ⟨_, pe_listRg hc hg hm p na, ⟨fun E G H S σV σ Q P w k s h p => ?_⟩⟩
  refine ea.run E G H S σV σ _ _ w k s h fun i j S1 G1 H1 hd k1 f1 => ⟨hd.1, fun q hq => ?_⟩
  obtain ⟨k2, f2⟩ := k1.newS (o := .lst (rgV i j)) (m := .lst (rangeD i (j - i).toNat)) hq ⟨_, upd_same, rep_rg i j⟩
  exact p _ _ _ _ _ (hd.2 q (k1.freeS hq)) k2 (f1.trans f2) (.ref q)
end
end KD
namespace KM
open PySem PySem.Spec PyProof.Rows L2 KD
section
variable {C : Str → Addr} {ax : Ax} {X : Cx} {W : WX} {a b e : Expr} {ma mb : Env → P D} {pos : Pos}
def rgB (i j : Int) : Bool := decide (-4611686018427387904 ≤ i ∧ i < 4611686018427387904 ∧ -4611686018427387904 ≤ j ∧ j < 4611686018427387904 ∧ (j - i).toNat ≤ 16777216)
def rngL (x y : D) : Option (List D) := match x, y with
  | .int i, .int j => if rgB i j then some (rangeD i (j - i).toNat) else none
  | _, _ => none
theorem rngL_ok {x y : D} {xs : List D} (h : rngL x y = some xs) : ∃ i j, x = .int i ∧ y = .int j ∧ RgOk i j ∧ xs = rangeD i (j - i).toNat := by
  unfold rngL at h
  split at h
  · split at h
    · rename_i i j c
      cases h
      have c := of_decide_eq_true c
      exact ⟨i, j, rfl, rfl, ⟨by omega, by omega, by omega, by omega, by omega⟩, rfl⟩
    · cases h
  · cases h
def rdR (C : Str → Addr) (ax : Ax) (m : Env → P (D × D)) : DEr → DSt → Sto → (Int → Int → Sto → Prop) → Prop := fun E σ S Q => ∃ fx μ, Rel ax fx μ σ S ∧ post C E S (fun p => ∃ i j, p = (.int i, .int j) ∧ Q i j S) (m μ)
def XR (C : Str → Addr) (ax : Ax) (X : Cx) (W : WX) (e : Expr) (m : Env → P (D × D)) : Prop := DR X W e (rdR C ax m)
def mRg1 (a : Env → P D) : Env → P (D × D) := fun μ => bind (a μ) fun x => .ok (.int 0, x) ()
def mRg2 (a b : Env → P D) : Env → P (D × D) := fun μ => bind (a μ) fun x => bind (b μ) fun y => .ok (x, y) ()
theorem drI {e : Expr} {r r' : DEr → DSt → Sto → (Int → Int → Sto → Prop) → Prop} (h : DR X W e r) (i : ∀ E σ S Q, r' E σ S Q → r E σ S Q) : DR X W e r' := let ⟨t, p, ev⟩ := h; ⟨t, p, ⟨fun E G H S σV σ Q P w k s q => ev.run E G H S σV σ Q P w k s (i _ _ _ _ q)⟩⟩
theorem xr_1 {x : Str} {p pos : Pos} (hx : x = "range") (hg : Gl X x) (hm : X.mg x = none) (ha : XE C ax X W a ma) (na : starEach [a] X.env = (false, eval a X.env) :: starEach [] X.env := by rfl) : XR C ax X W (.Call (.Name x p) [a] [] pos) (mRg1 ma) := by
  subst hx
  exact drI (dr_1 hg hm ha na) fun E σ S Q ⟨fx, μ, r, p⟩ => by
    unfold mRg1 at p; rw [post_bind] at p
    refine ⟨fx, μ, r, post_mono (fun x p => ?_) p⟩
    obtain ⟨i, j, e, q⟩ := p
    cases e
    exact ⟨_, rfl, q⟩
theorem xr_2 {x : Str} {p pos : Pos} (hx : x = "range") (hg : Gl X x) (hm : X.mg x = none) (ha : XE C ax X W a ma) (hb : XE C ax X W b mb) (na : starEach [a, b] X.env = (false, eval a X.env) :: starEach [b] X.env := by rfl) (nb : starEach [b] X.env = (false, eval b X.env) :: starEach [] X.env := by rfl) (hp : (backTo pos (starEach [b] X.env)).any (·.1) = false := by rfl) : XR C ax X W (.Call (.Name x p) [a, b] [] pos) (mRg2 ma mb) := by
  subst hx
  exact drI (dr_2 hg hm ha hb na nb hp) fun E σ S Q ⟨fx, μ, r, p⟩ => by
    unfold mRg2 at p; rw [post_bind] at p
    refine ⟨fx, μ, r, post_mono (fun x p => ?_) p⟩
    rw [post_bind] at p
    refine ⟨fx, μ, r, post_mono (fun y p => ?_) p⟩
    obtain ⟨i, j, e, q⟩ := p
    cases e
    exact ⟨_, _, rfl, rfl, q⟩
variable {mr : Env → P (D × D)}
def mRgL (m : Env → P (D × D)) : Env → P (List D) := fun μ => bind (m μ) fun p => opt (rngL p.1 p.2)
theorem xe_rgL {x : Str} {p pos : Pos} (hx : x = "list") (hg : Gl X x) (hm : X.mg x = none) (he : XR C ax X W e mr) (hc : X.calm = true) (na : starEach [e] X.env = (false, eval e X.env) :: starEach [] X.env := by rfl) : XE C ax X W (.Call (.Name x p) [e] [] pos) (fun μ => bind (mRgL mr μ) fun xs => .ok (.lst xs) ()) := by
  subst hx
  exact deI (de_rgL hc hg hm he na) fun E σ S Q ⟨fx, μ, r, p⟩ => by
    rw [post_bind] at p; unfold mRgL at p; rw [post_bind] at p
    refine ⟨fx, μ, r, post_mono (fun x p => ?_) p⟩
    obtain ⟨xs, e, q⟩ := post_opt p
    obtain ⟨i, j, e1, e2, ok, rfl⟩ := rngL_ok e
    exact ⟨i, j, Prod.ext e1 e2, ok, q⟩
theorem xe_rgT {x : Str} {p pos : Pos} (hx : x = "tuple") (hg : Gl X x) (hm : X.mg x = none) (he : XR C ax X W e mr) (hc : X.calm = true) (na : starEach [e] X.env = (false, eval e X.env) :: starEach [] X.env := by rfl) : XE C ax X W (.Call (.Name x p) [e] [] pos) (fun μ => bind (mRgL mr μ) fun xs => .ok (.tup xs) ()) := by
  subst hx
  exact deI (de_rgT hc hg hm he na) fun E σ S Q ⟨fx, μ, r, p⟩ => by
    rw [post_bind] at p; unfold mRgL at p; rw [post_bind] at p
    refine ⟨fx, μ, r, post_mono (fun x p => ?_) p⟩
    obtain ⟨xs, e, q⟩ := post_opt p
    obtain ⟨i, j, e1, e2, ok, rfl⟩ := rngL_ok e
    exact ⟨i, j, Prod.ext e1 e2, ok, q⟩
theorem xf_rgL {x : Str} {p pos : Pos} (hx : x = "list") (hg : Gl X x) (hm : X.mg x = none) (he : XR C ax X W e mr) (hc : X.calm = true) (na : starEach [e] X.env = (false, eval e X.env) :: starEach [] X.env := by rfl) : XF C ax X W (.Call (.Name x p) [e] [] pos) (mRgL mr) := by
  subst hx
  exact deI (de_rgM hc hg hm he na) fun E σ S Q ⟨fx, μ, r, p⟩ => by
    unfold mRgL at p; rw [post_bind] at p
    refine ⟨fx, μ, r, post_mono (fun x p => ?_) p⟩
    obtain ⟨xs, e, q⟩ := post_opt p
    obtain ⟨i, j, e1, e2, ok, rfl⟩ := rngL_ok e
    exact ⟨i, j, Prod.ext e1 e2, ok, q⟩
end
theorem e_rngL {i j : Int} (h1 : -4611686018427387904 ≤ i) (h2 : i < 4611686018427387904) (h3 : -4611686018427387904 ≤ j) (h4 : j < 4611686018427387904) (h5 : (j - i).toNat ≤ 16777216) : rngL (.int i) (.int j) = some (rangeD i (j - i).toNat) := if_pos (decide_eq_true ⟨h1, h2, h3, h4, h5⟩)
theorem e_rngLN {k : Nat} (h : k ≤ 16777216) : rngL (.int 0) (.int (k : Nat)) = some (rangeD 0 k) := by
  rw [e_rngL (by omega) (by omega) (by omega) (by omega) (by omega)]
  simp
end KM

set_option maxRecDepth 100000
set_option maxHeartbeats 4000000
/-! Kp4: plain lemmas further: ranges of naturals, rows of texts, loops by suffixes. -/
namespace KM
open PySem PySem.Spec PyProof.Rows L2 KD
def iN (l : List Nat) : List D := l.map fun n => .int (n : Nat)
theorem rangeD_nat {a n : Nat} : rangeD (a : Nat) n = oN (List.range' a n) := by
  unfold rangeD oN
  rw [List.range'_eq_map_range, List.map_map]
  exact List.map_congr_left fun k _ => rfl
theorem e_rng2N {a b : Nat} (ha : a ≤ 16777216) (hb : b ≤ 16777216) : rng2 (.int (a : Nat)) (.int (b : Nat)) = some (oN (List.range' a (b - a))) := by
  rw [e_rng2 (by omega) (by omega) (by omega) (by omega), rangeD_nat, show (((b : Nat) : Int) - (a : Nat)).toNat = b - a by omega]
theorem range0 {n : Nat} : rangeD 0 n = oN (List.range n) := by
  rw [show (0 : Int) = ((0 : Nat) : Int) from rfl, rangeD_nat, List.range_eq_range']
theorem e_neLNil {xs : List D} : neC (.lst xs) (.lst []) = some (!xs.isEmpty) := e_neLN
theorem lcR_all {α : Type} {f : D → P (Option D)} {a : α → D} {p : α → Bool} : ∀ {xs : List α}, (∀ x ∈ xs, f (a x) = .ok (if p x then some (a x) else none) ()) → lcR f (xs.map a) = .ok ((xs.filter p).map a) ()
  | [], _ => rfl
  | x :: xs, h => by
    have := lcR_all (f := f) (a := a) (p := p) (xs := xs) fun y hy => h y (by simp [hy])
    simp only [lcR, List.map_cons, h x (by simp), this, bind_o]
    cases q : p x with
    | true => rw [List.filter_cons_of_pos q]; rfl
    | false => rw [List.filter_cons_of_neg (by simp [q])]; rfl
theorem filter_empty {α : Type} {p : α → Bool} {xs : List α} : (xs.filter p).isEmpty = xs.all fun x => !p x := by
  induction xs with
  | nil => rfl
  | cons x xs ih =>
    rw [List.all_cons]
    cases q : p x with
    | true => rw [List.filter_cons_of_pos q]; rfl
    | false => rw [List.filter_cons_of_neg (by simp [q]), ih]; rfl
theorem map_empty {α : Type} {a : α → D} {xs : List α} : (xs.map a).isEmpty = xs.isEmpty := by cases xs <;> rfl
theorem e_enum {xs : List D} : enumI (.lst xs) = some (numD 0 xs) := congrArg some enum_num
theorem e_enumT {xs : List D} : enumI (.tup xs) = some (numD 0 xs) := congrArg some enum_num
theorem cut_takeI {xs : List D} {i : Int} : ∃ k : Nat, k ≤ xs.length ∧ KD.cutD xs none (some i) = xs.take k := by
  unfold KD.cutD
  rw [HT.sIx_none, List.drop_zero, Nat.sub_zero]
  by_cases h : HT.sIx xs.length xs.length (some i) ≤ xs.length
  · exact ⟨_, h, rfl⟩
  · exact ⟨xs.length, Nat.le_refl _, by rw [List.take_of_length_le (by omega), List.take_length]⟩
theorem e_slLI {xs : List D} {i : Int} : ∃ k : Nat, k ≤ xs.length ∧ slD (.lst xs) none (some i) = some (.lst (xs.take k)) := by
  obtain ⟨k, h, e⟩ := cut_takeI (xs := xs) (i := i)
  exact ⟨k, h, congrArg (fun z => some (D.lst z)) e⟩
theorem e_slTI {xs : List D} {i : Int} : ∃ k : Nat, k ≤ xs.length ∧ slD (.tup xs) none (some i) = some (.tup (xs.take k)) := by
  obtain ⟨k, h, e⟩ := cut_takeI (xs := xs) (i := i)
  exact ⟨k, h, congrArg (fun z => some (D.tup z)) e⟩
theorem e_catN {a b : List Nat} (h : a.length + b.length ≤ 16777216) : catD (.lst (oN a)) (.lst (oN b)) = some (oN (a ++ b)) := by
  rw [e_cat (by rw [oN_len, oN_len]; exact h), oN_app]
theorem e_addNL {a b : List Nat} (h : a.length + b.length ≤ 16777216) : addD (.lst (oN a)) (.lst (oN b)) = some (.lst (oN (a ++ b))) := by
  rw [e_addL (by rw [oN_len, oN_len]; exact h), oN_app]
theorem e_addNT {a b : List Nat} (h : a.length + b.length ≤ 16777216) : addD (.tup (oN a)) (.tup (oN b)) = some (.tup (oN (a ++ b))) := by
  rw [e_addT (by rw [oN_len, oN_len]; exact h), oN_app]
theorem repW_oN {l : List Nat} (h : ∀ n ∈ l, n < 10 ^ 60) : ∀ x ∈ oN l, RepW 0 200 x := fun x hx => by
  obtain ⟨n, hn, rfl⟩ := List.mem_map.mp hx
  exact repW_int (by rw [Int.natAbs_natCast]; exact h n hn)
theorem repW_nat {n : Nat} (h : n < 10 ^ 60) : RepW 0 200 (.int (n : Nat)) := repW_int (by rw [Int.natAbs_natCast]; exact h)
/-! ### numbers in groups of seven bits -/
/-- groups of seven bits -/
def grp (n : Nat) : List Nat := if h : n < 128 then [n] else (n % 128 + 128) :: grp (n / 128)
termination_by n
decreasing_by omega
theorem grp_lo {n : Nat} (h : n < 128) : grp n = [n] := by rw [grp, dif_pos h]
theorem grp_hi {n : Nat} (h : ¬ n < 128) : grp n = (n % 128 + 128) :: grp (n / 128) := by rw [grp, dif_neg h]
theorem grp_len : ∀ {k n : Nat}, n < 128 ^ (k + 1) → (grp n).length ≤ k + 1
  | 0, n, h => by rw [grp_lo (by simpa using h)]; simp
  | k + 1, n, h => by
    by_cases c : n < 128
    · rw [grp_lo c]; simp
    · rw [grp_hi c, List.length_cons]
      have := grp_len (k := k) (n := n / 128) (by
        rw [Nat.pow_succ] at h
        exact Nat.div_lt_of_lt_mul (by rw [Nat.mul_comm]; exact h))
      omega
theorem grp_oct {n : Nat} : ∀ m ∈ grp n, m < 256 := by
  induction n using Nat.strongRecOn with
  | _ n ih =>
    by_cases c : n < 128
    · rw [grp_lo c]; intro m h; simp at h; omega
    · rw [grp_hi c]
      intro m h
      rcases List.mem_cons.mp h with rfl | h
      · omega
      · exact ih (n / 128) (by omega) m h
/-- a number that is read: its value, how many groups it has -/
def rdNum : Nat → Nat → List Nat → Option (Nat × Nat)
  | _, _, [] => none
  | acc, w, g :: r => if g < 128 then (if (g = 0 ∧ 1 < w) ∨ 1000000000000000 < acc + g * w then none else some (acc + g * w, 1)) else match rdNum (acc + (g - 128) * w) (w * 128) r with
    | some (v, c) => some (v, c + 1)
    | none => none
theorem rdNum_grp {rest : List Nat} : ∀ {n acc w : Nat}, acc + n * w ≤ 1000000000000000 → (n = 0 → w ≤ 1) → 0 < w → rdNum acc w (grp n ++ rest) = some (acc + n * w, (grp n).length) := by
  intro n
  induction n using Nat.strongRecOn with
  | _ n ih =>
    intro acc w h h0 hw
    by_cases c : n < 128
    · rw [grp_lo c]
      show rdNum acc w (n :: rest) = _
      rw [rdNum, if_pos c, if_neg (by omega)]; rfl
    · rw [grp_hi c]
      show rdNum acc w ((n % 128 + 128) :: (grp (n / 128) ++ rest)) = _
      have e : acc + (n % 128 + 128 - 128) * w + n / 128 * (w * 128) = acc + n * w := by
        have e1 : n / 128 * (w * 128) = (128 * (n / 128)) * w := by rw [Nat.mul_comm w 128, ← Nat.mul_assoc, Nat.mul_comm (n / 128) 128]
        rw [e1, show n % 128 + 128 - 128 = n % 128 by omega, Nat.add_assoc, ← Nat.add_mul]
        congr 2; omega
      rw [rdNum, if_neg (by omega), ih (n / 128) (by omega) (by rw [e]; exact h) (by omega) (by omega), e, List.length_cons]
end KM

set_option Elab.async false
set_option linter.all false
set_option maxRecDepth 100000
set_option maxHeartbeats 4000000
namespace Lw
open PySem PySem.Spec PyProof.Rows L2 KD KM
def topS (i : Nat) : Stmt := PySem.Challenge.pw_sparehouses_k26_octets_read_or_refused.main.body.getD i (.Pass ⟨0, 0, 0, 0⟩)
abbrev T_errs : List Str := ["BadOctets"]
abbrev U_errs : List Str := ["BadOctets"]
def m_is_integer (v_thing : D) : P D :=
  (got (bind (bind (opt (isiD v_thing (D.ty "int"))) fun t1689 => (if t1689 then (bind (opt (isiD v_thing (D.ty "bool"))) fun t1688 => (.ok (!t1688) ())) else .ok false ())) fun b1690 => .ok (.bl b1690) ()) (fun t1691 _ => (.ok t1691 ())) (fun c fs _ => (.er c fs ())) .bad)
def m_is_within (v_thing : D) (v_least : D) (v_most : D) : P D :=
  (got (bind (bind (bind (m_is_integer v_thing) fun t1696 => (opt (asB t1696))) fun t1698 => (if t1698 then (bind (opt (leD v_least v_thing)) fun t1697 => (if t1697 then (opt (leD v_thing v_most)) else .ok false ())) else .ok false ())) fun b1699 => .ok (.bl b1699) ()) (fun t1700 _ => (.ok t1700 ())) (fun c fs _ => (.er c fs ())) .bad)
def m_is_octet (v_thing : D) : P D :=
  (got (bind (bind (bind (m_is_integer v_thing) fun t1705 => (opt (asB t1705))) fun t1707 => (if t1707 then (bind (opt (leD (D.int 0) v_thing)) fun t1706 => (if t1706 then (opt (leD v_thing (D.int 255))) else .ok false ())) else .ok false ())) fun b1708 => .ok (.bl b1708) ()) (fun t1709 _ => (.ok t1709 ())) (fun c fs _ => (.er c fs ())) .bad)
def m_is_row (v_thing : D) : P D :=
  (got (bind (opt (isiD v_thing (D.tup [(D.ty "list"), (D.ty "tuple")]))) fun b1711 => .ok (.bl b1711) ()) (fun t1712 _ => (.ok t1712 ())) (fun c fs _ => (.er c fs ())) .bad)
def m_checked_octets (v_thing : D) : P D :=
  (got (bind (bind (m_is_row v_thing) fun t1717 => (opt (truD t1717))) fun t1718 => (.ok (!t1718) ())) (fun t1719 _ => (if t1719 then (got (opt (negD (D.int 1))) (fun t1720 _ => (.er "BadOctets" [("value", t1720)] ())) (fun c fs _ => (.er c fs ())) .bad) else (got (opt (enumI v_thing)) (fun t1728 _ => (outB (loopB (fun s1721 x1722 => (un2 x1722 (fun x1723 x1724 => (got (bind (bind (m_is_octet x1724) fun t1725 => (opt (truD t1725))) fun t1726 => (.ok (!t1726) ())) (fun t1727 _ => (if t1727 then (.er "BadOctets" [("value", x1723)] (())) else (.nx (())))) (fun c fs _ => (.er c fs (()))) .bad)) .bad)) t1728 (())) (fun s1729 => (got (opt (tupleD v_thing)) (fun t1735 _ => (.ok t1735 ())) (fun c fs _ => (.er c fs ())) .bad)) (fun s1730 => .bad) (fun s1731 => .bad) (fun t1734 s1732 => (.ok t1734 ())) (fun c fs s1733 => (.er c fs ())) .bad)) (fun c fs _ => (.er c fs ())) .bad))) (fun c fs _ => (.er c fs ())) .bad)
def m_number_from (v_octets : D) (v_at : D) : P D :=
  (outB (whileB (fun s1740 => (bind (opt (lenD v_octets)) fun t1743 => (opt (ltD s1740.2.2.1 t1743)))) (fun e fs s1741 => (.er e fs (()))) (fun s1742 => (got (opt (ixD v_octets s1742.2.2.1)) (fun t1744 _ => (gotO (addI s1742.2.2.1 (D.int 1)) (fun t1745 => (got (opt (ltD t1744 (D.int 128))) (fun t1746 _ => (if t1746 then (got (opt (mulD t1744 s1742.2.1)) (fun t1747 _ => (gotO (addI s1742.1 t1747) (fun t1748 => (got (bind (bind (opt (eqC t1744 (D.int 0))) fun t1749 => (if t1749 then (opt (gtD s1742.2.1 (D.int 1))) else .ok false ())) fun t1750 => (if t1750 then .ok true () else (opt (gtD t1748 (D.int 1000000000000000))))) (fun t1751 _ => (if t1751 then (.er "BadOctets" [("value", v_at)] (())) else (.rt (D.tup [t1748, t1745]) (())))) (fun c fs _ => (.er c fs (()))) .bad)) .bad)) (fun c fs _ => (.er c fs (()))) .bad) else (got (bind (opt (subD t1744 (D.int 128))) fun t1752 => (opt (mulD t1752 s1742.2.1))) (fun t1753 _ => (gotO (addI s1742.1 t1753) (fun t1754 => (got (opt (mulD s1742.2.1 (D.int 128))) (fun t1755 _ => (.nx (t1754, t1755, t1745, ()))) (fun c fs _ => (.er c fs (()))) .bad)) .bad)) (fun c fs _ => (.er c fs (()))) .bad))) (fun c fs _ => (.er c fs (()))) .bad)) .bad)) (fun c fs _ => (.er c fs (()))) .bad)) fuelN ((D.int 0), (D.int 1), v_at, ())) (fun s1756 => (.er "BadOctets" [("value", v_at)] ())) (fun s1757 => .bad) (fun s1758 => .bad) (fun t1761 s1759 => (.ok t1761 ())) (fun c fs s1760 => (.er c fs ())) .bad)
def m_row_from (v_octets : D) (v_at : D) : P D :=
  (got (m_number_from v_octets v_at) (fun t1769 _ => (un2 t1769 (fun x1770 x1771 => (got (bind (opt (addD x1771 x1770)) fun t1772 => (bind (opt (lenD v_octets)) fun t1773 => (opt (gtD t1772 t1773)))) (fun t1774 _ => (if t1774 then (.er "BadOctets" [("value", v_at)] ()) else (got (bind (bind (bind (opt (intOf x1771)) fun i => .ok (some i) ()) fun t1776 => (bind (bind (opt (addD x1771 x1770)) fun t1775 => (bind (opt (intOf t1775)) fun i => .ok (some i) ())) fun t1777 => (opt (slD v_octets t1776 t1777)))) fun t1778 => (bind (opt (addD x1771 x1770)) fun t1779 => (.ok (D.tup [t1778, t1779]) ()))) (fun t1780 _ => (.ok t1780 ())) (fun c fs _ => (.er c fs ())) .bad))) (fun c fs _ => (.er c fs ())) .bad)) .bad)) (fun c fs _ => (.er c fs ())) .bad)
def m_sign_of (v_code : D) : P D :=
  (got (bind (bind (bind (opt (leD (D.int 32) v_code)) fun t1786 => (if t1786 then (opt (leD v_code (D.int 126))) else .ok false ())) fun t1787 => (.ok (!t1787) ())) fun t1788 => (if t1788 then .ok true () else (opt (eqC v_code (D.int 37))))) (fun t1789 _ => (if t1789 then (.ok (D.str "") ()) else (got (opt (ltD v_code (D.int 37))) (fun t1790 _ => (if t1790 then (got (bind (opt (subD v_code (D.int 32))) fun t1791 => (opt (ixD (D.str " !\"#$&'()*+,-./0123456789:;<=>?@ABCDEFGHIJKLMNOPQRSTUVWXYZ[\\]^_`abcdefghijklmnopqrstuvwxyz{|}~") t1791))) (fun t1792 _ => (.ok t1792 ())) (fun c fs _ => (.er c fs ())) .bad) else (got (bind (opt (subD v_code (D.int 33))) fun t1793 => (opt (ixD (D.str " !\"#$&'()*+,-./0123456789:;<=>?@ABCDEFGHIJKLMNOPQRSTUVWXYZ[\\]^_`abcdefghijklmnopqrstuvwxyz{|}~") t1793))) (fun t1794 _ => (.ok t1794 ())) (fun c fs _ => (.er c fs ())) .bad))) (fun c fs _ => (.er c fs ())) .bad))) (fun c fs _ => (.er c fs ())) .bad)
def m_text_from (v_octets : D) (v_at : D) : P D :=
  (got (m_row_from v_octets v_at) (fun t1798 _ => (un2 t1798 (fun x1799 x1800 => (got (bind (bind (opt (iterD x1799)) fun t1802 => (chkR (mapR (fun x1801 => (noer (m_sign_of x1801))) t1802))) fun ys => .ok (.lst ys) ()) (fun t1803 _ => (got (opt (inC (D.str "") t1803)) (fun t1804 _ => (if t1804 then (.er "BadOctets" [("value", v_at)] ()) else (got (bind (KM.guard (isTy "str" (D.str "")) (opt (joinD (D.str "") t1803)) .bad) fun t1805 => (.ok (D.tup [t1805, x1800]) ())) (fun t1806 _ => (.ok t1806 ())) (fun c fs _ => (.er c fs ())) .bad))) (fun c fs _ => (.er c fs ())) .bad)) (fun c fs _ => (.er c fs ())) .bad)) .bad)) (fun c fs _ => (.er c fs ())) .bad)
def m_check_index (v_octets : D) (v_at : D) : P D :=
  (got (m_checked_octets v_octets) (fun t1810 _ => (got (bind (bind (bind (opt (lenD t1810)) fun t1811 => (m_is_within v_at (D.int 0) t1811)) fun t1812 => (opt (truD t1812))) fun t1813 => (.ok (!t1813) ())) (fun t1814 _ => (if t1814 then (.er "BadOctets" [("value", v_at)] ()) else (.ok t1810 ()))) (fun c fs _ => (.er c fs ())) .bad)) (fun c fs _ => (.er c fs ())) .bad)
def m_read_number (v_octets : D) (v_at : D) : P D :=
  (got (bind (m_check_index v_octets v_at) fun t1816 => (m_number_from t1816 v_at)) (fun t1817 _ => (.ok t1817 ())) (fun c fs _ => (.er c fs ())) .bad)
def m_read_row (v_octets : D) (v_at : D) : P D :=
  (got (bind (m_check_index v_octets v_at) fun t1819 => (m_row_from t1819 v_at)) (fun t1820 _ => (.ok t1820 ())) (fun c fs _ => (.er c fs ())) .bad)
def m_read_text (v_octets : D) (v_at : D) : P D :=
  (got (bind (m_check_index v_octets v_at) fun t1822 => (m_text_from t1822 v_at)) (fun t1823 _ => (.ok t1823 ())) (fun c fs _ => (.er c fs ())) .bad)
def m__law_taken (v_row : List D) (v_many : D) : R (List D × Unit) D :=
  (got (bind (opt (ixD (D.lst v_row) (D.int 3))) fun t1849 => (opt (gtD t1849 (D.int 0)))) (fun t1850 _ => (if t1850 then (got (bind (bind (opt (ixD (D.lst v_row) (D.int 3))) fun t1851 => (opt (intD t1851))) fun t1852 => (opt (modD t1852 v_many))) (fun t1853 _ => (got (bind (opt (ixD (D.lst v_row) (D.int 3))) fun t1854 => (opt (fdivD t1854 v_many))) (fun t1855 _ => (gotO (ixW v_row.length (D.int 3)) (fun i1856 => (.ok t1853 ((v_row.set i1856 t1855), ()))) .bad)) (fun c fs _ => (.er c fs (v_row, ()))) .bad)) (fun c fs _ => (.er c fs (v_row, ()))) .bad) else (got (bind (opt (ixD (D.lst v_row) (D.int 1))) fun t1857 => (opt (addD t1857 (D.int 1)))) (fun t1858 _ => (gotO (ixW v_row.length (D.int 1)) (fun i1859 => (got (bind (opt (ixD (D.lst (v_row.set i1859 t1858)) (D.int 1))) fun t1861 => (bind (bind (opt (ixD (D.lst (v_row.set i1859 t1858)) (D.int 0))) fun t1860 => (opt (lenD t1860))) fun t1862 => (opt (gtD t1861 t1862)))) (fun t1863 _ => (if t1863 then (got (bind (bind (bind (bind (opt (ixD (D.lst (v_row.set i1859 t1858)) (D.int 2))) fun t1864 => (opt (mulD t1864 (D.int 48271)))) fun t1865 => (opt (addD t1865 (D.int 11)))) fun t1866 => (opt (intD t1866))) fun t1867 => (opt (modD t1867 (D.int 2147483647)))) (fun t1868 _ => (gotO (ixW (v_row.set i1859 t1858).length (D.int 2)) (fun i1869 => (got (bind (bind (bind (opt (ixD (D.lst ((v_row.set i1859 t1858).set i1869 t1868)) (D.int 2))) fun t1870 => (opt (fdivD t1870 (D.int 7)))) fun t1871 => (opt (intD t1871))) fun t1872 => (opt (modD t1872 v_many))) (fun t1873 _ => (.ok t1873 (((v_row.set i1859 t1858).set i1869 t1868), ()))) (fun c fs _ => (.er c fs (((v_row.set i1859 t1858).set i1869 t1868), ()))) .bad)) .bad)) (fun c fs _ => (.er c fs ((v_row.set i1859 t1858), ()))) .bad) else (got (bind (opt (ixD (D.lst (v_row.set i1859 t1858)) (D.int 0))) fun t1875 => (bind (bind (opt (ixD (D.lst (v_row.set i1859 t1858)) (D.int 1))) fun t1874 => (opt (subD t1874 (D.int 1)))) fun t1876 => (opt (ixD t1875 t1876)))) (fun t1877 _ => (got (bind (bind (bind (bind (bind (opt (ixD (D.lst (v_row.set i1859 t1858)) (D.int 2))) fun t1878 => (opt (mulD t1878 (D.int 48271)))) fun t1879 => (opt (addD t1879 t1877))) fun t1880 => (opt (addD t1880 (D.int 11)))) fun t1881 => (opt (intD t1881))) fun t1882 => (opt (modD t1882 (D.int 2147483647)))) (fun t1883 _ => (gotO (ixW (v_row.set i1859 t1858).length (D.int 2)) (fun i1884 => (outB (got (bind (opt (powD (D.int 10) (D.int 18))) fun t1885 => (opt (geD t1877 t1885))) (fun t1886 _ => (if t1886 then (got (opt (fdivD t1877 v_many)) (fun t1887 _ => (gotO (ixW ((v_row.set i1859 t1858).set i1884 t1883).length (D.int 3)) (fun i1888 => (.nx ((((v_row.set i1859 t1858).set i1884 t1883).set i1888 t1887), ()))) .bad)) (fun c fs _ => (.er c fs (((v_row.set i1859 t1858).set i1884 t1883), ()))) .bad) else (.nx (((v_row.set i1859 t1858).set i1884 t1883), ())))) (fun c fs _ => (.er c fs (((v_row.set i1859 t1858).set i1884 t1883), ()))) .bad) (fun s1889 => (got (bind (opt (intD t1877)) fun t1895 => (opt (modD t1895 v_many))) (fun t1896 _ => (.ok t1896 (s1889.1, ()))) (fun c fs _ => (.er c fs (s1889.1, ()))) .bad)) (fun s1890 => .bad) (fun s1891 => .bad) (fun t1894 s1892 => (.ok t1894 (s1892.1, ()))) (fun c fs s1893 => (.er c fs (s1893.1, ()))) .bad)) .bad)) (fun c fs _ => (.er c fs ((v_row.set i1859 t1858), ()))) .bad)) (fun c fs _ => (.er c fs ((v_row.set i1859 t1858), ()))) .bad))) (fun c fs _ => (.er c fs ((v_row.set i1859 t1858), ()))) .bad)) .bad)) (fun c fs _ => (.er c fs (v_row, ()))) .bad))) (fun c fs _ => (.er c fs (v_row, ()))) .bad)
def pk__law_taken : List Pk := [.l, .v]
def i__law_taken (vs : List D) (c : Ct pk__law_taken) : R (Ct pk__law_taken) D := match vs with
  | [v_many] => m__law_taken c.1 v_many
  | _ => .bad
def m__law_pick (v_row : List D) (v_some : D) : R (List D × Unit) D :=
  (got (opt (lenD v_some)) (fun t1897 _ => (got (m__law_taken v_row t1897) (fun t1899 s1898 => (gotO (ixD v_some t1899) (fun t1901 => (.ok t1901 (s1898.1, ()))) .bad)) (fun c fs s1900 => (.er c fs (s1900.1, ()))) .bad)) (fun c fs _ => (.er c fs (v_row, ()))) .bad)
def pk__law_pick : List Pk := [.l, .v]
def i__law_pick (vs : List D) (c : Ct pk__law_pick) : R (Ct pk__law_pick) D := match vs with
  | [v_some] => m__law_pick c.1 v_some
  | _ => .bad
def m__law_alike (n : Nat) : D → D → P D := match n with
  | 0 => fun _ _ => .bad
  | n + 1 => fun v_found v_due => (got (opt (isiD v_due (D.tup [(D.ty "tuple"), (D.ty "list")]))) (fun t1944 _ => (if t1944 then (got (bind (bind (opt (isiD v_found (D.tup [(D.ty "tuple"), (D.ty "list")]))) fun t1945 => (.ok (!t1945) ())) fun t1950 => (if t1950 then .ok true () else (bind (bind (opt (isiD v_found (D.ty "list"))) fun b1946 => .ok (.bl b1946) ()) fun t1948 => (bind (bind (opt (isiD v_due (D.ty "list"))) fun b1947 => .ok (.bl b1947) ()) fun t1949 => (opt (neC t1948 t1949)))))) (fun t1951 _ => (if t1951 then (.ok (D.bl false) ()) else (got (bind (opt (lenD v_found)) fun t1952 => (bind (opt (lenD v_due)) fun t1953 => (opt (neC t1952 t1953)))) (fun t1954 _ => (if t1954 then (.ok (D.bl false) ()) else (got (bind (bind (bind (bind (bind (opt (lenD v_due)) fun t1955 => (opt (rng1 t1955))) fun t1961 => (chkR (lcR (fun x1956 => (bind (noer (bind (bind (bind (opt (ixD v_found x1956)) fun t1957 => (bind (opt (ixD v_due x1956)) fun t1958 => (m__law_alike n t1957 t1958))) fun t1959 => (opt (truD t1959))) fun t1960 => (.ok (!t1960) ()))) fun b => if b then (bind (noer (.ok x1956 ())) fun d => .ok (some d) ()) else .ok none ())) t1961))) fun ys => .ok (.lst ys) ()) fun t1962 => (opt (eqC t1962 (D.lst [])))) fun b1963 => .ok (.bl b1963) ()) (fun t1964 _ => (.ok t1964 ())) (fun c fs _ => (.er c fs ())) .bad))) (fun c fs _ => (.er c fs ())) .bad))) (fun c fs _ => (.er c fs ())) .bad) else (got (opt (isiD v_due (D.ty "dict"))) (fun t1965 _ => (if t1965 then (got (bind (bind (opt (isiD v_found (D.ty "dict"))) fun t1966 => (.ok (!t1966) ())) fun t1969 => (if t1969 then .ok true () else (bind (opt (listD v_found)) fun t1967 => (bind (opt (listD v_due)) fun t1968 => (opt (neC t1967 t1968)))))) (fun t1970 _ => (if t1970 then (.ok (D.bl false) ()) else (got (bind (bind (bind (bind (opt (iterD v_due)) fun t1976 => (chkR (lcR (fun x1971 => (bind (noer (bind (bind (bind (opt (ixD v_found x1971)) fun t1972 => (bind (opt (ixD v_due x1971)) fun t1973 => (m__law_alike n t1972 t1973))) fun t1974 => (opt (truD t1974))) fun t1975 => (.ok (!t1975) ()))) fun b => if b then (bind (noer (.ok x1971 ())) fun d => .ok (some d) ()) else .ok none ())) t1976))) fun ys => .ok (.lst ys) ()) fun t1977 => (opt (eqC t1977 (D.lst [])))) fun b1978 => .ok (.bl b1978) ()) (fun t1979 _ => (.ok t1979 ())) (fun c fs _ => (.er c fs ())) .bad))) (fun c fs _ => (.er c fs ())) .bad) else (got (if (isNon v_due) then .ok true () else (opt (isiD v_due (D.ty "str")))) (fun t1980 _ => (if t1980 then (got (bind (bind (opt (eqC v_found v_due)) fun t1985 => (if t1985 then (bind (bind (opt (isiD v_found (D.ty "str"))) fun b1981 => .ok (.bl b1981) ()) fun t1983 => (bind (bind (opt (isiD v_due (D.ty "str"))) fun b1982 => .ok (.bl b1982) ()) fun t1984 => (opt (eqC t1983 t1984)))) else .ok false ())) fun b1986 => .ok (.bl b1986) ()) (fun t1987 _ => (.ok t1987 ())) (fun c fs _ => (.er c fs ())) .bad) else (got (bind (bind (opt (isiD v_found (D.ty "int"))) fun t1993 => (if t1993 then (bind (bind (bind (opt (isiD v_found (D.ty "bool"))) fun b1988 => .ok (.bl b1988) ()) fun t1990 => (bind (bind (opt (isiD v_due (D.ty "bool"))) fun b1989 => .ok (.bl b1989) ()) fun t1991 => (opt (eqC t1990 t1991)))) fun t1992 => (if t1992 then (opt (eqC v_found v_due)) else .ok false ())) else .ok false ())) fun b1994 => .ok (.bl b1994) ()) (fun t1995 _ => (.ok t1995 ())) (fun c fs _ => (.er c fs ())) .bad))) (fun c fs _ => (.er c fs ())) .bad))) (fun c fs _ => (.er c fs ())) .bad))) (fun c fs _ => (.er c fs ())) .bad)
def m__law_octets (v_row : List D) (v_most : D) : R (List D × Unit) D :=
  (got (opt (addD v_most (D.int 1))) (fun t1999 _ => (got (m__law_taken v_row t1999) (fun t2001 s2000 => (got (m__law_taken s2000.1 (D.int 4)) (fun t2004 s2003 => (got (opt (rng1 (D.int 2))) (fun t2006 _ => (got (lcS (fun x2007 s2008 => (if true then (got (m__law_taken s2008.1 (D.int 256)) (fun t2010 s2009 => (.ok (some t2010) (s2009.1, ()))) (fun c fs s2011 => .bad) .bad) else .ok none (s2008.1, ()))) t2006 (s2003.1, ())) (fun ys2012 s2013 => KM.guard (sizeB ys2012.length) (outB (whileB (fun s2014 => (bind (opt (lenD (D.lst s2014.2.1))) fun t2017 => (opt (ltD t2017 t2001)))) (fun e fs s2015 => (.er e fs (s2015.1, ()))) (fun s2016 => (outB (got (opt (eqC t2004 (D.int 0))) (fun t2018 _ => (if t2018 then (got (m__law_taken s2016.1 (D.int 256)) (fun t2020 s2019 => (KM.guard (sizeB (s2016.2.1.length + 1)) (.nx (s2019.1, (s2016.2.1 ++ [t2020]), ())) .bad)) (fun c fs s2021 => (.er c fs (s2021.1, ()))) .bad) else (outB (got (opt (eqC t2004 (D.int 1))) (fun t2022 _ => (if t2022 then (got (m__law_taken s2016.1 (D.int 2)) (fun t2024 s2023 => (gotO (ixD (D.lst ys2012) t2024) (fun t2026 => (KM.guard (sizeB (s2016.2.1.length + 1)) (.nx (s2023.1, (s2016.2.1 ++ [t2026]), ())) .bad)) .bad)) (fun c fs s2025 => (.er c fs (s2025.1, ()))) .bad) else (got (opt (addD (D.lst ys2012) (D.lst [(D.int 0), (D.int 255)]))) (fun t2027 _ => (got (m__law_pick s2016.1 t2027) (fun t2029 s2028 => (got (m__law_taken s2028.1 (D.int 7)) (fun t2032 s2031 => (gotO (addD (D.int 1) t2032) (fun t2034 => (gotO (mulD (D.lst [t2029]) t2034) (fun t2035 => (gotO (catD (D.lst s2016.2.1) t2035) (fun t2036 => (.nx (s2031.1, t2036, ()))) .bad)) .bad)) .bad)) (fun c fs s2033 => (.er c fs (s2033.1, ()))) .bad)) (fun c fs s2030 => (.er c fs (s2030.1, ()))) .bad)) (fun c fs _ => (.er c fs (s2016.1, ()))) .bad))) (fun c fs _ => (.er c fs (s2016.1, ()))) .bad) (fun s2037 => (.nx (s2037.1, s2037.2.1, ()))) (fun s2038 => (.bk (s2038.1, s2038.2.1, ()))) (fun s2039 => (.ct (s2039.1, s2039.2.1, ()))) (fun t2042 s2040 => (.rt t2042 (s2040.1, ()))) (fun c fs s2041 => (.er c fs (s2041.1, ()))) .bad))) (fun c fs _ => (.er c fs (s2016.1, ()))) .bad) (fun s2043 => (.nx (s2043.1, s2043.2.1, ()))) (fun s2044 => (.bk (s2044.1, s2044.2.1, ()))) (fun s2045 => (.ct (s2045.1, s2045.2.1, ()))) (fun t2048 s2046 => (.rt t2048 (s2046.1, ()))) (fun c fs s2047 => (.er c fs (s2047.1, ()))) .bad)) fuelN (s2013.1, [], ())) (fun s2049 => (got (bind (bind (bind (opt (intOf t2001)) fun i => .ok (some i) ()) fun t2055 => (opt (slD (D.lst s2049.2.1) none t2055))) fun t2056 => (opt (tupleD t2056))) (fun t2057 _ => (.ok t2057 (s2049.1, ()))) (fun c fs _ => (.er c fs (s2049.1, ()))) .bad)) (fun s2050 => .bad) (fun s2051 => .bad) (fun t2054 s2052 => (.ok t2054 (s2052.1, ()))) (fun c fs s2053 => (.er c fs (s2053.1, ()))) .bad) .bad) (fun _ _ _ => .bad) .bad)) (fun c fs _ => (.er c fs (s2003.1, ()))) .bad)) (fun c fs s2005 => (.er c fs (s2005.1, ()))) .bad)) (fun c fs s2002 => (.er c fs (s2002.1, ()))) .bad)) (fun c fs _ => (.er c fs (v_row, ()))) .bad)
def pk__law_octets : List Pk := [.l, .v]
def i__law_octets (vs : List D) (c : Ct pk__law_octets) : R (Ct pk__law_octets) D := match vs with
  | [v_most] => m__law_octets c.1 v_most
  | _ => .bad
def m__law_number (v_row : List D) : R (List D × Unit) D :=
  (got (m__law_taken v_row (D.int 6)) (fun t2062 s2061 => (got (opt (eqC t2062 (D.int 0))) (fun t2064 _ => (if t2064 then (got (m__law_taken s2061.1 (D.int 300)) (fun t2066 s2065 => (.ok t2066 (s2065.1, ()))) (fun c fs s2067 => (.er c fs (s2067.1, ()))) .bad) else (got (opt (eqC t2062 (D.int 1))) (fun t2068 _ => (if t2068 then (got (m__law_pick s2061.1 (D.lst [(D.int 128), (D.int 16384), (D.int 2097152), (D.int 268435456), (D.int 34359738368), (D.int 4398046511104), (D.int 562949953421312)])) (fun t2070 s2069 => (got (m__law_taken s2069.1 (D.int 3)) (fun t2073 s2072 => (gotO (subD t2070 t2073) (fun t2075 => (.ok t2075 (s2072.1, ()))) .bad)) (fun c fs s2074 => (.er c fs (s2074.1, ()))) .bad)) (fun c fs s2071 => (.er c fs (s2071.1, ()))) .bad) else (got (opt (eqC t2062 (D.int 2))) (fun t2076 _ => (if t2076 then (got (opt (powD (D.int 10) (D.int 15))) (fun t2077 _ => (got (m__law_taken s2061.1 (D.int 3)) (fun t2079 s2078 => (gotO (subD t2077 t2079) (fun t2081 => (.ok t2081 (s2078.1, ()))) .bad)) (fun c fs s2080 => (.er c fs (s2080.1, ()))) .bad)) (fun c fs _ => (.er c fs (s2061.1, ()))) .bad) else (got (m__law_taken s2061.1 (D.int 2147483647)) (fun t2083 s2082 => (gotO (mulD t2083 (D.int 1000003)) (fun t2085 => (got (m__law_taken s2082.1 (D.int 1000003)) (fun t2087 s2086 => (gotO (addD t2085 t2087) (fun t2089 => (gotO (intD t2089) (fun t2090 => (got (bind (opt (powD (D.int 10) (D.int 6))) fun t2091 => (bind (opt (powD (D.int 10) (D.int 9))) fun t2092 => (bind (opt (powD (D.int 10) (D.int 15))) fun t2093 => (.ok (D.lst [(D.int 1000), t2091, t2092, t2093]) ())))) (fun t2094 _ => (got (m__law_pick s2086.1 t2094) (fun t2096 s2095 => (gotO (modD t2090 t2096) (fun t2098 => (.ok t2098 (s2095.1, ()))) .bad)) (fun c fs s2097 => (.er c fs (s2097.1, ()))) .bad)) (fun c fs _ => (.er c fs (s2086.1, ()))) .bad)) .bad)) .bad)) (fun c fs s2088 => (.er c fs (s2088.1, ()))) .bad)) .bad)) (fun c fs s2084 => (.er c fs (s2084.1, ()))) .bad))) (fun c fs _ => (.er c fs (s2061.1, ()))) .bad))) (fun c fs _ => (.er c fs (s2061.1, ()))) .bad))) (fun c fs _ => (.er c fs (s2061.1, ()))) .bad)) (fun c fs s2063 => (.er c fs (s2063.1, ()))) .bad)
def pk__law_number : List Pk := [.l]
def i__law_number (vs : List D) (c : Ct pk__law_number) : R (Ct pk__law_number) D := match vs with
  | [] => m__law_number c.1
  | _ => .bad
def m__law_groups (v_number : D) : P D :=
  (got (bind (bind (opt (intD v_number)) fun t2103 => (opt (modD t2103 (D.int 128)))) fun t2104 => (.ok [t2104] ())) (fun t2105 _ => (got (opt (fdivD v_number (D.int 128))) (fun t2106 _ => (got (opt (rng1 (D.int 9))) (fun t2122 _ => (outB (loopB (fun s2107 x2108 => (outB (got (opt (gtD s2107.1 (D.int 0))) (fun t2109 _ => (if t2109 then (got (bind (opt (ixD (D.lst s2107.2.1) x2108)) fun t2110 => (opt (addD t2110 (D.int 128)))) (fun t2111 _ => (gotO (ixW s2107.2.1.length x2108) (fun i2112 => (got (bind (opt (intD s2107.1)) fun t2113 => (opt (modD t2113 (D.int 128)))) (fun t2114 _ => (KM.guard (sizeB ((s2107.2.1.set i2112 t2111).length + 1)) (got (opt (fdivD s2107.1 (D.int 128))) (fun t2115 _ => (.nx (t2115, ((s2107.2.1.set i2112 t2111) ++ [t2114]), ()))) (fun c fs _ => (.er c fs (()))) .bad) .bad)) (fun c fs _ => (.er c fs (()))) .bad)) .bad)) (fun c fs _ => (.er c fs (()))) .bad) else (.nx (s2107.1, s2107.2.1, ())))) (fun c fs _ => (.er c fs (()))) .bad) (fun s2116 => (.nx (s2116.1, s2116.2.1, ()))) (fun s2117 => (.bk (s2117.1, s2117.2.1, ()))) (fun s2118 => (.ct (s2118.1, s2118.2.1, ()))) (fun t2121 s2119 => (.rt t2121 (()))) (fun c fs s2120 => (.er c fs (()))) .bad)) t2122 (t2106, t2105, ())) (fun s2123 => (.ok (D.lst s2123.2.1) ())) (fun s2124 => .bad) (fun s2125 => .bad) (fun t2128 s2126 => (.ok t2128 ())) (fun c fs s2127 => (.er c fs ())) .bad)) (fun c fs _ => (.er c fs ())) .bad)) (fun c fs _ => (.er c fs ())) .bad)) (fun c fs _ => (.er c fs ())) .bad)
def m__law_number_at (v_octets : D) (v_at : D) : P D :=
  (un2 (D.tup [(D.int 0), (D.int 1)]) (fun x2141 x2142 => (got (bind (opt (lenD v_octets)) fun t2143 => (opt (rng2 v_at t2143))) (fun t2163 _ => (outB (loopB (fun s2144 x2145 => (got (bind (opt (ixD v_octets x2145)) fun t2146 => (opt (geD t2146 (D.int 128)))) (fun t2147 _ => (if t2147 then (got (bind (bind (bind (opt (ixD v_octets x2145)) fun t2148 => (opt (subD t2148 (D.int 128)))) fun t2149 => (opt (mulD t2149 s2144.2.1))) fun t2150 => (opt (addD s2144.1 t2150))) (fun t2151 _ => (got (opt (mulD s2144.2.1 (D.int 128))) (fun t2152 _ => (.ct (t2151, t2152, ()))) (fun c fs _ => (.er c fs (()))) .bad)) (fun c fs _ => (.er c fs (()))) .bad) else (got (bind (bind (opt (ixD v_octets x2145)) fun t2153 => (opt (mulD t2153 s2144.2.1))) fun t2154 => (opt (addD s2144.1 t2154))) (fun t2155 _ => (got (bind (bind (opt (powD (D.int 10) (D.int 15))) fun t2156 => (opt (gtD t2155 t2156))) fun t2159 => (if t2159 then .ok true () else (bind (bind (opt (ixD v_octets x2145)) fun t2157 => (opt (eqC t2157 (D.int 0)))) fun t2158 => (if t2158 then (opt (gtD x2145 v_at)) else .ok false ())))) (fun t2160 _ => (if t2160 then (.rt D.non (())) else (got (bind (opt (addD x2145 (D.int 1))) fun t2161 => (.ok (D.tup [t2155, t2161]) ())) (fun t2162 _ => (.rt t2162 (()))) (fun c fs _ => (.er c fs (()))) .bad))) (fun c fs _ => (.er c fs (()))) .bad)) (fun c fs _ => (.er c fs (()))) .bad))) (fun c fs _ => (.er c fs (()))) .bad)) t2163 (x2141, x2142, ())) (fun s2164 => (.ok D.non ())) (fun s2165 => .bad) (fun s2166 => .bad) (fun t2169 s2167 => (.ok t2169 ())) (fun c fs s2168 => (.er c fs ())) .bad)) (fun c fs _ => (.er c fs ())) .bad)) .bad)
def m__law_row_at (v_octets : D) (v_at : D) : P D :=
  (got (m__law_number_at v_octets v_at) (fun t2185 _ => (got (if (isNon t2185) then .ok true () else (bind (bind (opt (ixD t2185 (D.int 1))) fun t2186 => (bind (opt (ixD t2185 (D.int 0))) fun t2187 => (opt (addD t2186 t2187)))) fun t2188 => (bind (opt (lenD v_octets)) fun t2189 => (opt (gtD t2188 t2189))))) (fun t2190 _ => (if t2190 then (.ok D.non ()) else (got (bind (bind (bind (bind (opt (ixD t2185 (D.int 1))) fun t2191 => (bind (opt (intOf t2191)) fun i => .ok (some i) ())) fun t2195 => (bind (bind (bind (opt (ixD t2185 (D.int 1))) fun t2192 => (bind (opt (ixD t2185 (D.int 0))) fun t2193 => (opt (addD t2192 t2193)))) fun t2194 => (bind (opt (intOf t2194)) fun i => .ok (some i) ())) fun t2196 => (opt (slD v_octets t2195 t2196)))) fun t2197 => (opt (tupleD t2197))) fun t2200 => (bind (bind (opt (ixD t2185 (D.int 1))) fun t2198 => (bind (opt (ixD t2185 (D.int 0))) fun t2199 => (opt (addD t2198 t2199)))) fun t2201 => (.ok (D.tup [t2200, t2201]) ()))) (fun t2202 _ => (.ok t2202 ())) (fun c fs _ => (.er c fs ())) .bad))) (fun c fs _ => (.er c fs ())) .bad)) (fun c fs _ => (.er c fs ())) .bad)
def m__law_text_at (v_octets : D) (v_at : D) : P D :=
  (got (m__law_row_at v_octets v_at) (fun t2220 _ => (got (if (isNon t2220) then .ok true () else (bind (bind (bind (bind (opt (ixD t2220 (D.int 0))) fun t2221 => (opt (iterD t2221))) fun t2225 => (chkR (lcR (fun x2222 => (bind (noer (bind (opt (ltD x2222 (D.int 32))) fun t2224 => (if t2224 then .ok true () else (bind (opt (gtD x2222 (D.int 126))) fun t2223 => (if t2223 then .ok true () else (opt (eqC x2222 (D.int 37)))))))) fun b => if b then (bind (noer (.ok x2222 ())) fun d => .ok (some d) ()) else .ok none ())) t2225))) fun ys => .ok (.lst ys) ()) fun t2226 => (opt (neC t2226 (D.lst []))))) (fun t2227 _ => (if t2227 then (.ok D.non ()) else (got (bind (KM.guard (isTy "str" (D.str "")) (bind (bind (bind (bind (opt (ixD t2220 (D.int 0))) fun t2228 => (opt (iterD t2228))) fun t2235 => (chkR (mapR (fun x2229 => (noer (bind (bind (opt (subD x2229 (D.int 32))) fun t2232 => (bind (bind (bind (opt (gtD x2229 (D.int 37))) fun b2230 => .ok (.bl b2230) ()) fun t2231 => (opt (intD t2231))) fun t2233 => (opt (subD t2232 t2233)))) fun t2234 => (opt (ixD (D.str " !\"#$&'()*+,-./0123456789:;<=>?@ABCDEFGHIJKLMNOPQRSTUVWXYZ[\\]^_`abcdefghijklmnopqrstuvwxyz{|}~") t2234))))) t2235))) fun ys => .ok (.lst ys) ()) fun t2236 => (opt (joinD (D.str "") t2236))) .bad) fun t2237 => (bind (opt (ixD t2220 (D.int 1))) fun t2238 => (.ok (D.tup [t2237, t2238]) ()))) (fun t2239 _ => (.ok t2239 ())) (fun c fs _ => (.er c fs ())) .bad))) (fun c fs _ => (.er c fs ())) .bad)) (fun c fs _ => (.er c fs ())) .bad)
def m__law_bits (v_row : List D) : R (List D × Unit) D :=
  (got (m__law_taken v_row (D.int 8)) (fun t2244 s2243 => (got (opt (eqC t2244 (D.int 0))) (fun t2246 _ => (if t2246 then (got (m__law_octets s2243.1 (D.int 12)) (fun t2248 s2247 => (gotO (listD t2248) (fun t2250 => (.ok t2250 (s2247.1, ()))) .bad)) (fun c fs s2249 => (.er c fs (s2249.1, ()))) .bad) else (got (opt (eqC t2244 (D.int 1))) (fun t2251 _ => (if t2251 then (got (m__law_number s2243.1) (fun t2253 s2252 => (got (m__law_groups t2253) (fun t2255 _ => (got (opt (negD (D.int 1))) (fun t2256 _ => (gotO (intOf t2256) (fun i2257 => (gotO (slD t2255 none (some i2257)) (fun t2258 => (got (m__law_pick s2252.1 (D.lst [(D.int 0), (D.int 128), (D.int 127), (D.int 3), (D.int 4)])) (fun t2260 s2259 => (gotO (addD t2258 (D.lst [t2260, (D.int 0), (D.int 1)])) (fun t2262 => (.ok t2262 (s2259.1, ()))) .bad)) (fun c fs s2261 => (.er c fs (s2261.1, ()))) .bad)) .bad)) .bad)) (fun c fs _ => (.er c fs (s2252.1, ()))) .bad)) (fun c fs _ => (.er c fs (s2252.1, ()))) .bad)) (fun c fs s2254 => (.er c fs (s2254.1, ()))) .bad) else (got (opt (eqC t2244 (D.int 2))) (fun t2263 _ => (if t2263 then (got (m__law_taken s2243.1 (D.int 4)) (fun t2265 s2264 => (gotO (addD (D.int 6) t2265) (fun t2267 => (gotO (rng1 t2267) (fun t2268 => (got (lcS (fun x2269 s2270 => (if true then (got (m__law_taken s2270.1 (D.int 128)) (fun t2272 s2271 => (gotO (addD (D.int 128) t2272) (fun t2274 => (.ok (some t2274) (s2271.1, ()))) .bad)) (fun c fs s2273 => .bad) .bad) else .ok none (s2270.1, ()))) t2268 (s2264.1, ())) (fun ys2275 s2276 => KM.guard (sizeB ys2275.length) (got (m__law_taken s2276.1 (D.int 128)) (fun t2278 s2277 => (gotO (addD (D.lst ys2275) (D.lst [t2278, (D.int 5)])) (fun t2280 => (.ok t2280 (s2277.1, ()))) .bad)) (fun c fs s2279 => (.er c fs (s2279.1, ()))) .bad) .bad) (fun _ _ _ => .bad) .bad)) .bad)) .bad)) (fun c fs s2266 => (.er c fs (s2266.1, ()))) .bad) else (got (m__law_taken s2243.1 (D.int 9)) (fun t2282 s2281 => (gotO (rng1 t2282) (fun t2284 => (got (lcS (fun x2285 s2286 => (if true then (got (m__law_pick s2286.1 (D.lst [(D.int 32), (D.int 37), (D.int 36), (D.int 38), (D.int 65), (D.int 97), (D.int 126), (D.int 127), (D.int 31), (D.int 92), (D.int 34), (D.int 122)])) (fun t2288 s2287 => (.ok (some t2288) (s2287.1, ()))) (fun c fs s2289 => .bad) .bad) else .ok none (s2286.1, ()))) t2284 (s2281.1, ())) (fun ys2290 s2291 => KM.guard (sizeB ys2290.length) (got (opt (eqC t2244 (D.int 3))) (fun t2292 _ => (if t2292 then (got (m__law_number s2291.1) (fun t2294 s2293 => (got (m__law_groups t2294) (fun t2297 _ => (lstO t2297 (fun y2296 => (outB (got (opt (eqC t2244 (D.int 4))) (fun t2298 _ => (if t2298 then (got (opt (lenD (D.lst ys2290))) (fun t2299 _ => (got (m__law_taken s2293.1 (D.int 3)) (fun t2301 s2300 => (gotO (addD t2299 t2301) (fun t2303 => (got (m__law_groups t2303) (fun t2304 _ => (gotO (catD t2304 (D.lst ys2290)) (fun t2305 => (.nx (s2300.1, t2305, ()))) .bad)) (fun c fs _ => (.er c fs (s2300.1, ()))) .bad)) .bad)) (fun c fs s2302 => (.er c fs (s2302.1, ()))) .bad)) (fun c fs _ => (.er c fs (s2293.1, ()))) .bad) else (.nx (s2293.1, y2296, ())))) (fun c fs _ => (.er c fs (s2293.1, ()))) .bad) (fun s2306 => (outB (got (bind (opt (eqC t2244 (D.int 5))) fun t2312 => (if t2312 then (opt (neC (D.lst s2306.2.1) (D.lst []))) else .ok false ())) (fun t2313 _ => (if t2313 then (got (m__law_taken s2306.1 (D.int 256)) (fun t2315 s2314 => (got (opt (lenD (D.lst s2306.2.1))) (fun t2317 _ => (got (m__law_taken s2314.1 t2317) (fun t2319 s2318 => (gotO (ixW s2306.2.1.length t2319) (fun i2321 => (.nx (s2318.1, (D.lst (s2306.2.1.set i2321 t2315)), ()))) .bad)) (fun c fs s2320 => (.er c fs (s2320.1, ()))) .bad)) (fun c fs _ => (.er c fs (s2314.1, ()))) .bad)) (fun c fs s2316 => (.er c fs (s2316.1, ()))) .bad) else (.nx (s2306.1, (D.lst s2306.2.1), ())))) (fun c fs _ => (.er c fs (s2306.1, ()))) .bad) (fun s2322 => (got (m__law_octets s2322.1 (D.int 3)) (fun t2329 s2328 => (gotO (listD t2329) (fun t2331 => (gotO (addD t2331 s2322.2.1) (fun t2332 => (got (m__law_octets s2328.1 (D.int 3)) (fun t2334 s2333 => (gotO (listD t2334) (fun t2336 => (gotO (addD t2332 t2336) (fun t2337 => (.ok t2337 (s2333.1, ()))) .bad)) .bad)) (fun c fs s2335 => (.er c fs (s2335.1, ()))) .bad)) .bad)) .bad)) (fun c fs s2330 => (.er c fs (s2330.1, ()))) .bad)) (fun s2323 => .bad) (fun s2324 => .bad) (fun t2327 s2325 => (.ok t2327 (s2325.1, ()))) (fun c fs s2326 => (.er c fs (s2326.1, ()))) .bad)) (fun s2307 => .bad) (fun s2308 => .bad) (fun t2311 s2309 => (.ok t2311 (s2309.1, ()))) (fun c fs s2310 => (.er c fs (s2310.1, ()))) .bad)) .bad)) (fun c fs _ => (.er c fs (s2293.1, ()))) .bad)) (fun c fs s2295 => (.er c fs (s2295.1, ()))) .bad) else (got (bind (bind (opt (lenD (D.lst ys2290))) fun t2338 => (m__law_groups t2338)) fun t2339 => (opt (catD t2339 (D.lst ys2290)))) (fun t2340 _ => (outB (got (opt (eqC t2244 (D.int 4))) (fun t2341 _ => (if t2341 then (got (opt (lenD (D.lst ys2290))) (fun t2342 _ => (got (m__law_taken s2291.1 (D.int 3)) (fun t2344 s2343 => (gotO (addD t2342 t2344) (fun t2346 => (got (m__law_groups t2346) (fun t2347 _ => (gotO (catD t2347 (D.lst ys2290)) (fun t2348 => (.nx (s2343.1, t2348, ()))) .bad)) (fun c fs _ => (.er c fs (s2343.1, ()))) .bad)) .bad)) (fun c fs s2345 => (.er c fs (s2345.1, ()))) .bad)) (fun c fs _ => (.er c fs (s2291.1, ()))) .bad) else (.nx (s2291.1, t2340, ())))) (fun c fs _ => (.er c fs (s2291.1, ()))) .bad) (fun s2349 => (outB (got (bind (opt (eqC t2244 (D.int 5))) fun t2355 => (if t2355 then (opt (neC (D.lst s2349.2.1) (D.lst []))) else .ok false ())) (fun t2356 _ => (if t2356 then (got (m__law_taken s2349.1 (D.int 256)) (fun t2358 s2357 => (got (opt (lenD (D.lst s2349.2.1))) (fun t2360 _ => (got (m__law_taken s2357.1 t2360) (fun t2362 s2361 => (gotO (ixW s2349.2.1.length t2362) (fun i2364 => (.nx (s2361.1, (D.lst (s2349.2.1.set i2364 t2358)), ()))) .bad)) (fun c fs s2363 => (.er c fs (s2363.1, ()))) .bad)) (fun c fs _ => (.er c fs (s2357.1, ()))) .bad)) (fun c fs s2359 => (.er c fs (s2359.1, ()))) .bad) else (.nx (s2349.1, (D.lst s2349.2.1), ())))) (fun c fs _ => (.er c fs (s2349.1, ()))) .bad) (fun s2365 => (got (m__law_octets s2365.1 (D.int 3)) (fun t2372 s2371 => (gotO (listD t2372) (fun t2374 => (gotO (addD t2374 s2365.2.1) (fun t2375 => (got (m__law_octets s2371.1 (D.int 3)) (fun t2377 s2376 => (gotO (listD t2377) (fun t2379 => (gotO (addD t2375 t2379) (fun t2380 => (.ok t2380 (s2376.1, ()))) .bad)) .bad)) (fun c fs s2378 => (.er c fs (s2378.1, ()))) .bad)) .bad)) .bad)) (fun c fs s2373 => (.er c fs (s2373.1, ()))) .bad)) (fun s2366 => .bad) (fun s2367 => .bad) (fun t2370 s2368 => (.ok t2370 (s2368.1, ()))) (fun c fs s2369 => (.er c fs (s2369.1, ()))) .bad)) (fun s2350 => .bad) (fun s2351 => .bad) (fun t2354 s2352 => (.ok t2354 (s2352.1, ()))) (fun c fs s2353 => (.er c fs (s2353.1, ()))) .bad)) (fun c fs _ => (.er c fs (s2291.1, ()))) .bad))) (fun c fs _ => (.er c fs (s2291.1, ()))) .bad) .bad) (fun _ _ _ => .bad) .bad)) .bad)) (fun c fs s2283 => (.er c fs (s2283.1, ()))) .bad))) (fun c fs _ => (.er c fs (s2243.1, ()))) .bad))) (fun c fs _ => (.er c fs (s2243.1, ()))) .bad))) (fun c fs _ => (.er c fs (s2243.1, ()))) .bad)) (fun c fs s2245 => (.er c fs (s2245.1, ()))) .bad)
def pk__law_bits : List Pk := [.l]
def i__law_bits (vs : List D) (c : Ct pk__law_bits) : R (Ct pk__law_bits) D := match vs with
  | [] => m__law_bits c.1
  | _ => .bad
def m__law_refused_r : P D := (.ok (D.tup [(D.str ""), D.non]) ())
def m__law_refused_h (c : Str) (fs : Flds) : P D := (if subN c "BadOctets" then (got (bind (opt (List.lookup ("value" : Str) fs)) fun t2382 => (.ok (D.tup [(D.str "octets"), t2382]) ())) (fun t2383 _ => (.ok t2383 ())) (fun c fs _ => .bad) .bad) else .bad)
def m_law_2 (v_script : D) (v_row : List D) : P D :=
  (.ok (D.bl true) ())
def m_law_1 (v_script : D) (v_row : List D) : P D :=
  (got (opt (rng1 (D.int 3))) (fun t2505 _ => (outB (loopB (fun s2410 x2411 => (got (m__law_bits s2410.1) (fun t2413 s2412 => (got (opt (lenD t2413)) (fun t2415 _ => (got (m__law_pick s2412.1 (D.lst [(D.int 0), (D.int 0), (D.int 0), (D.int 1), (D.int 2)])) (fun t2417 s2416 => (gotO (subD t2415 t2417) (fun t2419 => (gotO (intOf t2419) (fun i2420 => (gotO (slD t2413 none (some i2420)) (fun t2421 => (got (got (m__law_taken s2416.1 (D.int 2)) (fun t2423 s2422 => (gotO (eqC t2423 (D.int 0)) (fun t2425 => (if t2425 then (.ok t2421 (s2422.1, ())) else (got (opt (tupleD t2421)) (fun t2426 _ => (.ok t2426 (s2422.1, ()))) (fun c fs _ => (.er c fs (s2422.1, ()))) .bad))) .bad)) (fun c fs s2424 => (.er c fs (s2424.1, ()))) .bad) (fun t2427 s2428 => (got (opt (reprD t2427)) (fun t2430 _ => (got (bind (bind (bind (bind (bind (opt (lenD t2421)) fun t2431 => (opt (addD t2431 (D.int 1)))) fun t2433 => (.ok (D.int 0, t2433) ())) fun p2432 => (opt (rngL p2432.1 p2432.2))) fun ys => .ok (.lst ys) ()) fun t2434 => (opt (iterD t2434))) (fun t2471 _ => (outB (loopB (fun s2435 x2436 => (got (bind (m__law_number_at t2421 x2436) fun t2437 => (bind (m__law_row_at t2421 x2436) fun t2438 => (bind (m__law_text_at t2421 x2436) fun t2439 => (.ok (D.lst [t2437, t2438, t2439]) ())))) (fun t2440 _ => (got (opt (enumI (D.lst [(D.fn "read_number"), (D.fn "read_row"), (D.fn "read_text")]))) (fun t2464 _ => (outB (loopB (fun s2441 x2442 => (un2 x2442 (fun x2443 x2444 => (got (got (bind (opt (selV [("read_number", ap2 (m_read_number)), ("read_row", ap2 (m_read_row)), ("read_text", ap2 (m_read_text))] x2444)) fun m2445 => (m2445 [t2427, x2436])) (fun t2446 _ => (got m__law_refused_r (fun d _ => (.ok d (()))) (fun _ _ _ => .bad) .bad)) (fun c fs _ => (KM.guard (List.contains T_errs c) (got (m__law_refused_h c fs) (fun d _ => (.ok d (()))) (fun _ _ _ => .bad) .bad) .bad)) .bad) (fun t2447 s2448 => (got (bind (opt (reprD t2447)) fun t2453 => (bind (bind (bind (bind (opt (ixD t2440 x2443)) fun t2450 => (.ok (isNon t2450) ())) fun t2451 => (if t2451 then (.ok (D.tup [(D.str "octets"), x2436]) ()) else (.ok (D.tup [(D.str ""), D.non]) ()))) fun t2452 => (opt (reprD t2452))) fun t2454 => (opt (neC t2453 t2454)))) (fun t2455 _ => (if t2455 then (.rt (D.bl false) (())) else (got (bind (bind (bind (opt (ixD t2440 x2443)) fun t2456 => (.ok (isNon t2456) ())) fun b => .ok (!b) ()) fun t2462 => (if t2462 then (bind (bind (bind (bind (opt (selV [("read_number", ap2 (m_read_number)), ("read_row", ap2 (m_read_row)), ("read_text", ap2 (m_read_text))] x2444)) fun m2457 => (m2457 [t2427, x2436])) fun t2458 => (bind (opt (ixD t2440 x2443)) fun t2459 => (m__law_alike 12 t2458 t2459))) fun t2460 => (opt (truD t2460))) fun t2461 => (.ok (!t2461) ())) else .ok false ())) (fun t2463 _ => (if t2463 then (.rt (D.bl false) (())) else (.nx (())))) (fun c fs _ => (.er c fs (()))) .bad))) (fun c fs _ => (.er c fs (()))) .bad)) (fun c fs s2449 => (.er c fs (()))) .bad)) .bad)) t2464 (())) (fun s2465 => (.nx (()))) (fun s2466 => (.bk (()))) (fun s2467 => (.ct (()))) (fun t2470 s2468 => (.rt t2470 (()))) (fun c fs s2469 => (.er c fs (()))) .bad)) (fun c fs _ => (.er c fs (()))) .bad)) (fun c fs _ => (.er c fs (()))) .bad)) t2471 (())) (fun s2472 => (got (bind (bind (opt (lenD t2421)) fun t2478 => (opt (addD t2478 (D.int 1)))) fun t2479 => (bind (opt (negD (D.int 1))) fun t2480 => (bind (opt (powD (D.int 10) (D.int 20))) fun t2481 => (.ok (D.lst [t2479, t2480, D.non, (D.bl true), (D.str "0"), t2481]) ())))) (fun t2482 _ => (got (m__law_pick s2428.1 t2482) (fun t2484 s2483 => (got (opt (iterD (D.lst [(D.fn "read_number"), (D.fn "read_row"), (D.fn "read_text")]))) (fun t2496 _ => (outB (loopB (fun s2486 x2487 => (got (got (bind (opt (selV [("read_number", ap2 (m_read_number)), ("read_row", ap2 (m_read_row)), ("read_text", ap2 (m_read_text))] x2487)) fun m2488 => (m2488 [t2427, t2484])) (fun t2489 _ => (got m__law_refused_r (fun d _ => (.ok d (()))) (fun _ _ _ => .bad) .bad)) (fun c fs _ => (KM.guard (List.contains T_errs c) (got (m__law_refused_h c fs) (fun d _ => (.ok d (()))) (fun _ _ _ => .bad) .bad) .bad)) .bad) (fun t2490 s2491 => (gotO (reprD t2490) (fun t2493 => (got (opt (reprD (D.tup [(D.str "octets"), t2484]))) (fun t2494 _ => (gotO (neC t2493 t2494) (fun t2495 => (if t2495 then (.rt (D.bl false) (())) else (.nx (())))) .bad)) (fun c fs _ => (.er c fs (()))) .bad)) .bad)) (fun c fs s2492 => (.er c fs (()))) .bad)) t2496 (())) (fun s2497 => (got (bind (opt (reprD t2427)) fun t2503 => (opt (neC t2503 t2430))) (fun t2504 _ => (if t2504 then (.rt (D.bl false) (())) else (.nx (s2483.1, ())))) (fun c fs _ => (.er c fs (()))) .bad)) (fun s2498 => (.bk (s2483.1, ()))) (fun s2499 => (.ct (s2483.1, ()))) (fun t2502 s2500 => (.rt t2502 (()))) (fun c fs s2501 => (.er c fs (()))) .bad)) (fun c fs _ => (.er c fs (()))) .bad)) (fun c fs s2485 => (.er c fs (()))) .bad)) (fun c fs _ => (.er c fs (()))) .bad)) (fun s2473 => (.bk (s2428.1, ()))) (fun s2474 => (.ct (s2428.1, ()))) (fun t2477 s2475 => (.rt t2477 (()))) (fun c fs s2476 => (.er c fs (()))) .bad)) (fun c fs _ => (.er c fs (()))) .bad)) (fun c fs _ => (.er c fs (()))) .bad)) (fun c fs s2429 => (.er c fs (()))) .bad)) .bad)) .bad)) .bad)) (fun c fs s2418 => (.er c fs (()))) .bad)) (fun c fs _ => (.er c fs (()))) .bad)) (fun c fs s2414 => (.er c fs (()))) .bad)) t2505 (v_row, ())) (fun s2506 => (m_law_2 v_script s2506.1)) (fun s2507 => .bad) (fun s2508 => .bad) (fun t2511 s2509 => (.ok t2511 ())) (fun c fs s2510 => (.er c fs ())) .bad)) (fun c fs _ => (.er c fs ())) .bad)
def m_law_0 (v_script : D) : P D :=
  (m_law_1 v_script [v_script, (D.int 0), (D.int 2626), (D.int 0)])
def m_law (v_script : D) : P D := m_law_0 v_script
def intB : D → Bool
  | .int _ => true
  | _ => false
theorem is_integer_ok {d : D} (h : (tyN d).isSome = true) : m_is_integer d = .ok (.bl (intB d)) () := by
  cases d <;> first | (cases h; done) | rfl

def wiB (d : D) (lo hi : Int) : Bool := match d with
  | .int i => decide (lo ≤ i) && decide (i ≤ hi)
  | _ => false
theorem is_within_ok {d : D} {lo hi : Int} (h : (tyN d).isSome = true) : m_is_within d (.int lo) (.int hi) = .ok (.bl (wiB d lo hi)) () := by
  unfold m_is_within
  rw [is_integer_ok h]
  cases d <;> first | (cases h; done) | rfl | skip
  rename_i i
  simp (config := { implicitDefEqProofs := false }) only [got_o, got_e, bind_o, bind_e, opt_s, gotO_s, guard_t, outB_nx, outB_bk, outB_ct, outB_rt, outB_er, un2_t, un2_l, un3_t, un3_l, un4_t, un4_l, noer_o, stepB_nx, stepB_ct, stepB_bk, stepB_rt, stepB_er, e_asB, intB, e_le, if_true, wiB]
  by_cases c : lo ≤ i <;> by_cases c' : i ≤ hi <;> simp [c, c', got, KM.bind]

def octB : D → Bool
  | .int i => decide (0 ≤ i ∧ i ≤ 255)
  | _ => false
theorem is_octet_ok {d : D} (h : (tyN d).isSome = true) : m_is_octet d = .ok (.bl (octB d)) () := by
  unfold m_is_octet
  rw [is_integer_ok h]
  cases d <;> first | (cases h; done) | rfl | skip
  rename_i i
  simp (config := { implicitDefEqProofs := false }) only [got_o, got_e, bind_o, bind_e, opt_s, gotO_s, guard_t, outB_nx, outB_bk, outB_ct, outB_rt, outB_er, un2_t, un2_l, un3_t, un3_l, un4_t, un4_l, noer_o, stepB_nx, stepB_ct, stepB_bk, stepB_rt, stepB_er, e_asB, intB, e_le, if_true]
  by_cases c : 0 ≤ i <;> by_cases c' : i ≤ 255 <;> simp [octB, c, c', got, KM.bind]
theorem oct_nat {d : D} (h : octB d = true) : ∃ n : Nat, d = .int (n : Nat) ∧ n < 256 := by
  cases d <;> first | (cases h; done) | skip
  rename_i i
  have := of_decide_eq_true h
  exact ⟨i.toNat, by congr 1; omega, by omega⟩
theorem nat_oct {n : Nat} (h : n < 256) : octB (.int (n : Nat)) = true := decide_eq_true (by omega)

def rowB : D → Bool
  | .lst _ => true
  | .tup _ => true
  | _ => false
theorem is_row_ok {d : D} (h : (tyN d).isSome = true) : m_is_row d = .ok (.bl (rowB d)) () := by
  cases d <;> first | (cases h; done) | rfl

theorem num_oct {l : List Nat} : ∀ {k : Nat} {x : D}, x ∈ numD k (oN l) → ∃ (i : Nat) (n : Nat), x = .tup [.int (i : Nat), .int (n : Nat)] ∧ n ∈ l := by
  induction l with
  | nil => intro k x h; simp [oN, numD] at h
  | cons a l ih =>
    intro k x h
    rw [oN_cons, numD] at h
    rcases List.mem_cons.mp h with rfl | h
    · exact ⟨k, a, rfl, by simp⟩
    · obtain ⟨i, n, e, m⟩ := ih h
      exact ⟨i, n, e, by simp [m]⟩
theorem checked_ok {l : List Nat} (h : ∀ n ∈ l, n < 256) {d : D} (hd : d = .tup (oN l) ∨ d = .lst (oN l)) : m_checked_octets d = .ok (.tup (oN l)) () := by
  have e1 : m_is_row d = .ok (.bl true) () := by rcases hd with rfl | rfl <;> rfl
  have e2 : enumI d = some (numD 0 (oN l)) := by rcases hd with rfl | rfl <;> exact congrArg some enum_num
  have e3 : tupleD d = some (.tup (oN l)) := by rcases hd with rfl | rfl <;> rfl
  unfold m_checked_octets
  simp (config := { implicitDefEqProofs := false }) only [got_o, got_e, bind_o, bind_e, opt_s, gotO_s, guard_t, outB_nx, outB_bk, outB_ct, outB_rt, outB_er, un2_t, un2_l, un3_t, un3_l, un4_t, un4_l, noer_o, stepB_nx, stepB_ct, stepB_bk, stepB_rt, stepB_er, e1, e2, e3, e_truB, Bool.not_true, Bool.false_eq_true, if_false]
  refine nx_eq (fun _ => True) (loop_inv (fun _ => True) trivial fun x hx t _ => ?_) fun _ _ => rfl
  obtain ⟨i, n, rfl, hn⟩ := num_oct hx
  simp (config := { implicitDefEqProofs := false }) only [got_o, got_e, bind_o, bind_e, opt_s, gotO_s, guard_t, outB_nx, outB_bk, outB_ct, outB_rt, outB_er, un2_t, un2_l, un3_t, un3_l, un4_t, un4_l, noer_o, stepB_nx, stepB_ct, stepB_bk, stepB_rt, stepB_er, is_octet_ok (d := .int (n : Nat)) rfl, nat_oct (h n hn), e_truB, Bool.not_true, Bool.false_eq_true, if_false]
  trivial
theorem checked_not {d : D} (ht : (tyN d).isSome = true) (hr : rowB d = false) : m_checked_octets d = .er "BadOctets" [("value", .int (-1))] () := by
  unfold m_checked_octets
  simp (config := { implicitDefEqProofs := false }) only [got_o, got_e, bind_o, bind_e, opt_s, gotO_s, guard_t, outB_nx, outB_bk, outB_ct, outB_rt, outB_er, un2_t, un2_l, un3_t, un3_l, un4_t, un4_l, noer_o, stepB_nx, stepB_ct, stepB_bk, stepB_rt, stepB_er, is_row_ok ht, hr, e_truB, Bool.not_false, if_true, e_neg]
theorem checked_bad {l : List Nat} {b : D} {xs : List D} (h : ∀ n ∈ l, n < 256) (ht : (tyN b).isSome = true) (hb : octB b = false) {d : D} (hd : d = .tup (oN l ++ b :: xs) ∨ d = .lst (oN l ++ b :: xs)) : m_checked_octets d = .er "BadOctets" [("value", .int (l.length : Nat))] () := by
  have e1 : m_is_row d = .ok (.bl true) () := by rcases hd with rfl | rfl <;> rfl
  have e2 : enumI d = some (numD 0 (oN l) ++ (.tup [.int (l.length : Nat), b] :: numD (l.length + 1) xs)) := by
    have : enumD (oN l ++ b :: xs) = numD 0 (oN l) ++ (.tup [.int (l.length : Nat), b] :: numD (l.length + 1) xs) := by
      rw [enum_num, num_app, oN_len, Nat.zero_add]; rfl
    rcases hd with rfl | rfl <;> exact congrArg some this
  unfold m_checked_octets
  simp (config := { implicitDefEqProofs := false }) only [got_o, got_e, bind_o, bind_e, opt_s, gotO_s, guard_t, outB_nx, outB_bk, outB_ct, outB_rt, outB_er, un2_t, un2_l, un3_t, un3_l, un4_t, un4_l, noer_o, stepB_nx, stepB_ct, stepB_bk, stepB_rt, stepB_er, e1, e2, e_truB, Bool.not_true, Bool.false_eq_true, if_false]
  rw [loop_pre fun x hx => ?_, loop_stop (c := "BadOctets") (fs := [("value", .int (l.length : Nat))]) (s := ()) ?_]
  · rfl
  · simp (config := { implicitDefEqProofs := false }) only [got_o, got_e, bind_o, bind_e, opt_s, gotO_s, guard_t, outB_nx, outB_bk, outB_ct, outB_rt, outB_er, un2_t, un2_l, un3_t, un3_l, un4_t, un4_l, noer_o, stepB_nx, stepB_ct, stepB_bk, stepB_rt, stepB_er, is_octet_ok ht, hb, e_truB, Bool.not_false, if_true]
  · obtain ⟨i, n, rfl, hn⟩ := num_oct hx
    simp (config := { implicitDefEqProofs := false }) only [got_o, got_e, bind_o, bind_e, opt_s, gotO_s, guard_t, outB_nx, outB_bk, outB_ct, outB_rt, outB_er, un2_t, un2_l, un3_t, un3_l, un4_t, un4_l, noer_o, stepB_nx, stepB_ct, stepB_bk, stepB_rt, stepB_er, is_octet_ok (d := .int (n : Nat)) rfl, nat_oct (h n hn), e_truB, Bool.not_true, Bool.false_eq_true, if_false]
/-- a row that is no row of octets, and where -/
def BadRow (d : D) (at_ : Int) : Prop := m_checked_octets d = .er "BadOctets" [("value", .int at_)] () ∧ -1 ≤ at_ ∧ at_ ≤ 1000000

def numR (at_ : Nat) : Option (Nat × Nat) → P D
  | some (v, c) => .ok (.tup [.int (v : Nat), .int (at_ + c : Nat)]) ()
  | none => .er "BadOctets" [("value", .int (at_ : Nat))] ()
theorem number_from_ok {l : List Nat} (hl : ∀ n ∈ l, n < 256) (hz : l.length < 900000) {at_ : Nat} (ha : at_ ≤ l.length) : m_number_from (.tup (oN l)) (.int (at_ : Nat)) = numR at_ (rdNum 0 1 (l.drop at_)) := by
  unfold m_number_from
  simp only [e_lenT, oN_len, got_o, got_e, bind_o, bind_e, opt_s, gotO_s, guard_t, outB_nx, outB_bk, outB_ct, outB_rt, outB_er, un2_t, un2_l, un3_t, un3_l, un4_t, un4_l, noer_o, stepB_nx, stepB_ct, stepB_bk, stepB_rt, stepB_er]
  generalize hc : (fun s116 : D × D × D × Unit => opt (ltD s116.2.2.1 (D.int (l.length : Nat)))) = cnd
  generalize hb : (fun s118 : D × D × D × Unit => (got (opt (ixD (D.tup (oN l)) s118.2.2.1)) (fun t120 _ => (gotO (addI s118.2.2.1 (D.int 1)) (fun t121 => (got (opt (ltD t120 (D.int 128))) (fun t122 _ => (if t122 = true then (got (opt (mulD t120 s118.2.1)) (fun t123 _ => (gotO (addI s118.1 t123) (fun t124 => (got (KM.bind (KM.bind (opt (eqC t120 (D.int 0))) fun t125 => (if t125 = true then (opt (gtD s118.2.1 (D.int 1))) else .ok false ())) fun t126 => (if t126 = true then .ok true () else (opt (gtD t124 (D.int 1000000000000000))))) (fun t127 _ => (if t127 = true then (.er "BadOctets" [("value", D.int (at_ : Nat))] (())) else (.rt (D.tup [t124, t121]) (())))) (fun c fs _ => (.er c fs (()))) .bad)) .bad)) (fun c fs _ => (.er c fs (()))) .bad) else (got (KM.bind (opt (subD t120 (D.int 128))) fun t128 => (opt (mulD t128 s118.2.1))) (fun t129 _ => (gotO (addI s118.1 t129) (fun t130 => (got (opt (mulD s118.2.1 (D.int 128))) (fun t131 _ => (.nx (t130, t131, t121, ()))) (fun c fs _ => (.er c fs (()))) .bad)) .bad)) (fun c fs _ => (.er c fs (()))) .bad))) (fun c fs _ => (.er c fs (()))) .bad)) .bad)) (fun c fs _ => (.er c fs (()))) .bad : B Unit (D × D × D × Unit))) = bod
  have key : ∀ (m : List Nat) (here acc w fuel : Nat), l.drop here = m → here ≤ l.length → m.length < fuel →
      (match rdNum acc w m with
        | some (v, c) => whileB cnd (fun e fs _ => .er e fs ()) bod fuel (.int (acc : Nat), .int (w : Nat), .int (here : Nat), ()) = .rt (.tup [.int (v : Nat), .int (here + c : Nat)]) ()
        | none => whileB cnd (fun e fs _ => .er e fs ()) bod fuel (.int (acc : Nat), .int (w : Nat), .int (here : Nat), ()) = .er "BadOctets" [("value", .int (at_ : Nat))] () ∨ ∃ t, whileB cnd (fun e fs _ => .er e fs ()) bod fuel (.int (acc : Nat), .int (w : Nat), .int (here : Nat), ()) = .nx t) := by
    intro m
    induction m with
    | nil =>
      intro here acc w fuel hm hh hf
      obtain ⟨f, rfl⟩ : ∃ f, fuel = f + 1 := ⟨fuel - 1, by omega⟩
      have : l.length ≤ here := List.drop_eq_nil_iff.mp hm
      refine .inr ⟨(.int (acc : Nat), .int (w : Nat), .int (here : Nat), ()), ?_⟩
      unfold whileB
      rw [← hc]
      simp only [e_lt, show ¬ ((here : Nat) : Int) < (l.length : Nat) by omega, decide_false, got_o, got_e, bind_o, bind_e, opt_s, gotO_s, guard_t, outB_nx, outB_bk, outB_ct, outB_rt, outB_er, un2_t, un2_l, un3_t, un3_l, un4_t, un4_l, noer_o, stepB_nx, stepB_ct, stepB_bk, stepB_rt, stepB_er, Bool.false_eq_true, if_false]
    | cons g m ih =>
      intro here acc w fuel hm hh hf
      obtain ⟨f, rfl⟩ : ∃ f, fuel = f + 1 := ⟨fuel - 1, by omega⟩
      have hk : here < l.length := by
        rcases Nat.lt_or_ge here l.length with h | h
        · exact h
        · rw [List.drop_eq_nil_of_le h] at hm; cases hm
      have hx : l[here] = g ∧ l.drop (here + 1) = m := by
        rw [List.drop_eq_getElem_cons hk] at hm
        exact ⟨(List.cons.inj hm).1, (List.cons.inj hm).2⟩
      have g256 : g < 256 := by rw [← hx.1]; exact hl _ (List.getElem_mem hk)
      have e1 : ixD (.tup (oN l)) (.int (here : Nat)) = some (.int (g : Nat)) := by rw [e_tN (by rw [oN_len]; exact hk), oN_get, hx.1]
      have e2 : ((here : Nat) : Int) + 1 = ((here + 1 : Nat) : Int) := by omega
      have step : whileB cnd (fun e fs _ => .er e fs ()) bod (f + 1) (.int (acc : Nat), .int (w : Nat), .int (here : Nat), ()) = stepB (bod (.int (acc : Nat), .int (w : Nat), .int (here : Nat), ())) fun b => whileB cnd (fun e fs _ => .er e fs ()) bod f b := by
        show got (cnd _) _ _ _ = _
        rw [← hc]
        simp only [e_lt, show ((here : Nat) : Int) < (l.length : Nat) by omega, decide_true, got_o, got_e, bind_o, bind_e, opt_s, gotO_s, guard_t, outB_nx, outB_bk, outB_ct, outB_rt, outB_er, un2_t, un2_l, un3_t, un3_l, un4_t, un4_l, noer_o, stepB_nx, stepB_ct, stepB_bk, stepB_rt, stepB_er, if_true]
      rw [step, rdNum]
      by_cases c : g < 128
      · rw [if_pos c]
        have e3 : ((g : Nat) : Int) * (w : Nat) = ((g * w : Nat) : Int) := by rw [Int.natCast_mul]
        have e4 : ((acc : Nat) : Int) + ((g * w : Nat) : Int) = ((acc + g * w : Nat) : Int) := by omega
        rw [← hb]
        simp (config := { implicitDefEqProofs := false }) only [got_o, got_e, bind_o, bind_e, opt_s, gotO_s, guard_t, outB_nx, outB_bk, outB_ct, outB_rt, outB_er, un2_t, un2_l, un3_t, un3_l, un4_t, un4_l, noer_o, stepB_nx, stepB_ct, stepB_bk, stepB_rt, stepB_er, e1, e_addI, e2, e_lt, show ((g : Nat) : Int) < 128 by omega, decide_true, if_true, e_mulL (show (-18446744073709551616 : Int) < (g : Nat) by omega) (by omega), e3, e4, e_eqI, e_gt]
        by_cases c1 : (g = 0 ∧ 1 < w) ∨ 1000000000000000 < acc + g * w
        · rw [if_pos c1]
          refine .inl ?_
          by_cases c2 : g = 0
          · by_cases c3 : 1 < w
            · simp only [show ((g : Nat) : Int) = 0 by omega, decide_true, if_true, got_o, got_e, bind_o, bind_e, opt_s, gotO_s, guard_t, outB_nx, outB_bk, outB_ct, outB_rt, outB_er, un2_t, un2_l, un3_t, un3_l, un4_t, un4_l, noer_o, stepB_nx, stepB_ct, stepB_bk, stepB_rt, stepB_er, show (1 : Int) < (w : Nat) by omega]
            · have c4 : 1000000000000000 < acc + g * w := by rcases c1 with h | h; exact absurd h.2 c3; exact h
              simp only [show ((g : Nat) : Int) = 0 by omega, decide_true, if_true, got_o, got_e, bind_o, bind_e, opt_s, gotO_s, guard_t, outB_nx, outB_bk, outB_ct, outB_rt, outB_er, un2_t, un2_l, un3_t, un3_l, un4_t, un4_l, noer_o, stepB_nx, stepB_ct, stepB_bk, stepB_rt, stepB_er, show ¬ (1 : Int) < (w : Nat) by omega, decide_false, Bool.false_eq_true, if_false, show (1000000000000000 : Int) < ((acc + g * w : Nat) : Int) by omega]
          · have c4 : 1000000000000000 < acc + g * w := by rcases c1 with h | h; exact absurd h.1 c2; exact h
            simp only [show ¬ ((g : Nat) : Int) = 0 by omega, decide_false, Bool.false_eq_true, if_false, got_o, got_e, bind_o, bind_e, opt_s, gotO_s, guard_t, outB_nx, outB_bk, outB_ct, outB_rt, outB_er, un2_t, un2_l, un3_t, un3_l, un4_t, un4_l, noer_o, stepB_nx, stepB_ct, stepB_bk, stepB_rt, stepB_er, show (1000000000000000 : Int) < ((acc + g * w : Nat) : Int) by omega, decide_true, if_true]
        · rw [if_neg c1]
          have c4 : ¬ (1000000000000000 : Int) < ((acc + g * w : Nat) : Int) := by omega
          show _ = _
          by_cases c2 : g = 0
          · have c3 : ¬ (1 : Int) < (w : Nat) := by omega
            simp only [show ((g : Nat) : Int) = 0 by omega, decide_true, if_true, got_o, got_e, bind_o, bind_e, opt_s, gotO_s, guard_t, outB_nx, outB_bk, outB_ct, outB_rt, outB_er, un2_t, un2_l, un3_t, un3_l, un4_t, un4_l, noer_o, stepB_nx, stepB_ct, stepB_bk, stepB_rt, stepB_er, c3, c4, decide_false, Bool.false_eq_true, if_false]
          · simp only [show ¬ ((g : Nat) : Int) = 0 by omega, decide_false, Bool.false_eq_true, if_false, got_o, got_e, bind_o, bind_e, opt_s, gotO_s, guard_t, outB_nx, outB_bk, outB_ct, outB_rt, outB_er, un2_t, un2_l, un3_t, un3_l, un4_t, un4_l, noer_o, stepB_nx, stepB_ct, stepB_bk, stepB_rt, stepB_er, c4]
      · rw [if_neg c]
        have e3 : ((g : Nat) : Int) - 128 = ((g - 128 : Nat) : Int) := by omega
        have e4 : ((g - 128 : Nat) : Int) * (w : Nat) = (((g - 128) * w : Nat) : Int) := by rw [Int.natCast_mul]
        have e5 : ((acc : Nat) : Int) + (((g - 128) * w : Nat) : Int) = ((acc + (g - 128) * w : Nat) : Int) := by omega
        have e6 : ((w : Nat) : Int) * 128 = ((w * 128 : Nat) : Int) := by omega
        have eb : bod (.int (acc : Nat), .int (w : Nat), .int (here : Nat), ()) = .nx (.int (acc + (g - 128) * w : Nat), .int (w * 128 : Nat), .int (here + 1 : Nat), ()) := by
          rw [← hb]
          simp (config := { implicitDefEqProofs := false }) only [got_o, got_e, bind_o, bind_e, opt_s, gotO_s, guard_t, outB_nx, outB_bk, outB_ct, outB_rt, outB_er, un2_t, un2_l, un3_t, un3_l, un4_t, un4_l, noer_o, stepB_nx, stepB_ct, stepB_bk, stepB_rt, stepB_er, e1, e_addI, e2, e_lt, show ¬ ((g : Nat) : Int) < 128 by omega, decide_false, Bool.false_eq_true, if_false, e_sub, e3, e_mulL (show (-18446744073709551616 : Int) < ((g - 128 : Nat) : Int) by omega) (by omega), e4, e5, e_mulR (show (-18446744073709551616 : Int) < 128 by decide) (by decide), e6]
        rw [eb, stepB_nx]
        have := ih (here + 1) (acc + (g - 128) * w) (w * 128) f hx.2 (by omega) (by simp at hf; omega)
        cases q : rdNum (acc + (g - 128) * w) (w * 128) m with
        | none => rw [q] at this; exact this
        | some vc =>
          obtain ⟨v, c⟩ := vc
          rw [q] at this
          have this : whileB cnd _ bod f _ = _ := this
          show _ = _
          rw [this]
          rw [show here + 1 + c = here + (c + 1) by omega]
  have := key (l.drop at_) at_ 0 1 fuelN rfl ha (by rw [List.length_drop]; show _ < 1000000; omega)
  cases q : rdNum 0 1 (l.drop at_) with
  | none =>
    rw [q] at this
    rcases this with h | ⟨t, h⟩
    · have h : whileB cnd _ bod fuelN (.int 0, .int 1, .int (at_ : Nat), ()) = _ := h
      rw [h]; rfl
    · have h : whileB cnd _ bod fuelN (.int 0, .int 1, .int (at_ : Nat), ()) = _ := h
      rw [h]; rfl
  | some vc =>
    obtain ⟨v, c⟩ := vc
    rw [q] at this
    have h : whileB cnd _ bod fuelN (.int 0, .int 1, .int (at_ : Nat), ()) = _ := this
    rw [h]; rfl

theorem row_from_ok {few xs more : List Nat} (ho : ∀ n ∈ few ++ (grp xs.length ++ xs) ++ more, n < 256) (hl : few.length + xs.length + more.length ≤ 800000) : m_row_from (.tup (oN (few ++ (grp xs.length ++ xs) ++ more))) (.int (few.length : Nat)) = .ok (.tup [.tup (oN xs), .int ((few.length + (grp xs.length ++ xs).length : Nat))]) () := by
  have g := grp_len (k := 2) (n := xs.length) (by omega)
  have e0 : (few ++ (grp xs.length ++ xs) ++ more).drop few.length = grp xs.length ++ (xs ++ more) := by simp
  have e1 := number_from_ok ho (by simp; omega) (at_ := few.length) (by simp)
  rw [e0, rdNum_grp (n := xs.length) (acc := 0) (w := 1) (by omega) (by omega) (by decide), Nat.zero_add, Nat.mul_one] at e1
  have e1 : m_number_from (.tup (oN (few ++ (grp xs.length ++ xs) ++ more))) (.int (few.length : Nat)) = .ok (.tup [.int (xs.length : Nat), .int ((few.length + (grp xs.length).length : Nat))]) () := e1
  have e2 : (((few.length + (grp xs.length).length : Nat)) : Int) + ((xs.length : Nat) : Int) = ((few.length + (grp xs.length ++ xs).length : Nat) : Int) := by rw [List.length_append]; omega
  have e3 : ((few ++ (grp xs.length ++ xs) ++ more).drop (few.length + (grp xs.length).length)).take (few.length + (grp xs.length ++ xs).length - (few.length + (grp xs.length).length)) = xs := by
    rw [show few ++ (grp xs.length ++ xs) ++ more = (few ++ grp xs.length) ++ (xs ++ more) by simp, show few.length + (grp xs.length).length = (few ++ grp xs.length).length by simp, List.drop_left, show few.length + (grp xs.length ++ xs).length - (few ++ grp xs.length).length = xs.length by simp; omega]
    simp
  have e4 : ¬ (((few ++ (grp xs.length ++ xs) ++ more).length : Nat) : Int) < ((few.length + (grp xs.length ++ xs).length : Nat) : Int) := by
    rw [List.length_append, List.length_append]; omega
  unfold m_row_from
  simp (config := { implicitDefEqProofs := false }) only [got_o, got_e, bind_o, bind_e, opt_s, gotO_s, guard_t, outB_nx, outB_bk, outB_ct, outB_rt, outB_er, un2_t, un2_l, un3_t, un3_l, un4_t, un4_l, noer_o, stepB_nx, stepB_ct, stepB_bk, stepB_rt, stepB_er, e1, e_add, e2, e_lenT, oN_len, e_gt, e4, decide_false, Bool.false_eq_true, if_false, e_intOf, e_smT (show few.length + (grp xs.length).length ≤ few.length + (grp xs.length ++ xs).length by rw [List.length_append]; omega), oN_drop, oN_take, e3]
/-- the row that is written at an index, and the index behind it -/
def rowAt (l : List Nat) (at_ : Nat) : Option (List Nat × Nat) := match rdNum 0 1 (l.drop at_) with
  | some (v, c) => if at_ + c + v ≤ l.length then some ((l.drop (at_ + c)).take v, at_ + c + v) else none
  | none => none
def rowR (at_ : Nat) : Option (List Nat × Nat) → P D
  | some (xs, e) => .ok (.tup [.tup (oN xs), .int (e : Nat)]) ()
  | none => .er "BadOctets" [("value", .int (at_ : Nat))] ()
theorem row_from_gen {l : List Nat} (hl : ∀ n ∈ l, n < 256) (hz : l.length < 900000) {at_ : Nat} (ha : at_ ≤ l.length) : m_row_from (.tup (oN l)) (.int (at_ : Nat)) = rowR at_ (rowAt l at_) := by
  unfold m_row_from rowAt
  rw [number_from_ok hl hz ha]
  cases q : rdNum 0 1 (l.drop at_) with
  | none => rfl
  | some vc =>
    obtain ⟨v, c⟩ := vc
    have e1 : ((at_ + c : Nat) : Int) + (v : Nat) = ((at_ + c + v : Nat) : Int) := by omega
    simp only [numR, got_o, got_e, bind_o, bind_e, opt_s, gotO_s, guard_t, outB_nx, outB_bk, outB_ct, outB_rt, outB_er, un2_t, un2_l, un3_t, un3_l, un4_t, un4_l, noer_o, stepB_nx, stepB_ct, stepB_bk, stepB_rt, stepB_er, e_add, e1, e_lenT, oN_len, e_gt, Int.ofNat_lt]
    by_cases h : at_ + c + v ≤ l.length
    · rw [if_pos h]
      simp only [show ¬ l.length < at_ + c + v by omega, decide_false, Bool.false_eq_true, if_false, got_o, got_e, bind_o, bind_e, opt_s, gotO_s, guard_t, outB_nx, outB_bk, outB_ct, outB_rt, outB_er, un2_t, un2_l, un3_t, un3_l, un4_t, un4_l, noer_o, stepB_nx, stepB_ct, stepB_bk, stepB_rt, stepB_er, e_intOf, e_smT (show at_ + c ≤ at_ + c + v by omega), oN_drop, oN_take, Nat.add_sub_cancel_left, rowR]
    · rw [if_neg h]
      simp only [show l.length < at_ + c + v by omega, decide_true, if_true, rowR]

def drawS : Str := " !#$&'()*+,-./0123456789:;<=>?@AMZ[]^_`abcxyz{|}~"
def drawN : List Nat := drawS.cps.toList
def sgOk (c : Nat) : Bool := match m_sign_of (.int (c : Nat)) with
  | .ok (.str z) _ => z.cps.toList == [c]
  | _ => false
theorem sgOk_all : ∀ c ∈ drawN, sgOk c = true := by decide +kernel
theorem sign_of_ok {c : Nat} (h : c ∈ drawN) : m_sign_of (.int (c : Nat)) = .ok (.str (tx [c])) () := by
  have h := sgOk_all c h
  unfold sgOk at h
  split at h
  · rename_i z s e
    rw [e]
    have h : z.cps.toList = [c] := by simpa using h
    rw [show z = tx [c] by rw [tx_eq z, h]]
  · cases h
theorem draw_oct : ∀ c ∈ drawN, c < 256 := by decide +kernel
/-- the codes that texts have -/
def sOk (c : Nat) : Bool := decide (32 ≤ c) && decide (c ≤ 126) && !decide (c = 37)
def sgAll (c : Nat) : Bool := match m_sign_of (.int (c : Nat)) with
  | .ok (.str z) _ => z.cps.toList == (if sOk c then [c] else [])
  | _ => false
theorem sgAll_all : ∀ c < 256, sgAll c = true := by decide +kernel
theorem sign_of_gen {c : Nat} (h : c < 256) : m_sign_of (.int (c : Nat)) = .ok (.str (tx (if sOk c then [c] else []))) () := by
  have h := sgAll_all c h
  unfold sgAll at h
  split at h
  · rename_i z s e
    rw [e]
    have h : z.cps.toList = if sOk c then [c] else [] := by simpa using h
    rw [← h, ← tx_eq]
  · cases h
theorem text_from_ok {few xs more : List Nat} (ho : ∀ n ∈ few ++ (grp xs.length ++ xs) ++ more, n < 256) (hl : few.length + xs.length + more.length ≤ 800000) (hx : ∀ c ∈ xs, c ∈ drawN) : m_text_from (.tup (oN (few ++ (grp xs.length ++ xs) ++ more))) (.int (few.length : Nat)) = .ok (.tup [.str (tx xs), .int ((few.length + (grp xs.length ++ xs).length : Nat))]) () := by
  have e1 := row_from_ok ho hl
  have e2 : iterD (.tup (oN xs)) = some (oN xs) := rfl
  have e3 := map_sg (f := m_sign_of) (cs := xs) fun c hc => sign_of_ok (hx c hc)
  have e4 : inC (.str "") (.lst (sg xs)) = some false := e_in0
  have e5 : joinD (.str "") (.lst (sg xs)) = some (.str (tx xs)) := e_joinX (by omega)
  have e6 : isTy "str" (.str "") = true := rfl
  unfold m_text_from
  simp (config := { implicitDefEqProofs := false }) only [got_o, got_e, bind_o, bind_e, opt_s, gotO_s, guard_t, outB_nx, outB_bk, outB_ct, outB_rt, outB_er, un2_t, un2_l, un3_t, un3_l, un4_t, un4_l, noer_o, stepB_nx, stepB_ct, stepB_bk, stepB_rt, stepB_er, e1, e2, e3, chkR_ok (show (sg xs).length ≤ 16777216 by rw [sg_len]; omega), e4, Bool.false_eq_true, if_false, e6, e5]
/-- the text that is written at an index, and the index behind it -/
def textAt (l : List Nat) (at_ : Nat) : Option (List Nat × Nat) := match rowAt l at_ with
  | some (xs, e) => if xs.all sOk then some (xs, e) else none
  | none => none
def textR (at_ : Nat) : Option (List Nat × Nat) → P D
  | some (xs, e) => .ok (.tup [.str (tx xs), .int (e : Nat)]) ()
  | none => .er "BadOctets" [("value", .int (at_ : Nat))] ()
theorem rowAt_mem {l : List Nat} {at_ e : Nat} {xs : List Nat} (h : rowAt l at_ = some (xs, e)) : (∀ n ∈ xs, n ∈ l) ∧ xs.length ≤ l.length := by
  unfold rowAt at h
  split at h
  · split at h
    · cases h
      exact ⟨fun n hn => List.mem_of_mem_drop (List.mem_of_mem_take hn), by simp; omega⟩
    · cases h
  · cases h
theorem in0_any : ∀ {xs : List Nat}, inF (.str (tx [])) (xs.map fun c => .str (tx (if sOk c then [c] else []))) = !xs.all sOk
  | [] => rfl
  | c :: xs => by
    have e : ∀ (x y : D) (l : List D), inF x (y :: l) = (eqF y x || inF x l) := fun x y l => rfl
    rw [List.map_cons, e, in0_any, List.all_cons]
    have e2 : eqF (.str (tx (if sOk c then [c] else []))) (.str (tx [])) = !sOk c := by
      show (decide (tx (if sOk c then [c] else []) = tx [])) = _
      cases q : sOk c with
      | true =>
        exact decide_eq_false fun h => by
          have := tx_inj h
          simp at this
      | false => exact decide_eq_true (by simp)
    rw [e2]
    cases sOk c <;> cases xs.all sOk <;> rfl
theorem text_from_gen {l : List Nat} (hl : ∀ n ∈ l, n < 256) (hz : l.length < 900000) {at_ : Nat} (ha : at_ ≤ l.length) : m_text_from (.tup (oN l)) (.int (at_ : Nat)) = textR at_ (textAt l at_) := by
  unfold m_text_from textAt
  rw [row_from_gen hl hz ha]
  cases q : rowAt l at_ with
  | none => rfl
  | some xe =>
    obtain ⟨xs, e⟩ := xe
    obtain ⟨h1, h2⟩ := rowAt_mem q
    have e1 : iterD (.tup (oN xs)) = some (oN xs) := rfl
    have e3 : inC (.str (tx [])) (.lst (xs.map fun c => .str (tx (if sOk c then [c] else [])))) = some (!xs.all sOk) := by
      show (if _ then _ else _) = _
      rw [if_pos ⟨rfl, by rw [List.all_map]; simp [flatD]⟩, in0_any]
    simp only [rowR, got_o, got_e, bind_o, bind_e, opt_s, gotO_s, guard_t, outB_nx, outB_bk, outB_ct, outB_rt, outB_er, un2_t, un2_l, un3_t, un3_l, un4_t, un4_l, noer_o, stepB_nx, stepB_ct, stepB_bk, stepB_rt, stepB_er, e1]
    unfold oN
    rw [mapR_map (b := fun c : Nat => .str (tx (if sOk c then [c] else []))) fun c hc => ?_]
    · rw [chk_map (by omega)]
      simp (config := { implicitDefEqProofs := false }) only [got_o, got_e, bind_o, bind_e, opt_s, gotO_s, guard_t, outB_nx, outB_bk, outB_ct, outB_rt, outB_er, un2_t, un2_l, un3_t, un3_l, un4_t, un4_l, noer_o, stepB_nx, stepB_ct, stepB_bk, stepB_rt, stepB_er]
      rw [show (D.str "") = .str (tx []) from rfl, e3]
      simp (config := { implicitDefEqProofs := false }) only [got_o, got_e, bind_o, bind_e, opt_s, gotO_s, guard_t, outB_nx, outB_bk, outB_ct, outB_rt, outB_er, un2_t, un2_l, un3_t, un3_l, un4_t, un4_l, noer_o, stepB_nx, stepB_ct, stepB_bk, stepB_rt, stepB_er]
      cases qa : xs.all sOk with
      | true =>
        have e4 : xs.map (fun c => D.str (tx (if sOk c then [c] else []))) = sg xs := List.map_congr_left fun c hc => by rw [if_pos (List.all_eq_true.mp qa c hc)]
        have e6 : isTy "str" (.str (tx [])) = true := rfl
        rw [e4]
        simp only [Bool.not_true, Bool.false_eq_true, if_false, e6, got_o, got_e, bind_o, bind_e, opt_s, gotO_s, guard_t, outB_nx, outB_bk, outB_ct, outB_rt, outB_er, un2_t, un2_l, un3_t, un3_l, un4_t, un4_l, noer_o, stepB_nx, stepB_ct, stepB_bk, stepB_rt, stepB_er, e_joinX (show xs.length ≤ 16777216 by omega), if_true, textR]
      | false => simp only [Bool.not_false, if_true, Bool.false_eq_true, if_false, textR]
    · simp only [sign_of_gen (hl c (h1 c hc)), noer_o]

theorem check_index_ok {l : List Nat} (h : ∀ n ∈ l, n < 256) {d : D} (hd : d = .tup (oN l) ∨ d = .lst (oN l)) {k : Nat} (hk : k ≤ l.length) : m_check_index d (.int (k : Nat)) = .ok (.tup (oN l)) () := by
  have e1 : wiB (.int (k : Nat)) 0 (l.length : Nat) = true := by simp [wiB]; omega
  unfold m_check_index
  simp (config := { implicitDefEqProofs := false }) only [got_o, got_e, bind_o, bind_e, opt_s, gotO_s, guard_t, outB_nx, outB_bk, outB_ct, outB_rt, outB_er, un2_t, un2_l, un3_t, un3_l, un4_t, un4_l, noer_o, stepB_nx, stepB_ct, stepB_bk, stepB_rt, stepB_er, checked_ok h hd, e_lenT, oN_len, is_within_ok (d := .int (k : Nat)) rfl, e1, e_truB, Bool.not_true, Bool.false_eq_true, if_false]
theorem check_index_bad {d : D} {i : Int} (h : BadRow d i) {k : D} : m_check_index d k = .er "BadOctets" [("value", .int i)] () := by
  unfold m_check_index
  simp (config := { implicitDefEqProofs := false }) only [got_o, got_e, bind_o, bind_e, opt_s, gotO_s, guard_t, outB_nx, outB_bk, outB_ct, outB_rt, outB_er, un2_t, un2_l, un3_t, un3_l, un4_t, un4_l, noer_o, stepB_nx, stepB_ct, stepB_bk, stepB_rt, stepB_er, h.1]
theorem check_index_odd {l : List Nat} (h : ∀ n ∈ l, n < 256) {d k : D} (hd : d = .tup (oN l) ∨ d = .lst (oN l)) (ht : (tyN k).isSome = true) (hk : wiB k 0 (l.length : Nat) = false) : m_check_index d k = .er "BadOctets" [("value", k)] () := by
  unfold m_check_index
  simp (config := { implicitDefEqProofs := false }) only [got_o, got_e, bind_o, bind_e, opt_s, gotO_s, guard_t, outB_nx, outB_bk, outB_ct, outB_rt, outB_er, un2_t, un2_l, un3_t, un3_l, un4_t, un4_l, noer_o, stepB_nx, stepB_ct, stepB_bk, stepB_rt, stepB_er, checked_ok h hd, e_lenT, oN_len, is_within_ok ht, hk, e_truB, Bool.not_false, if_true]

/-- what a reader says at the place where w was written -/
def Reads (f : D → D → P D) (w : List Nat) (thing : D) : Prop := ∀ (few more : List Nat) (d : D), (∀ n ∈ few ++ w ++ more, n < 256) → few.length ≤ 100 → more.length ≤ 100 → (d = .tup (oN (few ++ w ++ more)) ∨ d = .lst (oN (few ++ w ++ more))) → f d (.int (few.length : Nat)) = .ok (.tup [thing, .int ((few.length + w.length : Nat))]) ()
theorem read_number_ok {n : Nat} (hn : n ≤ 1000000000000000) : Reads m_read_number (grp n) (.int (n : Nat)) := fun few more d ho hf hm hd => by
  have g := grp_len (k := 7) (n := n) (by omega)
  have e0 : (few ++ grp n ++ more).drop few.length = grp n ++ more := by simp
  have e1 := number_from_ok ho (by simp; omega) (at_ := few.length) (by simp)
  rw [e0, rdNum_grp (n := n) (acc := 0) (w := 1) (by omega) (by omega) (by decide), Nat.zero_add, Nat.mul_one] at e1
  have e1 : m_number_from (.tup (oN (few ++ grp n ++ more))) (.int (few.length : Nat)) = .ok (.tup [.int (n : Nat), .int ((few.length + (grp n).length : Nat))]) () := e1
  unfold m_read_number
  simp (config := { implicitDefEqProofs := false }) only [got_o, got_e, bind_o, bind_e, opt_s, gotO_s, guard_t, outB_nx, outB_bk, outB_ct, outB_rt, outB_er, un2_t, un2_l, un3_t, un3_l, un4_t, un4_l, noer_o, stepB_nx, stepB_ct, stepB_bk, stepB_rt, stepB_er, check_index_ok ho hd (k := few.length) (by simp), e1]
theorem read_number_bad {d : D} {i : Int} (h : BadRow d i) {k : D} : m_read_number d k = .er "BadOctets" [("value", .int i)] () := by
  unfold m_read_number
  simp (config := { implicitDefEqProofs := false }) only [got_o, got_e, bind_o, bind_e, opt_s, gotO_s, guard_t, outB_nx, outB_bk, outB_ct, outB_rt, outB_er, un2_t, un2_l, un3_t, un3_l, un4_t, un4_l, noer_o, stepB_nx, stepB_ct, stepB_bk, stepB_rt, stepB_er, check_index_bad h]

theorem read_row_ok {xs : List Nat} (hl : xs.length ≤ 700000) : Reads m_read_row (grp xs.length ++ xs) (.tup (oN xs)) := fun few more d ho hf hm hd => by
  unfold m_read_row
  simp (config := { implicitDefEqProofs := false }) only [got_o, got_e, bind_o, bind_e, opt_s, gotO_s, guard_t, outB_nx, outB_bk, outB_ct, outB_rt, outB_er, un2_t, un2_l, un3_t, un3_l, un4_t, un4_l, noer_o, stepB_nx, stepB_ct, stepB_bk, stepB_rt, stepB_er, check_index_ok ho hd (k := few.length) (by simp), row_from_ok ho (by omega)]
theorem read_row_bad {d : D} {i : Int} (h : BadRow d i) {k : D} : m_read_row d k = .er "BadOctets" [("value", .int i)] () := by
  unfold m_read_row
  simp (config := { implicitDefEqProofs := false }) only [got_o, got_e, bind_o, bind_e, opt_s, gotO_s, guard_t, outB_nx, outB_bk, outB_ct, outB_rt, outB_er, un2_t, un2_l, un3_t, un3_l, un4_t, un4_l, noer_o, stepB_nx, stepB_ct, stepB_bk, stepB_rt, stepB_er, check_index_bad h]

theorem read_text_ok {xs : List Nat} (hl : xs.length ≤ 700000) (hx : ∀ c ∈ xs, c ∈ drawN) : Reads m_read_text (grp xs.length ++ xs) (.str (tx xs)) := fun few more d ho hf hm hd => by
  unfold m_read_text
  simp (config := { implicitDefEqProofs := false }) only [got_o, got_e, bind_o, bind_e, opt_s, gotO_s, guard_t, outB_nx, outB_bk, outB_ct, outB_rt, outB_er, un2_t, un2_l, un3_t, un3_l, un4_t, un4_l, noer_o, stepB_nx, stepB_ct, stepB_bk, stepB_rt, stepB_er, check_index_ok ho hd (k := few.length) (by simp), text_from_ok ho (by omega) hx]
theorem read_text_bad {d : D} {i : Int} (h : BadRow d i) {k : D} : m_read_text d k = .er "BadOctets" [("value", .int i)] () := by
  unfold m_read_text
  simp (config := { implicitDefEqProofs := false }) only [got_o, got_e, bind_o, bind_e, opt_s, gotO_s, guard_t, outB_nx, outB_bk, outB_ct, outB_rt, outB_er, un2_t, un2_l, un3_t, un3_l, un4_t, un4_l, noer_o, stepB_nx, stepB_ct, stepB_bk, stepB_rt, stepB_er, check_index_bad h]

/-- the row of a law: the script, how far it is read, the state, what is left of a large number -/
def RowL (xs : List D) : Prop := ∃ (ns : List Int) (i s l : Int), xs = [.scr ns, .int i, .int s, .int l] ∧ 0 ≤ i ∧ 0 ≤ s ∧ s < 2147483647
theorem taken_ok {row : List D} {m : Int} (hr : RowL row) (m0 : 0 < m) (m1 : m < 18446744073709551616) : ∃ (v : Int) (row' : List D), m__law_taken row (.int m) = .ok (.int v) (row', ()) ∧ 0 ≤ v ∧ v < m ∧ RowL row' := by
  obtain ⟨ns, i, s, l, rfl, h0, h1, h2⟩ := hr
  unfold m__law_taken
  have w1 : ∀ (a b c d : D), ixW [a, b, c, d].length (.int 1) = some 1 := fun _ _ _ _ => e_ixW (by decide) (by simp)
  have w2 : ∀ (a b c d : D), ixW [a, b, c, d].length (.int 2) = some 2 := fun _ _ _ _ => e_ixW (by decide) (by simp)
  have w3 : ∀ (a b c d : D), ixW [a, b, c, d].length (.int 3) = some 3 := fun _ _ _ _ => e_ixW (by decide) (by simp)
  have s1 : ∀ (a b c d x : D), [a, b, c, d].set 1 x = [a, x, c, d] := fun _ _ _ _ _ => rfl
  have s2 : ∀ (a b c d x : D), [a, b, c, d].set 2 x = [a, b, x, d] := fun _ _ _ _ _ => rfl
  have s3 : ∀ (a b c d x : D), [a, b, c, d].set 3 x = [a, b, c, x] := fun _ _ _ _ _ => rfl
  simp (config := { implicitDefEqProofs := false }) only [got_o, got_e, bind_o, bind_e, opt_s, gotO_s, guard_t, outB_nx, outB_bk, outB_ct, outB_rt, outB_er, un2_t, un2_l, un3_t, un3_l, un4_t, un4_l, noer_o, stepB_nx, stepB_ct, stepB_bk, stepB_rt, stepB_er, e_l0, e_l1, e_l2, e_l3, e_gt, e_add, e_int, e_lenR, w1, w2, w3, s1, s2, s3, e_sub, e_mod m0, e_fdiv m0 m1, e_mulR (show (-18446744073709551616 : Int) < 48271 by decide) (by decide), e_mod (show (0 : Int) < 2147483647 by decide), e_fdiv (show (0 : Int) < 7 by decide) (by decide),
    e_pow (show (0 : Int) ≤ 18 by decide) (by decide) (show (-18446744073709551616 : Int) < 10 by decide) (by decide)]
  by_cases hl : 0 < l
  · simp only [hl, decide_true, if_true]
    exact ⟨_, _, rfl, Int.emod_nonneg _ (by omega), Int.emod_lt_of_pos _ m0, ns, i, s, l / m, rfl, h0, h1, h2⟩
  · simp only [hl, decide_false, Bool.false_eq_true, if_false]
    by_cases hi : (ns.length : Int) < i + 1
    · simp only [hi, decide_true, if_true]
      exact ⟨_, _, rfl, Int.emod_nonneg _ (by omega), Int.emod_lt_of_pos _ m0, ns, i + 1, _, l, rfl, by omega, Int.emod_nonneg _ (by omega), Int.emod_lt_of_pos _ (by omega)⟩
    · have e1 : i + 1 - 1 = i := by omega
      simp only [hi, decide_false, Bool.false_eq_true, if_false, e1, e_rI h0 (show i < ns.length by omega), got_o, got_e, bind_o, bind_e, opt_s, gotO_s, guard_t, outB_nx, outB_bk, outB_ct, outB_rt, outB_er, un2_t, un2_l, un3_t, un3_l, un4_t, un4_l, noer_o, stepB_nx, stepB_ct, stepB_bk, stepB_rt, stepB_er, e_add, e_int, e_ge, e_mod (show (0 : Int) < 2147483647 by decide), e_fdiv m0 m1, w3, s3]
      by_cases hc : (10 : Int) ^ (18 : Int).toNat ≤ ns[i.toNat]
      · simp only [hc, decide_true, if_true, got_o, got_e, bind_o, bind_e, opt_s, gotO_s, guard_t, outB_nx, outB_bk, outB_ct, outB_rt, outB_er, un2_t, un2_l, un3_t, un3_l, un4_t, un4_l, noer_o, stepB_nx, stepB_ct, stepB_bk, stepB_rt, stepB_er, e_mod m0]
        exact ⟨_, _, rfl, Int.emod_nonneg _ (by omega), Int.emod_lt_of_pos _ m0, ns, i + 1, _, _, rfl, by omega, Int.emod_nonneg _ (by omega), Int.emod_lt_of_pos _ (by omega)⟩
      · simp only [hc, decide_false, Bool.false_eq_true, if_false, got_o, got_e, bind_o, bind_e, opt_s, gotO_s, guard_t, outB_nx, outB_bk, outB_ct, outB_rt, outB_er, un2_t, un2_l, un3_t, un3_l, un4_t, un4_l, noer_o, stepB_nx, stepB_ct, stepB_bk, stepB_rt, stepB_er, e_mod m0]
        exact ⟨_, _, rfl, Int.emod_nonneg _ (by omega), Int.emod_lt_of_pos _ m0, ns, i + 1, _, l, rfl, by omega, Int.emod_nonneg _ (by omega), Int.emod_lt_of_pos _ (by omega)⟩
theorem row_start {ns : List Int} {s : Int} (h : 0 ≤ s) (h2 : s < 2147483647) : RowL [.scr ns, .int 0, .int s, .int 0] := ⟨ns, 0, s, 0, rfl, by decide, h, h2⟩

theorem pick_ok {row xs : List D} (hr : RowL row) (h0 : 0 < xs.length) (h1 : xs.length ≤ 16777216) : ∃ (v : D) (row' : List D), m__law_pick row (.lst xs) = .ok v (row', ()) ∧ v ∈ xs ∧ RowL row' := by
  obtain ⟨k, row', e, k0, k1, r'⟩ := taken_ok (m := (xs.length : Int)) hr (by omega) (by omega)
  refine ⟨_, row', ?_, List.getElem_mem (show k.toNat < xs.length by omega), r'⟩
  unfold m__law_pick
  simp (config := { implicitDefEqProofs := false }) only [got_o, got_e, bind_o, bind_e, opt_s, gotO_s, guard_t, outB_nx, outB_bk, outB_ct, outB_rt, outB_er, un2_t, un2_l, un3_t, un3_l, un4_t, un4_l, noer_o, stepB_nx, stepB_ct, stepB_bk, stepB_rt, stepB_er, e_lenL, e, e_lI k0 k1]
theorem pick_okT {row xs : List D} (hr : RowL row) (h0 : 0 < xs.length) (h1 : xs.length ≤ 16777216) : ∃ (v : D) (row' : List D), m__law_pick row (.tup xs) = .ok v (row', ()) ∧ v ∈ xs ∧ RowL row' := by
  obtain ⟨k, row', e, k0, k1, r'⟩ := taken_ok (m := (xs.length : Int)) hr (by omega) (by omega)
  refine ⟨_, row', ?_, List.getElem_mem (show k.toNat < xs.length by omega), r'⟩
  unfold m__law_pick
  simp (config := { implicitDefEqProofs := false }) only [got_o, got_e, bind_o, bind_e, opt_s, gotO_s, guard_t, outB_nx, outB_bk, outB_ct, outB_rt, outB_er, un2_t, un2_l, un3_t, un3_l, un4_t, un4_l, noer_o, stepB_nx, stepB_ct, stepB_bk, stepB_rt, stepB_er, e_lenT, e, e_tI k0 k1]

/-- data that are alike themselves -/
def plain : Nat → D → Prop
  | 0, _ => False
  | n + 1, d => match d with
    | .non => True
    | .bl _ => True
    | .int _ => True
    | .str _ => True
    | .lst xs => xs.length ≤ 16777216 ∧ ∀ x ∈ xs, plain n x
    | .tup xs => xs.length ≤ 16777216 ∧ ∀ x ∈ xs, plain n x
    | .dic kvs => kvs.length ≤ 16777216 ∧ neC (.lst (kvs.map fun kv => kD kv.1)) (.lst (kvs.map fun kv => kD kv.1)) = some false ∧ ∀ kv ∈ kvs, ∃ v, ixD (.dic kvs) (kD kv.1) = some v ∧ plain n v
    | _ => False
theorem lc_none {f : D → P (Option D)} : ∀ {xs : List D}, (∀ x ∈ xs, f x = .ok none ()) → lcR f xs = .ok [] ()
  | [], _ => rfl
  | x :: xs, h => by
    have := lc_none (xs := xs) fun y hy => h y (by simp [hy])
    simp only [lcR, h x (by simp), this, bind_o]
theorem alike_self (n : Nat) : ∀ (d : D), plain n d → m__law_alike n d d = .ok (.bl true) () := by
  induction n with
  | zero => exact fun d h => h.elim
  | succ n ih =>
    intro d h
    have is1 : ∀ b : Bool, eqC (.bl b) (.bl b) = some true := fun b => by rw [e_eqB]; simp
    have is2 : ∀ b : Bool, neC (.bl b) (.bl b) = some false := fun b => by rw [e_neB]; simp
    have is3 : ∀ z : Str, eqC (.str z) (.str z) = some true := fun z => by rw [e_eqS]; simp
    have is4 : ∀ i : Int, eqC (.int i) (.int i) = some true := fun i => by rw [e_eqI]; simp
    have is5 : ∀ i : Int, neC (.int i) (.int i) = some false := fun i => by rw [e_neI]; simp
    have is6 : eqC (.lst []) (.lst []) = some true := rfl
    have is7 : chkR (.ok [] ()) = .ok [] () := rfl
    cases d with
    | non =>
      have t1 : isiD .non (.tup [.ty "tuple", .ty "list"]) = some false := rfl
      have t2 : isiD .non (.ty "dict") = some false := rfl
      have t3 : isiD .non (.ty "str") = some false := rfl
      have t4 : eqC .non .non = some true := rfl
      unfold m__law_alike
      simp (config := { implicitDefEqProofs := false }) only [got_o, got_e, bind_o, bind_e, opt_s, gotO_s, guard_t, outB_nx, outB_bk, outB_ct, outB_rt, outB_er, un2_t, un2_l, un3_t, un3_l, un4_t, un4_l, noer_o, stepB_nx, stepB_ct, stepB_bk, stepB_rt, stepB_er, t1, t2, t3, t4, Bool.false_eq_true, if_false, if_true, KD.isNon, is1]
    | bl b =>
      have t1 : isiD (.bl b) (.tup [.ty "tuple", .ty "list"]) = some false := rfl
      have t2 : isiD (.bl b) (.ty "dict") = some false := rfl
      have t3 : isiD (.bl b) (.ty "str") = some false := rfl
      have t4 : isiD (.bl b) (.ty "int") = some true := rfl
      have t5 : isiD (.bl b) (.ty "bool") = some true := rfl
      unfold m__law_alike
      simp (config := { implicitDefEqProofs := false }) only [got_o, got_e, bind_o, bind_e, opt_s, gotO_s, guard_t, outB_nx, outB_bk, outB_ct, outB_rt, outB_er, un2_t, un2_l, un3_t, un3_l, un4_t, un4_l, noer_o, stepB_nx, stepB_ct, stepB_bk, stepB_rt, stepB_er, t1, t2, t3, t4, t5, Bool.false_eq_true, if_false, if_true, KD.isNon, is1]
    | int i =>
      unfold m__law_alike
      simp (config := { implicitDefEqProofs := false }) only [got_o, got_e, bind_o, bind_e, opt_s, gotO_s, guard_t, outB_nx, outB_bk, outB_ct, outB_rt, outB_er, un2_t, un2_l, un3_t, un3_l, un4_t, un4_l, noer_o, stepB_nx, stepB_ct, stepB_bk, stepB_rt, stepB_er, e_isTL_int, e_isD_int, e_isS_int, e_isI_int, e_isB_int, Bool.false_eq_true, if_false, if_true, KD.isNon, is1, is4]
    | str z =>
      have t1 : isiD (.str z) (.tup [.ty "tuple", .ty "list"]) = some false := rfl
      have t2 : isiD (.str z) (.ty "dict") = some false := rfl
      have t3 : isiD (.str z) (.ty "str") = some true := rfl
      unfold m__law_alike
      simp (config := { implicitDefEqProofs := false }) only [got_o, got_e, bind_o, bind_e, opt_s, gotO_s, guard_t, outB_nx, outB_bk, outB_ct, outB_rt, outB_er, un2_t, un2_l, un3_t, un3_l, un4_t, un4_l, noer_o, stepB_nx, stepB_ct, stepB_bk, stepB_rt, stepB_er, t1, t2, t3, Bool.false_eq_true, if_false, if_true, KD.isNon, is1, is3]
    | lst xs =>
      obtain ⟨h1, h2⟩ := h
      have t1 : isiD (.lst xs) (.tup [.ty "tuple", .ty "list"]) = some true := rfl
      have t2 : isiD (.lst xs) (.ty "list") = some true := rfl
      unfold m__law_alike
      simp (config := { implicitDefEqProofs := false }) only [got_o, got_e, bind_o, bind_e, opt_s, gotO_s, guard_t, outB_nx, outB_bk, outB_ct, outB_rt, outB_er, un2_t, un2_l, un3_t, un3_l, un4_t, un4_l, noer_o, stepB_nx, stepB_ct, stepB_bk, stepB_rt, stepB_er, t1, t2, Bool.not_true, Bool.false_eq_true, if_false, if_true, is2, is5, e_lenL, e_rng1N (show xs.length < 4611686018427387904 by omega)]
      rw [lc_none fun x hx => by
        obtain ⟨k, hk, rfl⟩ := mem_range hx
        have e : (0 : Int) + (k : Nat) = (k : Nat) := by omega
        rw [e]
        simp (config := { implicitDefEqProofs := false }) only [got_o, got_e, bind_o, bind_e, opt_s, gotO_s, guard_t, outB_nx, outB_bk, outB_ct, outB_rt, outB_er, un2_t, un2_l, un3_t, un3_l, un4_t, un4_l, noer_o, stepB_nx, stepB_ct, stepB_bk, stepB_rt, stepB_er, e_lN hk, ih _ (h2 _ (List.getElem_mem hk)), e_truB, Bool.not_true, Bool.false_eq_true, if_false]]
      simp only [is7, got_o, got_e, bind_o, bind_e, opt_s, gotO_s, guard_t, outB_nx, outB_bk, outB_ct, outB_rt, outB_er, un2_t, un2_l, un3_t, un3_l, un4_t, un4_l, noer_o, stepB_nx, stepB_ct, stepB_bk, stepB_rt, stepB_er, is6]
    | tup xs =>
      obtain ⟨h1, h2⟩ := h
      have t1 : isiD (.tup xs) (.tup [.ty "tuple", .ty "list"]) = some true := rfl
      have t2 : isiD (.tup xs) (.ty "list") = some false := rfl
      unfold m__law_alike
      simp (config := { implicitDefEqProofs := false }) only [got_o, got_e, bind_o, bind_e, opt_s, gotO_s, guard_t, outB_nx, outB_bk, outB_ct, outB_rt, outB_er, un2_t, un2_l, un3_t, un3_l, un4_t, un4_l, noer_o, stepB_nx, stepB_ct, stepB_bk, stepB_rt, stepB_er, t1, t2, Bool.not_true, Bool.false_eq_true, if_false, if_true, is2, is5, e_lenT, e_rng1N (show xs.length < 4611686018427387904 by omega)]
      rw [lc_none fun x hx => by
        obtain ⟨k, hk, rfl⟩ := mem_range hx
        have e : (0 : Int) + (k : Nat) = (k : Nat) := by omega
        rw [e]
        simp (config := { implicitDefEqProofs := false }) only [got_o, got_e, bind_o, bind_e, opt_s, gotO_s, guard_t, outB_nx, outB_bk, outB_ct, outB_rt, outB_er, un2_t, un2_l, un3_t, un3_l, un4_t, un4_l, noer_o, stepB_nx, stepB_ct, stepB_bk, stepB_rt, stepB_er, e_tN hk, ih _ (h2 _ (List.getElem_mem hk)), e_truB, Bool.not_true, Bool.false_eq_true, if_false]]
      simp only [is7, got_o, got_e, bind_o, bind_e, opt_s, gotO_s, guard_t, outB_nx, outB_bk, outB_ct, outB_rt, outB_er, un2_t, un2_l, un3_t, un3_l, un4_t, un4_l, noer_o, stepB_nx, stepB_ct, stepB_bk, stepB_rt, stepB_er, is6]
    | dic kvs =>
      obtain ⟨h0, h1, h2⟩ := h
      have t1 : isiD (.dic kvs) (.tup [.ty "tuple", .ty "list"]) = some false := rfl
      have t2 : isiD (.dic kvs) (.ty "dict") = some true := rfl
      have t3 : listD (.dic kvs) = some (.lst (kvs.map fun kv => kD kv.1)) := rfl
      have t4 : iterD (.dic kvs) = some (kvs.map fun kv => kD kv.1) := rfl
      unfold m__law_alike
      simp (config := { implicitDefEqProofs := false }) only [got_o, got_e, bind_o, bind_e, opt_s, gotO_s, guard_t, outB_nx, outB_bk, outB_ct, outB_rt, outB_er, un2_t, un2_l, un3_t, un3_l, un4_t, un4_l, noer_o, stepB_nx, stepB_ct, stepB_bk, stepB_rt, stepB_er, t1, t2, t3, t4, h1, Bool.not_true, Bool.false_eq_true, if_false, if_true]
      rw [lc_none fun x hx => by
        obtain ⟨kv, hk, rfl⟩ := List.mem_map.mp hx
        obtain ⟨v, e, hv⟩ := h2 kv hk
        simp (config := { implicitDefEqProofs := false }) only [got_o, got_e, bind_o, bind_e, opt_s, gotO_s, guard_t, outB_nx, outB_bk, outB_ct, outB_rt, outB_er, un2_t, un2_l, un3_t, un3_l, un4_t, un4_l, noer_o, stepB_nx, stepB_ct, stepB_bk, stepB_rt, stepB_er, e, ih v hv, e_truB, Bool.not_true, Bool.false_eq_true, if_false]]
      simp only [is7, got_o, got_e, bind_o, bind_e, opt_s, gotO_s, guard_t, outB_nx, outB_bk, outB_ct, outB_rt, outB_er, un2_t, un2_l, un3_t, un3_l, un4_t, un4_l, noer_o, stepB_nx, stepB_ct, stepB_bk, stepB_rt, stepB_er, is6]
    | ref a => exact h.elim
    | scr ns => exact h.elim
    | ty t => exact h.elim
    | dit t => exact h.elim
    | fn t => exact h.elim
theorem plain_mono : ∀ {n m : Nat} {d : D}, n ≤ m → plain n d → plain m d
  | 0, _, _, _, h => h.elim
  | n + 1, 0, _, hl, _ => absurd hl (by omega)
  | n + 1, m + 1, d, hl, h => by
    cases d with
    | lst xs => exact ⟨h.1, fun x hx => plain_mono (by omega) (h.2 x hx)⟩
    | tup xs => exact ⟨h.1, fun x hx => plain_mono (by omega) (h.2 x hx)⟩
    | dic kvs => exact ⟨h.1, h.2.1, fun kv hk => let ⟨v, e, p⟩ := h.2.2 kv hk; ⟨v, e, plain_mono (by omega) p⟩⟩
    | _ => exact h

theorem mem_two {d a b : D} (h : d ∈ [a, b]) : d = a ∨ d = b := by simpa using h
theorem octets_ok {row : List D} {most : Nat} (hr : RowL row) (hm : most ≤ 900000) : ∃ (l : List Nat) (row' : List D), m__law_octets row (.int (most : Nat)) = .ok (.tup (oN l)) (row', ()) ∧ (∀ n ∈ l, n < 256) ∧ l.length ≤ most ∧ RowL row' := by
  suffices h : Ok (m__law_octets row (.int (most : Nat))) fun d s => ∃ l : List Nat, d = .tup (oN l) ∧ (∀ n ∈ l, n < 256) ∧ l.length ≤ most ∧ RowL s.1 by
    obtain ⟨d, ⟨row', ⟨⟩⟩, e, l, rfl, h1, h2, h3⟩ := h.ex
    exact ⟨l, row', e, h1, h2, h3⟩
  unfold m__law_octets
  obtain ⟨many, r1, e1, m0, m1, hr1⟩ := taken_ok (m := (most : Int) + 1) hr (by omega) (by omega)
  obtain ⟨kind, r2, e2, k0, k1, hr2⟩ := taken_ok (m := 4) hr1 (by decide) (by decide)
  obtain ⟨many, rfl⟩ : ∃ k : Nat, many = k := ⟨many.toNat, by omega⟩
  have hmm : many ≤ most := by omega
  rw [show rng1 (.int 2) = some (rangeD 0 2) from rfl]
  simp (config := { implicitDefEqProofs := false }) only [got_o, got_e, bind_o, bind_e, opt_s, gotO_s, guard_t, outB_nx, outB_bk, outB_ct, outB_rt, outB_er, un2_t, un2_l, un3_t, un3_l, un4_t, un4_l, noer_o, stepB_nx, stepB_ct, stepB_bk, stepB_rt, stepB_er, e_add, e1, e2]
  refine ok_ok _ (lc_all (fun t => RowL t.1) (fun d => ∃ n : Nat, d = .int (n : Nat) ∧ n < 256) hr2 fun x hx t ht => ?_) fun ys s hys => ?_
  · obtain ⟨v, r3, e3, v0, v1, hr3⟩ := taken_ok (m := 256) ht (by decide) (by decide)
    simp (config := { implicitDefEqProofs := false }) only [got_o, got_e, bind_o, bind_e, opt_s, gotO_s, guard_t, outB_nx, outB_bk, outB_ct, outB_rt, outB_er, un2_t, un2_l, un3_t, un3_l, un4_t, un4_l, noer_o, stepB_nx, stepB_ct, stepB_bk, stepB_rt, stepB_er, if_true, e3]
    exact ⟨_, rfl, ⟨v.toNat, by congr 1; omega, by omega⟩, hr3⟩
  obtain ⟨hl, hq, hr3⟩ := hys
  obtain ⟨few, rfl, hf⟩ := oN_of hq
  rw [range_len, oN_len] at hl
  simp only [e_size (show (oN few).length ≤ 16777216 by rw [oN_len]; omega), got_o, got_e, bind_o, bind_e, opt_s, gotO_s, guard_t, outB_nx, outB_bk, outB_ct, outB_rt, outB_er, un2_t, un2_l, un3_t, un3_l, un4_t, un4_l, noer_o, stepB_nx, stepB_ct, stepB_bk, stepB_rt, stepB_er]
  let I : List D × List D × Unit → Prop := fun t => RowL t.1 ∧ ∃ l : List Nat, t.2.1 = oN l ∧ (∀ n ∈ l, n < 256) ∧ l.length ≤ many + 7
  refine nx_ok I (while_ok I I (fun t => many + 7 - t.2.1.length) (fun t ht => ?_) _ _ ⟨hr3, [], rfl, by simp, by simp⟩ (by show many + 7 - 0 < 1000000; omega)) fun t ht => ?_
  · obtain ⟨row, found, ⟨⟩⟩ := t
    obtain ⟨hrow, l, rfl, ho, hlen⟩ := ht
    refine ⟨decide (l.length < many), ?_, fun _ => ⟨hrow, l, rfl, ho, hlen⟩, fun hg => ?_⟩
    · simp (config := { implicitDefEqProofs := false }) only [got_o, got_e, bind_o, bind_e, opt_s, gotO_s, guard_t, outB_nx, outB_bk, outB_ct, outB_rt, outB_er, un2_t, un2_l, un3_t, un3_l, un4_t, un4_l, noer_o, stepB_nx, stepB_ct, stepB_bk, stepB_rt, stepB_er, e_lenL, e_lt, oN_len, Int.ofNat_lt]
    have hg : l.length < many := of_decide_eq_true hg
    have add1 : ∀ {r : List D} {n : Nat}, RowL r → n < 256 → (I (r, oN l ++ [.int (n : Nat)], ()) ∧ many + 7 - (oN l ++ [D.int (n : Nat)]).length < many + 7 - (oN l).length) := fun {r n} h1 h2 => by
      refine ⟨⟨h1, l ++ [n], by rw [oN_app]; rfl, fun m hm => ?_, by simp; omega⟩, by simp [oN_len]; omega⟩
      rcases List.mem_append.mp hm with h | h
      · exact ho m h
      · simp at h; omega
    have sz : (oN l).length + 1 ≤ 16777216 := by rw [oN_len]; omega
    simp (config := { implicitDefEqProofs := false }) only [got_o, got_e, bind_o, bind_e, opt_s, gotO_s, guard_t, outB_nx, outB_bk, outB_ct, outB_rt, outB_er, un2_t, un2_l, un3_t, un3_l, un4_t, un4_l, noer_o, stepB_nx, stepB_ct, stepB_bk, stepB_rt, stepB_er, e_eqI]
    by_cases c0 : kind = 0
    · obtain ⟨v, r4, e4, v0, v1, hr4⟩ := taken_ok (m := 256) hrow (by decide) (by decide)
      simp only [c0, decide_true, if_true, got_o, got_e, bind_o, bind_e, opt_s, gotO_s, guard_t, outB_nx, outB_bk, outB_ct, outB_rt, outB_er, un2_t, un2_l, un3_t, un3_l, un4_t, un4_l, noer_o, stepB_nx, stepB_ct, stepB_bk, stepB_rt, stepB_er, e4, e_size sz]
      have := add1 (n := v.toNat) hr4 (by omega)
      rwa [Int.toNat_of_nonneg v0] at this
    · simp only [c0, decide_false, Bool.false_eq_true, if_false]
      by_cases c1 : kind = 1
      · obtain ⟨v, r4, e4, v0, v1, hr4⟩ := taken_ok (m := 2) hrow (by decide) (by decide)
        simp only [c1, decide_true, if_true, got_o, got_e, bind_o, bind_e, opt_s, gotO_s, guard_t, outB_nx, outB_bk, outB_ct, outB_rt, outB_er, un2_t, un2_l, un3_t, un3_l, un4_t, un4_l, noer_o, stepB_nx, stepB_ct, stepB_bk, stepB_rt, stepB_er, e4, e_lI v0 (show v < (oN few).length by rw [oN_len]; omega), e_size sz, oN_get]
        exact add1 hr4 (hf _ (List.getElem_mem _))
      · simp only [c1, decide_false, Bool.false_eq_true, if_false]
        have e5 : addD (.lst (oN few)) (.lst [.int 0, .int 255]) = some (.lst (oN (few ++ [0, 255]))) := by
          rw [e_addL (by rw [oN_len]; simp; omega), oN_app]; rfl
        obtain ⟨d, r4, e4, hd, hr4⟩ := pick_ok (xs := oN (few ++ [0, 255])) hrow (by rw [oN_len]; simp) (by rw [oN_len]; simp; omega)
        obtain ⟨n, hn, rfl⟩ := List.mem_map.mp hd
        have hn : n < 256 := by
          rcases List.mem_append.mp hn with h | h
          · exact hf n h
          · simp at h; omega
        obtain ⟨v, r5, e6, v0, v1, hr5⟩ := taken_ok (m := 7) hr4 (by decide) (by decide)
        have e7 : (1 : Int) + v = ((1 + v.toNat : Nat) : Int) := by omega
        have e8 : mulD (.lst [.int (n : Nat)]) (.int (1 + v)) = some (.lst (oN (List.replicate (1 + v.toNat) n))) := by rw [e7, e_mulL1 (by omega), oN_rep]
        have e9 : catD (.lst (oN l)) (.lst (oN (List.replicate (1 + v.toNat) n))) = some (oN (l ++ List.replicate (1 + v.toNat) n)) := by rw [e_cat (by rw [oN_len, oN_len]; simp; omega), oN_app]
        simp (config := { implicitDefEqProofs := false }) only [got_o, got_e, bind_o, bind_e, opt_s, gotO_s, guard_t, outB_nx, outB_bk, outB_ct, outB_rt, outB_er, un2_t, un2_l, un3_t, un3_l, un4_t, un4_l, noer_o, stepB_nx, stepB_ct, stepB_bk, stepB_rt, stepB_er, e5, e4, e6, e_add, e8, e9]
        refine ⟨⟨hr5, _, rfl, fun m hm => ?_, by simp; omega⟩, by simp [oN_len]; omega⟩
        rcases List.mem_append.mp hm with h | h
        · exact ho m h
        · rw [List.eq_of_mem_replicate h]; exact hn
  · obtain ⟨row, found, ⟨⟩⟩ := t
    obtain ⟨hrow, l, rfl, ho, hlen⟩ := ht
    simp (config := { implicitDefEqProofs := false }) only [got_o, got_e, bind_o, bind_e, opt_s, gotO_s, guard_t, outB_nx, outB_bk, outB_ct, outB_rt, outB_er, un2_t, un2_l, un3_t, un3_l, un4_t, un4_l, noer_o, stepB_nx, stepB_ct, stepB_bk, stepB_rt, stepB_er, e_intOf, e_slL, e_tupL, oN_take]
    exact ⟨_, rfl, fun n hn => ho n (List.mem_of_mem_take hn), by rw [List.length_take]; omega, hrow⟩

theorem law_number_ok {row : List D} (hr : RowL row) : ∃ (n : Nat) (row' : List D), m__law_number row = .ok (.int (n : Nat)) (row', ()) ∧ n ≤ 1000000000000000 ∧ RowL row' := by
  suffices h : Ok (m__law_number row) fun d s => ∃ n : Nat, d = .int (n : Nat) ∧ n ≤ 1000000000000000 ∧ RowL s.1 by
    obtain ⟨d, ⟨row', ⟨⟩⟩, e, n, rfl, h1, h2⟩ := h.ex
    exact ⟨n, row', e, h1, h2⟩
  unfold m__law_number
  obtain ⟨k, r1, e1, k0, k1, hr1⟩ := taken_ok (m := 6) hr (by decide) (by decide)
  simp (config := { implicitDefEqProofs := false }) only [got_o, got_e, bind_o, bind_e, opt_s, gotO_s, guard_t, outB_nx, outB_bk, outB_ct, outB_rt, outB_er, un2_t, un2_l, un3_t, un3_l, un4_t, un4_l, noer_o, stepB_nx, stepB_ct, stepB_bk, stepB_rt, stepB_er, e1, e_eqI]
  by_cases c0 : k = 0
  · obtain ⟨v, r2, e2, v0, v1, hr2⟩ := taken_ok (m := 300) hr1 (by decide) (by decide)
    simp only [c0, decide_true, if_true, got_o, got_e, bind_o, bind_e, opt_s, gotO_s, guard_t, outB_nx, outB_bk, outB_ct, outB_rt, outB_er, un2_t, un2_l, un3_t, un3_l, un4_t, un4_l, noer_o, stepB_nx, stepB_ct, stepB_bk, stepB_rt, stepB_er, e2]
    exact ⟨v.toNat, by congr 1; omega, by omega, hr2⟩
  simp only [c0, decide_false, Bool.false_eq_true, if_false]
  by_cases c1 : k = 1
  · obtain ⟨d, r2, e2, hd, hr2⟩ := pick_ok (xs := [.int 128, .int 16384, .int 2097152, .int 268435456, .int 34359738368, .int 4398046511104, .int 562949953421312]) hr1 (by simp) (by simp)
    obtain ⟨v, r3, e3, v0, v1, hr3⟩ := taken_ok (m := 3) hr2 (by decide) (by decide)
    obtain ⟨b, rfl, hb⟩ : ∃ b : Int, d = .int b ∧ 128 ≤ b ∧ b ≤ 562949953421312 := by
      simp only [List.mem_cons, List.not_mem_nil, or_false] at hd
      rcases hd with h | h | h | h | h | h | h <;> exact ⟨_, h, by decide⟩
    simp only [c1, decide_true, if_true, got_o, got_e, bind_o, bind_e, opt_s, gotO_s, guard_t, outB_nx, outB_bk, outB_ct, outB_rt, outB_er, un2_t, un2_l, un3_t, un3_l, un4_t, un4_l, noer_o, stepB_nx, stepB_ct, stepB_bk, stepB_rt, stepB_er, e2, e3, e_sub]
    exact ⟨(b - v).toNat, by congr 1; omega, by omega, hr3⟩
  simp only [c1, decide_false, Bool.false_eq_true, if_false]
  have p15 : powD (.int 10) (.int 15) = some (.int 1000000000000000) := e_pow (show (0 : Int) ≤ 15 by decide) (by decide) (show (-18446744073709551616 : Int) < 10 by decide) (by decide)
  have p9 : powD (.int 10) (.int 9) = some (.int 1000000000) := e_pow (show (0 : Int) ≤ 9 by decide) (by decide) (show (-18446744073709551616 : Int) < 10 by decide) (by decide)
  have p6 : powD (.int 10) (.int 6) = some (.int 1000000) := e_pow (show (0 : Int) ≤ 6 by decide) (by decide) (show (-18446744073709551616 : Int) < 10 by decide) (by decide)
  by_cases c2 : k = 2
  · obtain ⟨v, r2, e2, v0, v1, hr2⟩ := taken_ok (m := 3) hr1 (by decide) (by decide)
    simp only [c2, decide_true, if_true, got_o, got_e, bind_o, bind_e, opt_s, gotO_s, guard_t, outB_nx, outB_bk, outB_ct, outB_rt, outB_er, un2_t, un2_l, un3_t, un3_l, un4_t, un4_l, noer_o, stepB_nx, stepB_ct, stepB_bk, stepB_rt, stepB_er, p15, e2, e_sub]
    exact ⟨(1000000000000000 - v).toNat, by congr 1; omega, by omega, hr2⟩
  simp only [c2, decide_false, Bool.false_eq_true, if_false]
  obtain ⟨v, r2, e2, v0, v1, hr2⟩ := taken_ok (m := 2147483647) hr1 (by decide) (by decide)
  obtain ⟨w, r3, e3, w0, w1, hr3⟩ := taken_ok (m := 1000003) hr2 (by decide) (by decide)
  obtain ⟨d, r4, e4, hd, hr4⟩ := pick_ok (xs := [.int 1000, .int 1000000, .int 1000000000, .int 1000000000000000]) hr3 (by simp) (by simp)
  obtain ⟨b, rfl, hb⟩ : ∃ b : Int, d = .int b ∧ 0 < b ∧ b ≤ 1000000000000000 := by
    simp only [List.mem_cons, List.not_mem_nil, or_false] at hd
    rcases hd with h | h | h | h <;> exact ⟨_, h, by decide⟩
  simp (config := { implicitDefEqProofs := false }) only [got_o, got_e, bind_o, bind_e, opt_s, gotO_s, guard_t, outB_nx, outB_bk, outB_ct, outB_rt, outB_er, un2_t, un2_l, un3_t, un3_l, un4_t, un4_l, noer_o, stepB_nx, stepB_ct, stepB_bk, stepB_rt, stepB_er, e2, e_mulR (show (-18446744073709551616 : Int) < 1000003 by decide) (by decide), e3, e_add, e_int, p6, p9, p15, e4, e_mod hb.1]
  have q0 := Int.emod_nonneg (v * 1000003 + w) (show b ≠ 0 by omega)
  have q1 := Int.emod_lt_of_pos (v * 1000003 + w) hb.1
  exact ⟨((v * 1000003 + w) % b).toNat, by congr 1; omega, by omega, hr4⟩

theorem law_groups_ok {n : Nat} (h : n < 128 ^ 8) : m__law_groups (.int (n : Nat)) = .ok (.lst (oN (grp n))) () := by
  unfold m__law_groups
  let I : Nat → D × List D × Unit → Prop := fun k t => ∃ (pre : List Nat) (a m : Nat), t = (.int (m : Nat), oN (pre ++ [a]), ()) ∧ a < 128 ∧ pre ++ grp (a + 128 * m) = grp n ∧ (0 < m → pre.length = k) ∧ m < 128 ^ (8 - k) ∧ pre.length ≤ k
  have e0 : ((n : Nat) : Int) % 128 = ((n % 128 : Nat) : Int) := by omega
  have e1 : ((n : Nat) : Int) / 128 = ((n / 128 : Nat) : Int) := by omega
  rw [show rng1 (.int 9) = some (rangeD 0 9) from rfl]
  simp (config := { implicitDefEqProofs := false }) only [got_o, got_e, bind_o, bind_e, opt_s, gotO_s, guard_t, outB_nx, outB_bk, outB_ct, outB_rt, outB_er, un2_t, un2_l, un3_t, un3_l, un4_t, un4_l, noer_o, stepB_nx, stepB_ct, stepB_bk, stepB_rt, stepB_er, e_int, e_mod (show (0 : Int) < 128 by decide), e_fdiv (show (0 : Int) < 128 by decide) (by decide), e0, e1]
  refine nx_eq (I (0 + (rangeD 0 9).length)) (loop_all I 0 ⟨[], n % 128, n / 128, rfl, by omega, by show grp (n % 128 + 128 * (n / 128)) = grp n; congr 1; omega, fun _ => rfl, by omega, by simp⟩ fun k hk t ht => ?_) fun t ht => ?_
  · obtain ⟨pre, a, m, rfl, ha, e, hp, hm, hp2⟩ := ht
    rw [range_get]
    rw [range_len] at hk
    rw [Nat.zero_add] at hp hm hp2 ⊢
    rw [show (0 : Int) + (k : Nat) = (k : Nat) by omega]
    refine nx_go (I (k + 1)) ?_ fun t ht => ht
    simp (config := { implicitDefEqProofs := false }) only [got_o, got_e, bind_o, bind_e, opt_s, gotO_s, guard_t, outB_nx, outB_bk, outB_ct, outB_rt, outB_er, un2_t, un2_l, un3_t, un3_l, un4_t, un4_l, noer_o, stepB_nx, stepB_ct, stepB_bk, stepB_rt, stepB_er, e_gt]
    by_cases c : 0 < m
    · have pl := hp c
      have g1 : ixD (.lst (oN (pre ++ [a]))) (.int (k : Nat)) = some (.int (a : Nat)) := by
        rw [e_lN (by rw [oN_len]; simp; omega), oN_get]
        congr 2
        simp [← pl]
      have g2 : ixW (oN (pre ++ [a])).length (.int (k : Nat)) = some k := e_ixWN (by rw [oN_len]; simp; omega)
      have g3 : (oN (pre ++ [a])).set k (.int ((a : Nat) + 128 : Int)) = oN (pre ++ [a + 128]) := by
        rw [show ((a : Nat) : Int) + 128 = ((a + 128 : Nat) : Int) by omega, oN_set]
        congr 1
        rw [← pl, List.set_append_right _ _ (Nat.le_refl _), Nat.sub_self]; rfl
      have g4 : ((m : Nat) : Int) % 128 = ((m % 128 : Nat) : Int) := by omega
      have g5 : ((m : Nat) : Int) / 128 = ((m / 128 : Nat) : Int) := by omega
      have g6 : oN (pre ++ [a + 128]) ++ [.int ((m % 128 : Nat) : Int)] = oN (pre ++ [a + 128] ++ [m % 128]) := by rw [oN_app (l := pre ++ [a + 128])]; rfl
      simp only [show (0 : Int) < (m : Nat) by omega, decide_true, if_true, got_o, got_e, bind_o, bind_e, opt_s, gotO_s, guard_t, outB_nx, outB_bk, outB_ct, outB_rt, outB_er, un2_t, un2_l, un3_t, un3_l, un4_t, un4_l, noer_o, stepB_nx, stepB_ct, stepB_bk, stepB_rt, stepB_er, g1, e_add, g2, g3, e_int, e_mod (show (0 : Int) < 128 by decide), g4, e_size (show (oN (pre ++ [a + 128])).length + 1 ≤ 16777216 by rw [oN_len]; simp; omega), e_fdiv (show (0 : Int) < 128 by decide) (by decide), g5, g6]
      refine ⟨pre ++ [a + 128], m % 128, m / 128, rfl, by omega, ?_, fun _ => by simp; omega, ?_, by simp; omega⟩
      · rw [← e, grp_hi (show ¬ a + 128 * m < 128 by omega), List.append_assoc]
        congr 1
        rw [show (a + 128 * m) % 128 + 128 = a + 128 by omega, show m % 128 + 128 * (m / 128) = (a + 128 * m) / 128 by omega]; rfl
      · by_cases c8 : k < 8
        · rw [show 8 - k = (8 - (k + 1)) + 1 by omega, Nat.pow_succ] at hm
          exact Nat.div_lt_of_lt_mul (by rw [Nat.mul_comm]; exact hm)
        · rw [show 8 - k = 0 by omega] at hm
          omega
    · have m0 : m = 0 := by omega
      simp only [show ¬ (0 : Int) < (m : Nat) by omega, decide_false, Bool.false_eq_true, if_false]
      exact ⟨pre, a, m, rfl, ha, e, fun z => absurd z c, by rw [m0]; exact Nat.pow_pos (by decide), by omega⟩
  · obtain ⟨pre, a, m, rfl, ha, e, _, hm, _⟩ := ht
    rw [range_len] at hm
    have m0 : m = 0 := by simpa using hm
    subst m0
    rw [Nat.mul_zero, Nat.add_zero, grp_lo ha] at e
    simp (config := { implicitDefEqProofs := false }) only [got_o, got_e, bind_o, bind_e, opt_s, gotO_s, guard_t, outB_nx, outB_bk, outB_ct, outB_rt, outB_er, un2_t, un2_l, un3_t, un3_l, un4_t, un4_l, noer_o, stepB_nx, stepB_ct, stepB_bk, stepB_rt, stepB_er, e]

def numO (at_ : Nat) : Option (Nat × Nat) → D
  | some (v, c) => .tup [.int (v : Nat), .int (at_ + c : Nat)]
  | none => .non
theorem numAt_loop {f : D × D × Unit → D → B Unit (D × D × Unit)} {l : List Nat} {at_ : Nat}
    (hf : ∀ (p acc w : Nat) (hp : p < l.length), (1 < w ↔ at_ < p) → f (.int (acc : Nat), .int (w : Nat), ()) (.int (p : Nat)) = if 128 ≤ l[p] then .ct (.int (acc + (l[p] - 128) * w : Nat), .int (w * 128 : Nat), ()) else .rt (if (l[p] = 0 ∧ 1 < w) ∨ 1000000000000000 < acc + l[p] * w then .non else .tup [.int (acc + l[p] * w : Nat), .int (p + 1 : Nat)]) ()) :
    ∀ (m : List Nat) (here acc w : Nat), l.drop here = m → here ≤ l.length → at_ ≤ here → 0 < w → (1 < w ↔ at_ < here) → loopB f (oN (List.range' here m.length)) (.int (acc : Nat), .int (w : Nat), ()) = .rt (numO here (rdNum acc w m)) () ∨ (rdNum acc w m = none ∧ ∃ t, loopB f (oN (List.range' here m.length)) (.int (acc : Nat), .int (w : Nat), ()) = .nx t) := by
  intro m
  induction m with
  | nil => intro here acc w _ _ _ _ _; exact .inr ⟨rfl, _, rfl⟩
  | cons g m ih =>
    intro here acc w hm hh ha hw0 hw
    have hk : here < l.length := by
      rcases Nat.lt_or_ge here l.length with h | h
      · exact h
      · rw [List.drop_eq_nil_of_le h] at hm; cases hm
    have hx : l[here] = g ∧ l.drop (here + 1) = m := by
      rw [List.drop_eq_getElem_cons hk] at hm
      exact ⟨(List.cons.inj hm).1, (List.cons.inj hm).2⟩
    have hf := hf here acc w hk hw
    rw [hx.1] at hf
    rw [List.length_cons, List.range'_succ, oN_cons]
    unfold loopB
    rw [hf, rdNum]
    by_cases c : g < 128
    · rw [if_neg (by omega), if_pos c]
      refine .inl ?_
      show B.rt _ _ = _
      split <;> rfl
    · rw [if_pos (by omega), if_neg c]
      have ih := ih (here + 1) (acc + (g - 128) * w) (w * 128) hx.2 (by omega) (by omega) (by omega) (by omega)
      show loopB f (oN (List.range' (here + 1) m.length)) _ = _ ∨ _ ∧ ∃ t, loopB f (oN (List.range' (here + 1) m.length)) _ = _
      cases q : rdNum (acc + (g - 128) * w) (w * 128) m with
      | none =>
        rw [q] at ih
        rcases ih with h | ⟨_, h⟩
        · exact .inl h
        · exact .inr ⟨rfl, h⟩
      | some vc =>
        obtain ⟨v, c⟩ := vc
        rw [q] at ih
        rcases ih with h | ⟨h, _⟩
        · refine .inl ?_
          rw [h]
          show B.rt (.tup [.int (v : Nat), .int (here + 1 + c : Nat)]) () = .rt (.tup [.int (v : Nat), .int (here + (c + 1) : Nat)]) ()
          rw [show here + 1 + c = here + (c + 1) by omega]
        · cases h
theorem numAt_out {f : D × D × Unit → D → B Unit (D × D × Unit)} {l : List Nat} {at_ : Nat} {nx bk ct : D × D × Unit → P D} {rt : D → Unit → P D} {er : Str → Flds → Unit → P D} {bad : P D}
    (hf : ∀ (p acc w : Nat) (hp : p < l.length), (1 < w ↔ at_ < p) → f (.int (acc : Nat), .int (w : Nat), ()) (.int (p : Nat)) = if 128 ≤ l[p] then .ct (.int (acc + (l[p] - 128) * w : Nat), .int (w * 128 : Nat), ()) else .rt (if (l[p] = 0 ∧ 1 < w) ∨ 1000000000000000 < acc + l[p] * w then .non else .tup [.int (acc + l[p] * w : Nat), .int (p + 1 : Nat)]) ())
    (ha : at_ ≤ l.length) (hn : ∀ t, nx t = .ok .non ()) (hr : ∀ d, rt d () = .ok d ()) : outB (loopB f (oN (List.range' at_ (l.length - at_))) (.int 0, .int 1, ())) nx bk ct rt er bad = .ok (numO at_ (rdNum 0 1 (l.drop at_))) () := by
  have := numAt_loop hf (l.drop at_) at_ 0 1 rfl ha (Nat.le_refl _) (by decide) (by omega)
  rw [List.length_drop] at this
  rcases this with h | ⟨h, t, e⟩
  · have h : loopB f (oN (List.range' at_ (l.length - at_))) (.int 0, .int 1, ()) = _ := h
    rw [h]; exact hr _
  · have e : loopB f (oN (List.range' at_ (l.length - at_))) (.int 0, .int 1, ()) = _ := e
    rw [e, h]; exact hn t
theorem law_number_at_ok {l : List Nat} (ho : ∀ n ∈ l, n < 256) (hz : l.length < 900000) {at_ : Nat} (ha : at_ ≤ l.length) : m__law_number_at (.lst (oN l)) (.int (at_ : Nat)) = .ok (numO at_ (rdNum 0 1 (l.drop at_))) () := by
  unfold m__law_number_at
  simp (config := { implicitDefEqProofs := false }) only [got_o, got_e, bind_o, bind_e, opt_s, gotO_s, guard_t, outB_nx, outB_bk, outB_ct, outB_rt, outB_er, un2_t, un2_l, un3_t, un3_l, un4_t, un4_l, noer_o, stepB_nx, stepB_ct, stepB_bk, stepB_rt, stepB_er, e_lenL, oN_len, e_rng2N (show at_ ≤ 16777216 by omega) (show l.length ≤ 16777216 by omega)]
  refine numAt_out (l := l) (fun p acc w hp hw => ?_) ha (fun _ => rfl) (fun _ => rfl)
  have e1 : ixD (.lst (oN l)) (.int (p : Nat)) = some (.int (l[p] : Nat)) := by rw [e_lN (by rw [oN_len]; exact hp), oN_get]
  have g256 := ho _ (List.getElem_mem hp)
  generalize l[p] = g at e1 g256 ⊢
  have p15 : powD (.int 10) (.int 15) = some (.int 1000000000000000) := e_pow (show (0 : Int) ≤ 15 by decide) (by decide) (show (-18446744073709551616 : Int) < 10 by decide) (by decide)
  by_cases c : 128 ≤ g
  · rw [if_pos c]
    have e3 : ((g : Nat) : Int) - 128 = ((g - 128 : Nat) : Int) := by omega
    have e4 : (((g - 128 : Nat) : Int)) * (w : Nat) = (((g - 128) * w : Nat) : Int) := by rw [Int.natCast_mul]
    have e5 : ((acc : Nat) : Int) + (((g - 128) * w : Nat) : Int) = ((acc + (g - 128) * w : Nat) : Int) := by omega
    have e6 : ((w : Nat) : Int) * 128 = ((w * 128 : Nat) : Int) := by omega
    simp (config := { implicitDefEqProofs := false }) only [got_o, got_e, bind_o, bind_e, opt_s, gotO_s, guard_t, outB_nx, outB_bk, outB_ct, outB_rt, outB_er, un2_t, un2_l, un3_t, un3_l, un4_t, un4_l, noer_o, stepB_nx, stepB_ct, stepB_bk, stepB_rt, stepB_er, e1, e_ge, show (128 : Int) ≤ (g : Nat) by omega, decide_true, if_true, e_sub, e3, e_mulL (show (-18446744073709551616 : Int) < ((g - 128 : Nat) : Int) by omega) (show ((g - 128 : Nat) : Int) < 18446744073709551616 by omega), e4, e_add, e5, e_mulR (show (-18446744073709551616 : Int) < 128 by decide) (by decide), e6]
  · rw [if_neg c]
    have e4 : ((g : Nat) : Int) * (w : Nat) = ((g * w : Nat) : Int) := by rw [Int.natCast_mul]
    have e5 : ((acc : Nat) : Int) + ((g * w : Nat) : Int) = ((acc + g * w : Nat) : Int) := by omega
    have e7 : ((p : Nat) : Int) + 1 = ((p + 1 : Nat) : Int) := by omega
    have d1 : decide ((1000000000000000 : Int) < ((acc + g * w : Nat) : Int)) = decide (1000000000000000 < acc + g * w) := decide_eq_decide.mpr (by omega)
    have d2 : decide (((g : Nat) : Int) = 0) = decide (g = 0) := decide_eq_decide.mpr (by omega)
    have d3 : decide (((at_ : Nat) : Int) < (p : Nat)) = decide (1 < w) := decide_eq_decide.mpr (by omega)
    simp (config := { implicitDefEqProofs := false }) only [got_o, got_e, bind_o, bind_e, opt_s, gotO_s, guard_t, outB_nx, outB_bk, outB_ct, outB_rt, outB_er, un2_t, un2_l, un3_t, un3_l, un4_t, un4_l, noer_o, stepB_nx, stepB_ct, stepB_bk, stepB_rt, stepB_er, e1, e_ge, show ¬ (128 : Int) ≤ (g : Nat) by omega, decide_false, Bool.false_eq_true, if_false, e_mulL (show (-18446744073709551616 : Int) < (g : Nat) by omega) (show ((g : Nat) : Int) < 18446744073709551616 by omega), e4, e_add, e5, p15, e_gt, e_eqI, d1, d2, d3, e7]
    clear e4 e5 d1 e1 d2
    generalize acc + g * w = t
    by_cases c1 : 1000000000000000 < t <;> by_cases c2 : g = 0 <;> by_cases c3 : 1 < w <;>
      simp (config := { implicitDefEqProofs := false }) only [got_o, got_e, bind_o, bind_e, opt_s, gotO_s, guard_t, outB_nx, outB_bk, outB_ct, outB_rt, outB_er, un2_t, un2_l, un3_t, un3_l, un4_t, un4_l, noer_o, stepB_nx, stepB_ct, stepB_bk, stepB_rt, stepB_er, c1, c2, c3, decide_true, decide_false, Bool.false_eq_true, if_false, if_true, true_and, and_true, false_and, and_false, or_true, or_false, true_or, false_or]

def rowO : Option (List Nat × Nat) → D
  | some (xs, e) => .tup [.tup (oN xs), .int (e : Nat)]
  | none => .non
theorem law_row_at_ok {l : List Nat} (ho : ∀ n ∈ l, n < 256) (hz : l.length < 900000) {at_ : Nat} (ha : at_ ≤ l.length) : m__law_row_at (.lst (oN l)) (.int (at_ : Nat)) = .ok (rowO (rowAt l at_)) () := by
  unfold m__law_row_at rowAt
  rw [law_number_at_ok ho hz ha]
  cases q : rdNum 0 1 (l.drop at_) with
  | none => simp (config := { implicitDefEqProofs := false }) only [got_o, got_e, bind_o, bind_e, opt_s, gotO_s, guard_t, outB_nx, outB_bk, outB_ct, outB_rt, outB_er, un2_t, un2_l, un3_t, un3_l, un4_t, un4_l, noer_o, stepB_nx, stepB_ct, stepB_bk, stepB_rt, stepB_er, numO, KD.isNon, if_true, rowO]
  | some vc =>
    obtain ⟨v, c⟩ := vc
    have e1 : ((at_ + c : Nat) : Int) + (v : Nat) = ((at_ + c + v : Nat) : Int) := by omega
    simp (config := { implicitDefEqProofs := false }) only [got_o, got_e, bind_o, bind_e, opt_s, gotO_s, guard_t, outB_nx, outB_bk, outB_ct, outB_rt, outB_er, un2_t, un2_l, un3_t, un3_l, un4_t, un4_l, noer_o, stepB_nx, stepB_ct, stepB_bk, stepB_rt, stepB_er, numO, KD.isNon, Bool.false_eq_true, if_false, e_t0, e_t1, e_add, e1, e_lenL, oN_len, e_gt, Int.ofNat_lt]
    by_cases h : at_ + c + v ≤ l.length
    · rw [if_pos h]
      simp only [show ¬ l.length < at_ + c + v by omega, decide_false, Bool.false_eq_true, if_false, got_o, got_e, bind_o, bind_e, opt_s, gotO_s, guard_t, outB_nx, outB_bk, outB_ct, outB_rt, outB_er, un2_t, un2_l, un3_t, un3_l, un4_t, un4_l, noer_o, stepB_nx, stepB_ct, stepB_bk, stepB_rt, stepB_er, e_intOf, e_smL (show at_ + c ≤ at_ + c + v by omega), oN_drop, oN_take, Nat.add_sub_cancel_left, e_tupL, rowO]
    · rw [if_neg h]
      simp only [show l.length < at_ + c + v by omega, decide_true, if_true, got_o, got_e, bind_o, bind_e, opt_s, gotO_s, guard_t, outB_nx, outB_bk, outB_ct, outB_rt, outB_er, un2_t, un2_l, un3_t, un3_l, un4_t, un4_l, noer_o, stepB_nx, stepB_ct, stepB_bk, stepB_rt, stepB_er, rowO]

def textO : Option (List Nat × Nat) → D
  | some (xs, e) => .tup [.str (tx xs), .int (e : Nat)]
  | none => .non
def sgnS : Str := " !\"#$&'()*+,-./0123456789:;<=>?@ABCDEFGHIJKLMNOPQRSTUVWXYZ[\\]^_`abcdefghijklmnopqrstuvwxyz{|}~"
theorem sgn_at : ∀ c < 256, sOk c = true → sgnS.cps.toList[c - 32 - (if 37 < c then 1 else 0)]? = some c := by decide +kernel
theorem sgn_len : sgnS.cps.toList.length = 94 := by decide +kernel
theorem sgn_ix {c : Nat} (h : c < 256) (hs : sOk c = true) : ixD (.str sgnS) (.int ((c : Nat) - 32 - (if decide ((37 : Int) < (c : Nat)) = true then 1 else 0))) = some (.str (tx [c])) := by
  have e := sgn_at c h hs
  have hl := (List.getElem?_eq_some_iff.mp e)
  have h32 : 32 ≤ c := by
    unfold sOk at hs
    rw [Bool.and_eq_true, Bool.and_eq_true] at hs
    exact of_decide_eq_true hs.1.1
  have ei : ((c : Nat) : Int) - 32 - (if decide ((37 : Int) < (c : Nat)) = true then 1 else 0) = ((c - 32 - (if 37 < c then 1 else 0) : Nat) : Int) := by
    by_cases q : 37 < c
    · rw [if_pos q, if_pos (decide_eq_true (by omega))]; omega
    · rw [if_neg q, if_neg (by simp; omega)]; omega
  rw [ei, show (D.str sgnS) = .str (tx sgnS.cps.toList) from congrArg D.str (tx_eq _), e_ixX hl.1 (by rw [sgn_len]; decide), hl.2]
theorem law_text_at_ok {l : List Nat} (ho : ∀ n ∈ l, n < 256) (hz : l.length < 900000) {at_ : Nat} (ha : at_ ≤ l.length) : m__law_text_at (.lst (oN l)) (.int (at_ : Nat)) = .ok (textO (textAt l at_)) () := by
  unfold m__law_text_at textAt
  rw [law_row_at_ok ho hz ha]
  cases q : rowAt l at_ with
  | none => simp (config := { implicitDefEqProofs := false }) only [got_o, got_e, bind_o, bind_e, opt_s, gotO_s, guard_t, outB_nx, outB_bk, outB_ct, outB_rt, outB_er, un2_t, un2_l, un3_t, un3_l, un4_t, un4_l, noer_o, stepB_nx, stepB_ct, stepB_bk, stepB_rt, stepB_er, rowO, KD.isNon, if_true, textO]
  | some xe =>
    obtain ⟨xs, e⟩ := xe
    obtain ⟨h1, h2⟩ := rowAt_mem q
    simp (config := { implicitDefEqProofs := false }) only [got_o, got_e, bind_o, bind_e, opt_s, gotO_s, guard_t, outB_nx, outB_bk, outB_ct, outB_rt, outB_er, un2_t, un2_l, un3_t, un3_l, un4_t, un4_l, noer_o, stepB_nx, stepB_ct, stepB_bk, stepB_rt, stepB_er, rowO, KD.isNon, Bool.false_eq_true, if_false, e_t0, e_t1, e_iterT]
    unfold oN
    rw [lcR_all (p := fun c : Nat => !sOk c) fun c hc => ?_]
    · rw [chkR_ok (by rw [List.length_map]; exact Nat.le_trans (List.length_filter_le ..) (by omega))]
      simp (config := { implicitDefEqProofs := false }) only [got_o, got_e, bind_o, bind_e, opt_s, gotO_s, guard_t, outB_nx, outB_bk, outB_ct, outB_rt, outB_er, un2_t, un2_l, un3_t, un3_l, un4_t, un4_l, noer_o, stepB_nx, stepB_ct, stepB_bk, stepB_rt, stepB_er, e_neLN, map_empty, filter_empty, Bool.not_not]
      cases qa : xs.all sOk with
      | true =>
        have e6 : isTy "str" (.str "") = true := rfl
        have e7 : joinD (.str "") (.lst (sg xs)) = some (.str (tx xs)) := e_joinX (by omega)
        simp only [Bool.not_true, Bool.false_eq_true, if_false, e6, got_o, got_e, bind_o, bind_e, opt_s, gotO_s, guard_t, outB_nx, outB_bk, outB_ct, outB_rt, outB_er, un2_t, un2_l, un3_t, un3_l, un4_t, un4_l, noer_o, stepB_nx, stepB_ct, stepB_bk, stepB_rt, stepB_er]
        rw [mapR_map (b := fun c : Nat => .str (tx [c])) fun c hc => ?_]
        · rw [chk_map (by omega)]
          show got (KM.bind (KM.bind (KM.bind (.ok (sg xs) ()) _) _) _) _ _ _ = _
          simp (config := { implicitDefEqProofs := false }) only [got_o, got_e, bind_o, bind_e, opt_s, gotO_s, guard_t, outB_nx, outB_bk, outB_ct, outB_rt, outB_er, un2_t, un2_l, un3_t, un3_l, un4_t, un4_l, noer_o, stepB_nx, stepB_ct, stepB_bk, stepB_rt, stepB_er, e7, if_true, textO]
        · have hc2 := List.all_eq_true.mp qa c hc
          have e8 := sgn_ix (ho c (h1 c hc)) hc2
          unfold sgnS at e8
          simp (config := { implicitDefEqProofs := false }) only [got_o, got_e, bind_o, bind_e, opt_s, gotO_s, guard_t, outB_nx, outB_bk, outB_ct, outB_rt, outB_er, un2_t, un2_l, un3_t, un3_l, un4_t, un4_l, noer_o, stepB_nx, stepB_ct, stepB_bk, stepB_rt, stepB_er, e_sub, e_gt, e_intB, e8]
      | false => simp only [Bool.not_false, if_true, got_o, got_e, bind_o, bind_e, opt_s, gotO_s, guard_t, outB_nx, outB_bk, outB_ct, outB_rt, outB_er, un2_t, un2_l, un3_t, un3_l, un4_t, un4_l, noer_o, stepB_nx, stepB_ct, stepB_bk, stepB_rt, stepB_er, Bool.false_eq_true, if_false, textO]
    · have d1 : decide (((c : Nat) : Int) < 32) = decide (c < 32) := decide_eq_decide.mpr (by omega)
      have d2 : decide ((126 : Int) < (c : Nat)) = decide (126 < c) := decide_eq_decide.mpr (by omega)
      have d3 : decide (((c : Nat) : Int) = 37) = decide (c = 37) := decide_eq_decide.mpr (by omega)
      simp (config := { implicitDefEqProofs := false }) only [got_o, got_e, bind_o, bind_e, opt_s, gotO_s, guard_t, outB_nx, outB_bk, outB_ct, outB_rt, outB_er, un2_t, un2_l, un3_t, un3_l, un4_t, un4_l, noer_o, stepB_nx, stepB_ct, stepB_bk, stepB_rt, stepB_er, e_lt, e_gt, e_eqI, d1, d2, d3]
      have sk : (!sOk c) = (decide (c < 32) || (decide (126 < c) || decide (c = 37))) := by
        unfold sOk
        by_cases a : c < 32
        · simp [a, show ¬ 32 ≤ c by omega]
        · by_cases b : 126 < c
          · simp [b, show ¬ c ≤ 126 by omega]
          · simp [a, b, show 32 ≤ c by omega, show c ≤ 126 by omega]
      rw [sk]
      cases decide (c < 32) <;> cases decide (126 < c) <;> cases decide (c = 37) <;> rfl

theorem bits_ok {row : List D} (hr : RowL row) : ∃ (l : List Nat) (row' : List D), m__law_bits row = .ok (.lst (oN l)) (row', ()) ∧ (∀ n ∈ l, n < 256) ∧ l.length ≤ 60 ∧ RowL row' := by
  suffices h : Ok (m__law_bits row) fun d s => ∃ l : List Nat, d = .lst (oN l) ∧ (∀ n ∈ l, n < 256) ∧ l.length ≤ 60 ∧ RowL s.1 by
    obtain ⟨d, ⟨row', ⟨⟩⟩, e, l, rfl, h1, h2, h3⟩ := h.ex
    exact ⟨l, row', e, h1, h2, h3⟩
  have oA : ∀ {a b : List Nat}, (∀ n ∈ a, n < 256) → (∀ n ∈ b, n < 256) → ∀ n ∈ a ++ b, n < 256 := fun {a b} ha hb n hn => (List.mem_append.mp hn).elim (ha n) (hb n)
  unfold m__law_bits
  obtain ⟨k, r1, e1, k0, k1, hr1⟩ := taken_ok (m := 8) hr (by decide) (by decide)
  simp (config := { implicitDefEqProofs := false }) only [got_o, got_e, bind_o, bind_e, opt_s, gotO_s, guard_t, outB_nx, outB_bk, outB_ct, outB_rt, outB_er, un2_t, un2_l, un3_t, un3_l, un4_t, un4_l, noer_o, stepB_nx, stepB_ct, stepB_bk, stepB_rt, stepB_er, e1, e_eqI]
  by_cases c0 : k = 0
  · obtain ⟨l, r2, e2, h1, h2, hr2⟩ := octets_ok (most := 12) hr1 (by decide)
    rw [show (D.int ((12 : Nat) : Int)) = .int 12 from rfl] at e2
    simp only [c0, decide_true, if_true, got_o, got_e, bind_o, bind_e, opt_s, gotO_s, guard_t, outB_nx, outB_bk, outB_ct, outB_rt, outB_er, un2_t, un2_l, un3_t, un3_l, un4_t, un4_l, noer_o, stepB_nx, stepB_ct, stepB_bk, stepB_rt, stepB_er, e2, e_lstT]
    exact ⟨l, rfl, h1, by omega, hr2⟩
  simp only [c0, decide_false, Bool.false_eq_true, if_false]
  by_cases c1 : k = 1
  · obtain ⟨n, r2, e2, hn, hr2⟩ := law_number_ok hr1
    obtain ⟨d, r3, e3, hd, hr3⟩ := pick_ok (xs := [.int 0, .int 128, .int 127, .int 3, .int 4]) hr2 (by simp) (by simp)
    obtain ⟨b, rfl, hb⟩ : ∃ b : Nat, d = .int (b : Nat) ∧ b < 256 := by
      simp only [List.mem_cons, List.not_mem_nil, or_false] at hd
      rcases hd with h | h | h | h | h
      · exact ⟨0, h, by decide⟩
      · exact ⟨128, h, by decide⟩
      · exact ⟨127, h, by decide⟩
      · exact ⟨3, h, by decide⟩
      · exact ⟨4, h, by decide⟩
    have g := grp_len (k := 7) (n := n) (by omega)
    obtain ⟨j, hj, e4⟩ := e_slLI (xs := oN (grp n)) (i := -1)
    rw [oN_len] at hj
    have e5 := e_addNL (a := (grp n).take j) (b := [b, 0, 1]) (by rw [List.length_take]; simp; omega)
    rw [show oN [b, 0, 1] = [.int (b : Nat), .int 0, .int 1] from rfl] at e5
    simp only [c1, decide_true, if_true, got_o, got_e, bind_o, bind_e, opt_s, gotO_s, guard_t, outB_nx, outB_bk, outB_ct, outB_rt, outB_er, un2_t, un2_l, un3_t, un3_l, un4_t, un4_l, noer_o, stepB_nx, stepB_ct, stepB_bk, stepB_rt, stepB_er, e2, law_groups_ok (show n < 128 ^ 8 by omega), e_neg, e_intOf, e4, oN_take, e3, e5]
    refine ⟨_, rfl, oA (fun n hn => grp_oct n (List.mem_of_mem_take hn)) (fun n hn => ?_), by rw [List.length_append, List.length_take]; simp; omega, hr3⟩
    simp only [List.mem_cons, List.not_mem_nil, or_false] at hn
    rcases hn with rfl | rfl | rfl <;> omega
  simp only [c1, decide_false, Bool.false_eq_true, if_false]
  by_cases c2 : k = 2
  · obtain ⟨v, r2, e2, v0, v1, hr2⟩ := taken_ok (m := 4) hr1 (by decide) (by decide)
    simp only [c2, decide_true, if_true, got_o, got_e, bind_o, bind_e, opt_s, gotO_s, guard_t, outB_nx, outB_bk, outB_ct, outB_rt, outB_er, un2_t, un2_l, un3_t, un3_l, un4_t, un4_l, noer_o, stepB_nx, stepB_ct, stepB_bk, stepB_rt, stepB_er, e2, e_add, e_rng1 (show 6 + v < 4611686018427387904 by omega) (show -4611686018427387904 ≤ 6 + v by omega)]
    refine ok_ok _ (lc_all (fun t : List D × Unit => RowL t.1) (fun d => ∃ n : Nat, d = .int (n : Nat) ∧ n < 256) hr2 fun x hx t ht => ?_) fun ys s hys => ?_
    · obtain ⟨a, r3, e3, a0, a1, hr3⟩ := taken_ok (m := 128) ht (by decide) (by decide)
      simp (config := { implicitDefEqProofs := false }) only [got_o, got_e, bind_o, bind_e, opt_s, gotO_s, guard_t, outB_nx, outB_bk, outB_ct, outB_rt, outB_er, un2_t, un2_l, un3_t, un3_l, un4_t, un4_l, noer_o, stepB_nx, stepB_ct, stepB_bk, stepB_rt, stepB_er, if_true, e3, e_add]
      exact ⟨_, rfl, ⟨(128 + a).toNat, by congr 1; omega, by omega⟩, hr3⟩
    obtain ⟨hl, hq, hr3⟩ := hys
    obtain ⟨l, rfl, hf⟩ := oN_of hq
    rw [range_len, oN_len] at hl
    obtain ⟨a, r4, e4, a0, a1, hr4⟩ := taken_ok (m := 128) hr3 (by decide) (by decide)
    obtain ⟨a, rfl⟩ : ∃ j : Nat, a = j := ⟨a.toNat, by omega⟩
    have e5 := e_addNL (a := l) (b := [a, 5]) (by simp; omega)
    rw [show oN [a, 5] = [.int (a : Nat), .int 5] from rfl] at e5
    simp only [e_size (show (oN l).length ≤ 16777216 by rw [oN_len]; omega), got_o, got_e, bind_o, bind_e, opt_s, gotO_s, guard_t, outB_nx, outB_bk, outB_ct, outB_rt, outB_er, un2_t, un2_l, un3_t, un3_l, un4_t, un4_l, noer_o, stepB_nx, stepB_ct, stepB_bk, stepB_rt, stepB_er, e4, e5]
    refine ⟨_, rfl, oA hf fun n hn => ?_, by simp; omega, hr4⟩
    simp only [List.mem_cons, List.not_mem_nil, or_false] at hn
    rcases hn with rfl | rfl <;> omega
  simp only [c2, decide_false, Bool.false_eq_true, if_false]
  obtain ⟨v, r2, e2, v0, v1, hr2⟩ := taken_ok (m := 9) hr1 (by decide) (by decide)
  simp (config := { implicitDefEqProofs := false }) only [got_o, got_e, bind_o, bind_e, opt_s, gotO_s, guard_t, outB_nx, outB_bk, outB_ct, outB_rt, outB_er, un2_t, un2_l, un3_t, un3_l, un4_t, un4_l, noer_o, stepB_nx, stepB_ct, stepB_bk, stepB_rt, stepB_er, e2, e_rng1 (show v < 4611686018427387904 by omega) (show -4611686018427387904 ≤ v by omega)]
  refine ok_ok _ (lc_all (fun t : List D × Unit => RowL t.1) (fun d => ∃ n : Nat, d = .int (n : Nat) ∧ n < 256) hr2 fun x hx t ht => ?_) fun ys s hys => ?_
  · obtain ⟨d, r3, e3, hd, hr3⟩ := pick_ok (xs := [.int 32, .int 37, .int 36, .int 38, .int 65, .int 97, .int 126, .int 127, .int 31, .int 92, .int 34, .int 122]) ht (by simp) (by simp)
    simp (config := { implicitDefEqProofs := false }) only [got_o, got_e, bind_o, bind_e, opt_s, gotO_s, guard_t, outB_nx, outB_bk, outB_ct, outB_rt, outB_er, un2_t, un2_l, un3_t, un3_l, un4_t, un4_l, noer_o, stepB_nx, stepB_ct, stepB_bk, stepB_rt, stepB_er, if_true, e3]
    refine ⟨_, rfl, ?_, hr3⟩
    simp only [List.mem_cons, List.not_mem_nil, or_false] at hd
    rcases hd with h | h | h | h | h | h | h | h | h | h | h | h <;> subst h
    · exact ⟨32, rfl, by decide⟩
    · exact ⟨37, rfl, by decide⟩
    · exact ⟨36, rfl, by decide⟩
    · exact ⟨38, rfl, by decide⟩
    · exact ⟨65, rfl, by decide⟩
    · exact ⟨97, rfl, by decide⟩
    · exact ⟨126, rfl, by decide⟩
    · exact ⟨127, rfl, by decide⟩
    · exact ⟨31, rfl, by decide⟩
    · exact ⟨92, rfl, by decide⟩
    · exact ⟨34, rfl, by decide⟩
    · exact ⟨122, rfl, by decide⟩
  obtain ⟨hl, hq, hr3⟩ := hys
  obtain ⟨codes, rfl, hf⟩ := oN_of hq
  rw [range_len, oN_len] at hl
  obtain ⟨row3, ⟨⟩⟩ := s
  have cl : codes.length ≤ 8 := by omega
  clear hl e1 e2 hq
  simp only [e_size (show (oN codes).length ≤ 16777216 by rw [oN_len]; omega), got_o, got_e, bind_o, bind_e, opt_s, gotO_s, guard_t, outB_nx, outB_bk, outB_ct, outB_rt, outB_er, un2_t, un2_l, un3_t, un3_l, un4_t, un4_l, noer_o, stepB_nx, stepB_ct, stepB_bk, stepB_rt, stepB_er]
  have put : ∀ {l : List Nat} {i m : Nat}, (∀ n ∈ l, n < 256) → m < 256 → ∀ n ∈ l.set i m, n < 256 := fun {l i m} h hm n hn => by
    rcases List.mem_or_eq_of_mem_set hn with h1 | h1
    · exact h n h1
    · omega
  -- behind the choice of what is written
  have tail : ∀ {s5 : List D} {l : List Nat} {Φ : D → List D × Unit → Prop} {k1 : D → List D × Unit → R (List D × Unit) D}, RowL s5 → (∀ n ∈ l, n < 256) → l.length ≤ 20 → (∀ (a b : List Nat) (r : List D), RowL r → (∀ n ∈ a, n < 256) → (∀ n ∈ b, n < 256) → a.length ≤ 3 → b.length ≤ 3 → Ok (k1 (.lst (oN (a ++ l ++ b))) (r, ())) Φ) →
      Ok (got (m__law_octets s5 (D.int 3)) (fun t s => gotO (listD t) (fun t2 => gotO (addD t2 (.lst (oN l))) (fun t3 => got (m__law_octets s.1 (D.int 3)) (fun t4 s2 => gotO (listD t4) (fun t5 => gotO (addD t3 t5) (fun t6 => k1 t6 (s2.1, ())) .bad) .bad) (fun c fs s => .er c fs (s.1, ())) .bad) .bad) .bad) (fun c fs s => .er c fs (s.1, ())) .bad) Φ := fun {s5 l Φ k1} hs ho hl hk => by
    obtain ⟨a, r5, e5, a1, a2, hr5⟩ := octets_ok (most := 3) hs (by decide)
    obtain ⟨b, r6, e6, b1, b2, hr6⟩ := octets_ok (most := 3) hr5 (by decide)
    rw [show (D.int ((3 : Nat) : Int)) = .int 3 from rfl] at e5 e6
    simp (config := { implicitDefEqProofs := false }) only [got_o, got_e, bind_o, bind_e, opt_s, gotO_s, guard_t, outB_nx, outB_bk, outB_ct, outB_rt, outB_er, un2_t, un2_l, un3_t, un3_l, un4_t, un4_l, noer_o, stepB_nx, stepB_ct, stepB_bk, stepB_rt, stepB_er, e5, e_lstT, e_addNL (a := a) (b := l) (by omega), e6, e_addNL (a := a ++ l) (b := b) (by simp; omega)]
    exact hk a b r6 hr6 a1 b1 a2 b2
  have fin : ∀ {l a b : List Nat}, (∀ n ∈ l, n < 256) → l.length ≤ 20 → (∀ n ∈ a, n < 256) → (∀ n ∈ b, n < 256) → a.length ≤ 3 → b.length ≤ 3 → ∃ m : List Nat, D.lst (oN (a ++ l ++ b)) = .lst (oN m) ∧ (∀ n ∈ m, n < 256) ∧ m.length ≤ 60 := fun {l a b} h1 h2 h3 h4 h5 h6 => ⟨_, rfl, oA (oA h3 h1) h4, by simp; omega⟩
  by_cases c3 : k = 3
  · obtain ⟨n, r4, e4, hn, hr4⟩ := law_number_ok hr3
    have g := grp_len (k := 7) (n := n) (by omega)
    simp only [c3, decide_true, if_true, got_o, got_e, bind_o, bind_e, opt_s, gotO_s, guard_t, outB_nx, outB_bk, outB_ct, outB_rt, outB_er, un2_t, un2_l, un3_t, un3_l, un4_t, un4_l, noer_o, stepB_nx, stepB_ct, stepB_bk, stepB_rt, stepB_er, e4, law_groups_ok (show n < 128 ^ 8 by omega), lstO, show ¬ (3 : Int) = 4 by decide, show ¬ (3 : Int) = 5 by decide, decide_false, Bool.false_eq_true, if_false]
    refine tail hr4 grp_oct (by omega) fun a b r hr h1 h2 h3 h4 => ?_
    obtain ⟨m, q1, q2, q3⟩ := fin (l := grp n) grp_oct (by omega) h1 h2 h3 h4
    exact ⟨m, q1, q2, q3, hr⟩
  simp only [c3, decide_false, Bool.false_eq_true, if_false, e_lenL, oN_len, got_o, got_e, bind_o, bind_e, opt_s, gotO_s, guard_t, outB_nx, outB_bk, outB_ct, outB_rt, outB_er, un2_t, un2_l, un3_t, un3_l, un4_t, un4_l, noer_o, stepB_nx, stepB_ct, stepB_bk, stepB_rt, stepB_er, law_groups_ok (show codes.length < 128 ^ 8 by omega)]
  have g := grp_len (k := 0) (n := codes.length) (by omega)
  rw [e_catN (by omega)]
  simp (config := { implicitDefEqProofs := false }) only [got_o, got_e, bind_o, bind_e, opt_s, gotO_s, guard_t, outB_nx, outB_bk, outB_ct, outB_rt, outB_er, un2_t, un2_l, un3_t, un3_l, un4_t, un4_l, noer_o, stepB_nx, stepB_ct, stepB_bk, stepB_rt, stepB_er]
  by_cases c4 : k = 4
  · obtain ⟨u, r4, e4, u0, u1, hr4⟩ := taken_ok (m := 3) hr3 (by decide) (by decide)
    obtain ⟨u, rfl⟩ : ∃ j : Nat, u = j := ⟨u.toNat, by omega⟩
    have g2 := grp_len (k := 0) (n := codes.length + u) (by omega)
    simp only [c4, decide_true, if_true, got_o, got_e, bind_o, bind_e, opt_s, gotO_s, guard_t, outB_nx, outB_bk, outB_ct, outB_rt, outB_er, un2_t, un2_l, un3_t, un3_l, un4_t, un4_l, noer_o, stepB_nx, stepB_ct, stepB_bk, stepB_rt, stepB_er, e4, e_add, show ((codes.length : Nat) : Int) + (u : Nat) = ((codes.length + u : Nat) : Int) by omega, law_groups_ok (show codes.length + u < 128 ^ 8 by omega), e_catN (a := grp (codes.length + u)) (b := codes) (by omega), show ¬ (4 : Int) = 5 by decide, decide_false, Bool.false_eq_true, if_false]
    refine tail hr4 (oA grp_oct hf) (by rw [List.length_append]; omega) fun a b r hr h1 h2 h3 h4 => ?_
    obtain ⟨m, q1, q2, q3⟩ := fin (l := grp (codes.length + u) ++ codes) (oA grp_oct hf) (by rw [List.length_append]; omega) h1 h2 h3 h4
    exact ⟨m, q1, q2, q3, hr⟩
  simp only [c4, decide_false, Bool.false_eq_true, if_false, got_o, got_e, bind_o, bind_e, opt_s, gotO_s, guard_t, outB_nx, outB_bk, outB_ct, outB_rt, outB_er, un2_t, un2_l, un3_t, un3_l, un4_t, un4_l, noer_o, stepB_nx, stepB_ct, stepB_bk, stepB_rt, stepB_er]
  by_cases c5 : k = 5
  · obtain ⟨u, r4, e4, u0, u1, hr4⟩ := taken_ok (m := 256) hr3 (by decide) (by decide)
    obtain ⟨u, rfl⟩ : ∃ j : Nat, u = j := ⟨u.toNat, by omega⟩
    have gp : 0 < (grp codes.length).length := by rw [grp_lo (by omega)]; exact Nat.zero_lt_one
    obtain ⟨i, r5, e5, i0, i1, hr5⟩ := taken_ok (m := (((grp codes.length ++ codes).length : Nat) : Int)) hr4 (by rw [List.length_append]; omega) (by rw [List.length_append]; omega)
    obtain ⟨i, rfl⟩ : ∃ j : Nat, i = j := ⟨i.toNat, by omega⟩
    have ne : (oN (grp codes.length ++ codes)).isEmpty = false := by
      rw [grp_lo (show codes.length < 128 by omega)]; rfl
    simp only [c5, decide_true, if_true, got_o, got_e, bind_o, bind_e, opt_s, gotO_s, guard_t, outB_nx, outB_bk, outB_ct, outB_rt, outB_er, un2_t, un2_l, un3_t, un3_l, un4_t, un4_l, noer_o, stepB_nx, stepB_ct, stepB_bk, stepB_rt, stepB_er, e_neLN, ne, Bool.not_false, e_lenL, oN_len, e4, e5, e_ixWN (show i < (grp codes.length ++ codes).length by omega), oN_set]
    refine tail (l := (grp codes.length ++ codes).set i u) hr5 (put (oA grp_oct hf) (by omega)) (by rw [List.length_set, List.length_append]; omega) fun a b r hr h1 h2 h3 h4 => ?_
    obtain ⟨m, q1, q2, q3⟩ := fin (l := (grp codes.length ++ codes).set i u) (put (oA grp_oct hf) (by omega)) (by rw [List.length_set, List.length_append]; omega) h1 h2 h3 h4
    exact ⟨m, q1, q2, q3, hr⟩
  simp only [c5, decide_false, Bool.false_eq_true, if_false, got_o, got_e, bind_o, bind_e, opt_s, gotO_s, guard_t, outB_nx, outB_bk, outB_ct, outB_rt, outB_er, un2_t, un2_l, un3_t, un3_l, un4_t, un4_l, noer_o, stepB_nx, stepB_ct, stepB_bk, stepB_rt, stepB_er]
  refine tail hr3 (oA grp_oct hf) (by rw [List.length_append]; omega) fun a b r hr h1 h2 h3 h4 => ?_
  obtain ⟨m, q1, q2, q3⟩ := fin (l := grp codes.length ++ codes) (oA grp_oct hf) (by rw [List.length_append]; omega) h1 h2 h3 h4
  exact ⟨m, q1, q2, q3, hr⟩

theorem c_octets : List.contains T_errs "BadOctets" = true := by decide +kernel
theorem h_octets {v : D} : m__law_refused_h "BadOctets" [("value", v)] = .ok (.tup [.str "octets", v]) () := rfl
/-- a reader's answer at an index, as it is due -/
def Told (f : D → D → P D) (h : D) (at_ : Nat) (d : D) : Prop := (d = .non ∧ f h (.int (at_ : Nat)) = .er "BadOctets" [("value", .int (at_ : Nat))] ()) ∨ (KD.isNon d = false ∧ plain 12 d ∧ f h (.int (at_ : Nat)) = .ok d ())
theorem rd_mem {l : List Nat} : ∀ {acc w v c : Nat}, rdNum acc w l = some (v, c) → c ≤ l.length := by
  induction l with
  | nil => intro acc w v c h; cases h
  | cons g l ih =>
    intro acc w v c h
    rw [rdNum] at h
    split at h
    · split at h
      · cases h
      · cases h; simp
    · split at h
      · rename_i q
        cases h
        have := ih q
        simp; omega
      · cases h
theorem told_num {l : List Nat} {h : D} (ho : ∀ n ∈ l, n < 256) (hz : l.length < 900000) (hd : h = .tup (oN l) ∨ h = .lst (oN l)) {at_ : Nat} (ha : at_ ≤ l.length) : Told m_read_number h at_ (numO at_ (rdNum 0 1 (l.drop at_))) := by
  have e : m_read_number h (.int (at_ : Nat)) = numR at_ (rdNum 0 1 (l.drop at_)) := by
    unfold m_read_number
    simp (config := { implicitDefEqProofs := false }) only [got_o, got_e, bind_o, bind_e, opt_s, gotO_s, guard_t, outB_nx, outB_bk, outB_ct, outB_rt, outB_er, un2_t, un2_l, un3_t, un3_l, un4_t, un4_l, noer_o, stepB_nx, stepB_ct, stepB_bk, stepB_rt, stepB_er, check_index_ok ho hd ha, number_from_ok ho hz ha]
    cases rdNum 0 1 (l.drop at_) <;> rfl
  unfold Told
  rw [e]
  cases rdNum 0 1 (l.drop at_) with
  | none => exact .inl ⟨rfl, rfl⟩
  | some vc => exact .inr ⟨rfl, ⟨by simp, fun x hx => by
      simp only [List.mem_cons, List.not_mem_nil, or_false] at hx
      rcases hx with rfl | rfl <;> trivial⟩, rfl⟩
theorem plain_oN {l : List Nat} {n : Nat} (h : l.length ≤ 16777216) : plain (n + 2) (.tup (oN l)) := ⟨by rw [oN_len]; exact h, fun x hx => by
  obtain ⟨k, _, rfl⟩ := List.mem_map.mp hx
  trivial⟩
theorem told_row {l : List Nat} {h : D} (ho : ∀ n ∈ l, n < 256) (hz : l.length < 900000) (hd : h = .tup (oN l) ∨ h = .lst (oN l)) {at_ : Nat} (ha : at_ ≤ l.length) : Told m_read_row h at_ (rowO (rowAt l at_)) := by
  have e : m_read_row h (.int (at_ : Nat)) = rowR at_ (rowAt l at_) := by
    unfold m_read_row
    simp (config := { implicitDefEqProofs := false }) only [got_o, got_e, bind_o, bind_e, opt_s, gotO_s, guard_t, outB_nx, outB_bk, outB_ct, outB_rt, outB_er, un2_t, un2_l, un3_t, un3_l, un4_t, un4_l, noer_o, stepB_nx, stepB_ct, stepB_bk, stepB_rt, stepB_er, check_index_ok ho hd ha, row_from_gen ho hz ha]
    cases rowAt l at_ <;> rfl
  unfold Told
  rw [e]
  cases q : rowAt l at_ with
  | none => exact .inl ⟨rfl, rfl⟩
  | some xe =>
    obtain ⟨xs, e⟩ := xe
    have m := rowAt_mem q
    exact .inr ⟨rfl, ⟨by simp, fun x hx => by
      simp only [List.mem_cons, List.not_mem_nil, or_false] at hx
      rcases hx with rfl | rfl
      · exact plain_oN (n := 9) (by omega)
      · trivial⟩, rfl⟩
theorem told_text {l : List Nat} {h : D} (ho : ∀ n ∈ l, n < 256) (hz : l.length < 900000) (hd : h = .tup (oN l) ∨ h = .lst (oN l)) {at_ : Nat} (ha : at_ ≤ l.length) : Told m_read_text h at_ (textO (textAt l at_)) := by
  have e : m_read_text h (.int (at_ : Nat)) = textR at_ (textAt l at_) := by
    unfold m_read_text
    simp (config := { implicitDefEqProofs := false }) only [got_o, got_e, bind_o, bind_e, opt_s, gotO_s, guard_t, outB_nx, outB_bk, outB_ct, outB_rt, outB_er, un2_t, un2_l, un3_t, un3_l, un4_t, un4_l, noer_o, stepB_nx, stepB_ct, stepB_bk, stepB_rt, stepB_er, check_index_ok ho hd ha, text_from_gen ho hz ha]
    cases textAt l at_ <;> rfl
  unfold Told
  rw [e]
  cases q : textAt l at_ with
  | none => exact .inl ⟨rfl, rfl⟩
  | some xe => exact .inr ⟨rfl, ⟨by simp, fun x hx => by
      simp only [List.mem_cons, List.not_mem_nil, or_false] at hx
      rcases hx with rfl | rfl <;> trivial⟩, rfl⟩
theorem repr_at {a : Nat} (h : a ≤ 60) : ∃ q, reprD (.tup [.str "octets", .int (a : Nat)]) = some (.str q) := repr_pair (w := "octets") (d := .int (a : Nat)) (by decide +kernel) (repW_nat (Nat.lt_of_le_of_lt h (by decide))) (by omega) (by decide +kernel)
theorem repr_all : ∃ Q : Nat → Str, ∀ a, a ≤ 60 → reprD (.tup [.str "octets", .int (a : Nat)]) = some (.str (Q a)) := ⟨fun a => match reprD (.tup [.str "octets", .int (a : Nat)]) with
  | some (.str z) => z
  | _ => "", fun a h => by
    obtain ⟨q, e⟩ := repr_at h
    rw [e]; dsimp only; rw [e]⟩
theorem law_ok (ns : List Int) (hn : ns.length ≤ 63) : m_law (.scr ns) = .ok (.bl true) () := by
  obtain ⟨Q, hQ⟩ := repr_all
  unfold m_law m_law_0 m_law_1
  have hr0 : RowL [.scr ns, .int 0, .int 2626, .int 0] := row_start (by decide) (by decide)
  rw [show rng1 (.int 3) = some (rangeD 0 3) from rfl]
  simp (config := { implicitDefEqProofs := false }) only [got_o, got_e, bind_o, bind_e, opt_s, gotO_s, guard_t, outB_nx, outB_bk, outB_ct, outB_rt, outB_er, un2_t, un2_l, un3_t, un3_l, un4_t, un4_l, noer_o, stepB_nx, stepB_ct, stepB_bk, stepB_rt, stepB_er]
  refine nx_eq (fun t : List D × Unit => RowL t.1) (loop_inv (fun t : List D × Unit => RowL t.1) hr0 fun x hx t ht => ?_) fun t ht => rfl
  obtain ⟨l0, r1, e1, ho0, hl0, hr1⟩ := bits_ok ht
  obtain ⟨d, r2, e2, hd, hr2⟩ := pick_ok (xs := [.int 0, .int 0, .int 0, .int 1, .int 2]) hr1 (by simp) (by simp)
  obtain ⟨b, rfl⟩ : ∃ b : Int, d = .int b := by
    simp only [List.mem_cons, List.not_mem_nil, or_false] at hd
    rcases hd with h | h | h | h | h <;> exact ⟨_, h⟩
  obtain ⟨j, hj, e3⟩ := e_slLI (xs := oN l0) (i := (l0.length : Nat) - b)
  obtain ⟨w, r3, e4, w0, w1, hr3⟩ := taken_ok (m := 2) hr2 (by decide) (by decide)
  simp (config := { implicitDefEqProofs := false }) only [got_o, got_e, bind_o, bind_e, opt_s, gotO_s, guard_t, outB_nx, outB_bk, outB_ct, outB_rt, outB_er, un2_t, un2_l, un3_t, un3_l, un4_t, un4_l, noer_o, stepB_nx, stepB_ct, stepB_bk, stepB_rt, stepB_er, e1, e_lenL, oN_len, e2, e_sub, e_intOf, e3, oN_take, e4, e_eqI]
  have ho : ∀ n ∈ l0.take j, n < 256 := fun n hn => ho0 n (List.mem_of_mem_take hn)
  have hl : (l0.take j).length ≤ 60 := by rw [List.length_take]; omega
  generalize l0.take j = l at ho hl
  obtain ⟨h, hh, eh⟩ : ∃ h, (h = .tup (oN l) ∨ h = .lst (oN l)) ∧ (if decide (w = 0) = true then (R.ok (D.lst (oN l)) (r3, ()) : R (List D × Unit) D) else got (opt (tupleD (D.lst (oN l)))) (fun t x => R.ok t (r3, ())) (fun c fs x => R.er c fs (r3, ())) R.bad) = R.ok h (r3, ()) := by
    by_cases c : w = 0
    · exact ⟨_, .inr rfl, by rw [if_pos (decide_eq_true c)]⟩
    · exact ⟨_, .inl rfl, by rw [if_neg (by simp [c]), e_tupL]; rfl⟩
  obtain ⟨z, ez⟩ : ∃ z, reprD h = some (.str z) := by
    have r := repW_oN (l := l) fun n hn => Nat.lt_trans (ho n hn) (by decide)
    rcases hh with rfl | rfl
    · exact repr_ex (repW_mono (repW_tup r) (by omega) (by rw [oN_len]; omega)) rfl
    · exact repr_ex (repW_mono (repW_lst r) (by omega) (by rw [oN_len]; omega)) rfl
  obtain ⟨y, ey⟩ := repr_pair (w := "") (d := .non) (n := 0) (k := 0) (by decide +kernel) repW_non (by omega) (by decide +kernel)
  have s1 : selV [("read_number", ap2 m_read_number), ("read_row", ap2 m_read_row), ("read_text", ap2 m_read_text)] (.fn "read_number") = some (ap2 m_read_number) := rfl
  have s2 : selV [("read_number", ap2 m_read_number), ("read_row", ap2 m_read_row), ("read_text", ap2 m_read_text)] (.fn "read_row") = some (ap2 m_read_row) := rfl
  have s3 : selV [("read_number", ap2 m_read_number), ("read_row", ap2 m_read_row), ("read_text", ap2 m_read_text)] (.fn "read_text") = some (ap2 m_read_text) := rfl
  have en : enumI (.lst [(D.fn "read_number"), (D.fn "read_row"), (D.fn "read_text")]) = some [.tup [.int 0, .fn "read_number"], .tup [.int 1, .fn "read_row"], .tup [.int 2, .fn "read_text"]] := rfl
  rw [eh]
  simp (config := { implicitDefEqProofs := false }) only [got_o, got_e, bind_o, bind_e, opt_s, gotO_s, guard_t, outB_nx, outB_bk, outB_ct, outB_rt, outB_er, un2_t, un2_l, un3_t, un3_l, un4_t, un4_l, noer_o, stepB_nx, stepB_ct, stepB_bk, stepB_rt, stepB_er, ez, e_add, show ((l.length : Nat) : Int) + 1 = ((l.length + 1 : Nat) : Int) by omega, e_rngLN (show l.length + 1 ≤ 16777216 by omega), e_iterL]
  refine nx_go (fun _ => True) (loop_inv (fun _ => True) trivial fun x hx t _ => ?_) fun t _ => ?_
  · refine Exists.elim (mem_range hx) fun a ha => ?_
    have ha2 := ha.2
    subst ha2
    have ha := ha.1
    rw [show (0 : Int) + (a : Nat) = (a : Nat) by omega]
    have ha : a ≤ l.length := by omega
    have eq := hQ a (show a ≤ 60 by omega)
    have t1 := told_num ho (by omega) hh ha
    have t2 := told_row ho (by omega) hh ha
    have t3 := told_text ho (by omega) hh ha
    simp (config := { implicitDefEqProofs := false }) only [got_o, got_e, bind_o, bind_e, opt_s, gotO_s, guard_t, outB_nx, outB_bk, outB_ct, outB_rt, outB_er, un2_t, un2_l, un3_t, un3_l, un4_t, un4_l, noer_o, stepB_nx, stepB_ct, stepB_bk, stepB_rt, stepB_er, law_number_at_ok ho (show l.length < 900000 by omega) ha, law_row_at_ok ho (show l.length < 900000 by omega) ha, law_text_at_ok ho (show l.length < 900000 by omega) ha, en]
    generalize numO a (rdNum 0 1 (l.drop a)) = d1 at t1 ⊢
    generalize rowO (rowAt l a) = d2 at t2 ⊢
    generalize textO (textAt l a) = d3 at t3 ⊢
    refine nx_go (fun _ => True) (loop_inv (fun _ => True) trivial fun x hx t _ => ?_) fun t _ => trivial
    simp only [List.mem_cons, List.not_mem_nil, or_false] at hx
    rcases hx with rfl | rfl | rfl
    · rcases t1 with ⟨rfl, ef⟩ | ⟨nd, pd, ef⟩
      · simp (config := { implicitDefEqProofs := false }) only [got_o, got_e, bind_o, bind_e, opt_s, gotO_s, guard_t, outB_nx, outB_bk, outB_ct, outB_rt, outB_er, un2_t, un2_l, un3_t, un3_l, un4_t, un4_l, noer_o, stepB_nx, stepB_ct, stepB_bk, stepB_rt, stepB_er, s1, ap2_e, ef, c_octets, h_octets, e_l0, KD.isNon, if_true, eq, neS_self, Bool.false_eq_true, if_false, Bool.not_true]; trivial
      · simp (config := { implicitDefEqProofs := false }) only [got_o, got_e, bind_o, bind_e, opt_s, gotO_s, guard_t, outB_nx, outB_bk, outB_ct, outB_rt, outB_er, un2_t, un2_l, un3_t, un3_l, un4_t, un4_l, noer_o, stepB_nx, stepB_ct, stepB_bk, stepB_rt, stepB_er, s1, ap2_e, ef, m__law_refused_r, ey, e_l0, nd, neS_self, Bool.false_eq_true, if_false, if_true, Bool.not_false, alike_self 12 d1 pd, e_truB, Bool.not_true]; trivial
    · rcases t2 with ⟨rfl, ef⟩ | ⟨nd, pd, ef⟩
      · simp (config := { implicitDefEqProofs := false }) only [got_o, got_e, bind_o, bind_e, opt_s, gotO_s, guard_t, outB_nx, outB_bk, outB_ct, outB_rt, outB_er, un2_t, un2_l, un3_t, un3_l, un4_t, un4_l, noer_o, stepB_nx, stepB_ct, stepB_bk, stepB_rt, stepB_er, s2, ap2_e, ef, c_octets, h_octets, e_l1, KD.isNon, if_true, eq, neS_self, Bool.false_eq_true, if_false, Bool.not_true]; trivial
      · simp (config := { implicitDefEqProofs := false }) only [got_o, got_e, bind_o, bind_e, opt_s, gotO_s, guard_t, outB_nx, outB_bk, outB_ct, outB_rt, outB_er, un2_t, un2_l, un3_t, un3_l, un4_t, un4_l, noer_o, stepB_nx, stepB_ct, stepB_bk, stepB_rt, stepB_er, s2, ap2_e, ef, m__law_refused_r, ey, e_l1, nd, neS_self, Bool.false_eq_true, if_false, if_true, Bool.not_false, alike_self 12 d2 pd, e_truB, Bool.not_true]; trivial
    · rcases t3 with ⟨rfl, ef⟩ | ⟨nd, pd, ef⟩
      · simp (config := { implicitDefEqProofs := false }) only [got_o, got_e, bind_o, bind_e, opt_s, gotO_s, guard_t, outB_nx, outB_bk, outB_ct, outB_rt, outB_er, un2_t, un2_l, un3_t, un3_l, un4_t, un4_l, noer_o, stepB_nx, stepB_ct, stepB_bk, stepB_rt, stepB_er, s3, ap2_e, ef, c_octets, h_octets, e_l2, KD.isNon, if_true, eq, neS_self, Bool.false_eq_true, if_false, Bool.not_true]; trivial
      · simp (config := { implicitDefEqProofs := false }) only [got_o, got_e, bind_o, bind_e, opt_s, gotO_s, guard_t, outB_nx, outB_bk, outB_ct, outB_rt, outB_er, un2_t, un2_l, un3_t, un3_l, un4_t, un4_l, noer_o, stepB_nx, stepB_ct, stepB_bk, stepB_rt, stepB_er, s3, ap2_e, ef, m__law_refused_r, ey, e_l2, nd, neS_self, Bool.false_eq_true, if_false, if_true, Bool.not_false, alike_self 12 d3 pd, e_truB, Bool.not_true]; trivial
  · have p20 : powD (.int 10) (.int 20) = some (.int 100000000000000000000) := e_pow (show (0 : Int) ≤ 20 by decide) (by decide) (show (-18446744073709551616 : Int) < 10 by decide) (by decide)
    obtain ⟨d, r5, e5, hd, hr5⟩ := pick_ok (xs := [.int (l.length + 1 : Nat), .int (-1), .non, .bl true, .str "0", .int 100000000000000000000]) hr3 (by simp) (by simp)
    have odd : (tyN d).isSome = true ∧ wiB d 0 (l.length : Nat) = false ∧ RepW 0 200 d := by
      simp only [List.mem_cons, List.not_mem_nil, or_false] at hd
      rcases hd with h | h | h | h | h | h <;> subst h
      · exact ⟨rfl, by simp [wiB]; omega, repW_nat (Nat.lt_of_le_of_lt (show l.length + 1 ≤ 61 by omega) (by decide))⟩
      · exact ⟨rfl, by simp [wiB], repW_int (by decide)⟩
      · exact ⟨rfl, rfl, repW_mono repW_non (by omega) (by omega)⟩
      · exact ⟨rfl, rfl, repW_mono repW_bl (by omega) (by omega)⟩
      · exact ⟨rfl, rfl, repW_mono (repW_str (x := "0") (by decide +kernel)) (by omega) (by decide +kernel)⟩
      · exact ⟨rfl, by simp [wiB]; omega, repW_int (by decide)⟩
    obtain ⟨o1, o2, o3⟩ := odd
    obtain ⟨q, eq⟩ := repr_pair (w := "octets") (d := d) (by decide +kernel) o3 (by omega) (by decide +kernel)
    have ci := check_index_odd ho hh o1 o2
    have f1 : m_read_number h d = .er "BadOctets" [("value", d)] () := by
      unfold m_read_number
      simp (config := { implicitDefEqProofs := false }) only [got_o, got_e, bind_o, bind_e, opt_s, gotO_s, guard_t, outB_nx, outB_bk, outB_ct, outB_rt, outB_er, un2_t, un2_l, un3_t, un3_l, un4_t, un4_l, noer_o, stepB_nx, stepB_ct, stepB_bk, stepB_rt, stepB_er, ci]
    have f2 : m_read_row h d = .er "BadOctets" [("value", d)] () := by
      unfold m_read_row
      simp (config := { implicitDefEqProofs := false }) only [got_o, got_e, bind_o, bind_e, opt_s, gotO_s, guard_t, outB_nx, outB_bk, outB_ct, outB_rt, outB_er, un2_t, un2_l, un3_t, un3_l, un4_t, un4_l, noer_o, stepB_nx, stepB_ct, stepB_bk, stepB_rt, stepB_er, ci]
    have f3 : m_read_text h d = .er "BadOctets" [("value", d)] () := by
      unfold m_read_text
      simp (config := { implicitDefEqProofs := false }) only [got_o, got_e, bind_o, bind_e, opt_s, gotO_s, guard_t, outB_nx, outB_bk, outB_ct, outB_rt, outB_er, un2_t, un2_l, un3_t, un3_l, un4_t, un4_l, noer_o, stepB_nx, stepB_ct, stepB_bk, stepB_rt, stepB_er, ci]
    simp (config := { implicitDefEqProofs := false }) only [got_o, got_e, bind_o, bind_e, opt_s, gotO_s, guard_t, outB_nx, outB_bk, outB_ct, outB_rt, outB_er, un2_t, un2_l, un3_t, un3_l, un4_t, un4_l, noer_o, stepB_nx, stepB_ct, stepB_bk, stepB_rt, stepB_er, e_neg, p20, e5]
    refine nx_go (fun _ => True) (loop_inv (fun _ => True) trivial fun x hx t _ => ?_) fun t _ => ?_
    · simp only [List.mem_cons, List.not_mem_nil, or_false] at hx
      rcases hx with rfl | rfl | rfl
      · simp (config := { implicitDefEqProofs := false }) only [got_o, got_e, bind_o, bind_e, opt_s, gotO_s, guard_t, outB_nx, outB_bk, outB_ct, outB_rt, outB_er, un2_t, un2_l, un3_t, un3_l, un4_t, un4_l, noer_o, stepB_nx, stepB_ct, stepB_bk, stepB_rt, stepB_er, s1, ap2_e, f1, c_octets, h_octets, eq, neS_self, Bool.false_eq_true, if_false]; trivial
      · simp (config := { implicitDefEqProofs := false }) only [got_o, got_e, bind_o, bind_e, opt_s, gotO_s, guard_t, outB_nx, outB_bk, outB_ct, outB_rt, outB_er, un2_t, un2_l, un3_t, un3_l, un4_t, un4_l, noer_o, stepB_nx, stepB_ct, stepB_bk, stepB_rt, stepB_er, s2, ap2_e, f2, c_octets, h_octets, eq, neS_self, Bool.false_eq_true, if_false]; trivial
      · simp (config := { implicitDefEqProofs := false }) only [got_o, got_e, bind_o, bind_e, opt_s, gotO_s, guard_t, outB_nx, outB_bk, outB_ct, outB_rt, outB_er, un2_t, un2_l, un3_t, un3_l, un4_t, un4_l, noer_o, stepB_nx, stepB_ct, stepB_bk, stepB_rt, stepB_er, s3, ap2_e, f3, c_octets, h_octets, eq, neS_self, Bool.false_eq_true, if_false]; trivial
    · simp (config := { implicitDefEqProofs := false }) only [got_o, got_e, bind_o, bind_e, opt_s, gotO_s, guard_t, outB_nx, outB_bk, outB_ct, outB_rt, outB_er, un2_t, un2_l, un3_t, un3_l, un4_t, un4_l, noer_o, stepB_nx, stepB_ct, stepB_bk, stepB_rt, stepB_er, neS_self, Bool.false_eq_true, if_false]
      exact hr5

/-! is_integer -/
abbrev s_is_integer : Stmt := topS 5
abbrev N_is_integer : List Str := ["thing"]
theorem sc_is_integer : FnScope N_is_integer ["thing"] (defScope s_is_integer) := ⟨rfl, rfl, rfl, by decide +kernel, rfl, by decide +kernel, by decide +kernel⟩
theorem has_is_integer {P : Program} {w : World} {K : PySem.W.Frag} {mg : Str → Option Value} {base : Heap} {C : Str → Addr} (A : At K mg "is_integer" s_is_integer ["thing"]) (z_bool : mg "bool" = none) (z_int : mg "int" = none) (z_isinstance : mg "isinstance" = none) : Has P w K mg base 1 "is_integer" ["thing"] (spP C 1 (ap1 (m_is_integer))) := by
  refine okP (k := 0) (C := C) A sc_is_integer (by decide) ?hm (fun f cdv A outer s H E hr => (xss_one (xs_ret (xc_p (xe_b (xb_and (xb_callB dc_isi ok_isi (by rfl) z_isinstance (by decide +kernel) (xva_cons (xv_e (xe_var (de_var 0))) (xva_cons (xv_e (xe_c (de_ty (by rfl) z_int boot_int))) xva_nil))) (xb_one (xb_not (xb_callB dc_isi ok_isi (by rfl) z_isinstance (by decide +kernel) (xva_cons (xv_e (xe_var (de_var 0))) (xva_cons (xv_e (xe_c (de_ty (by rfl) z_bool boot_bool))) xva_nil)))))))))))
  case hm => exact fun ds hl => match ds, hl with | [_], _ => by kernel_rfl
/-! is_within -/
abbrev s_is_within : Stmt := topS 6
abbrev N_is_within : List Str := ["thing", "least", "most"]
theorem sc_is_within : FnScope N_is_within ["thing", "least", "most"] (defScope s_is_within) := ⟨rfl, rfl, rfl, by decide +kernel, rfl, by decide +kernel, by decide +kernel⟩
theorem has_is_within {P : Program} {w : World} {K : PySem.W.Frag} {mg : Str → Option Value} {base : Heap} {C : Str → Addr} (A : At K mg "is_within" s_is_within ["thing", "least", "most"]) (D_is_integer : Has P w K mg base 1 "is_integer" ["thing"] (spP C 1 (ap1 (m_is_integer)))) : Has P w K mg base 2 "is_within" ["thing", "least", "most"] (spP C 3 (ap3 (m_is_within))) := by
  refine okP (k := 1) (C := C) A sc_is_within (by decide) ?hm (fun f cdv A outer s H E hr => (xss_one (xs_ret (xc_p (xe_b (xb_and (xb_e (xe_has (lenCons lenNil) (takes_of rfl rfl rfl rfl) D_is_integer (hr.mono (by decide)) (by rfl) (xa_cons (xe_var (de_var 0)) xa_nil))) (xb_one (xb_chain dop_le ok_le dop_le ok_le (xv_e (xe_var (de_var 1))) (xv_e (xe_var (de_var 0))) (xv_e (xe_var (de_var 2)))))))))))
  case hm => exact fun ds hl => match ds, hl with | [_, _, _], _ => by kernel_rfl
/-! is_octet -/
abbrev s_is_octet : Stmt := topS 7
abbrev N_is_octet : List Str := ["thing"]
theorem sc_is_octet : FnScope N_is_octet ["thing"] (defScope s_is_octet) := ⟨rfl, rfl, rfl, by decide +kernel, rfl, by decide +kernel, by decide +kernel⟩
theorem has_is_octet {P : Program} {w : World} {K : PySem.W.Frag} {mg : Str → Option Value} {base : Heap} {C : Str → Addr} (A : At K mg "is_octet" s_is_octet ["thing"]) (D_is_integer : Has P w K mg base 1 "is_integer" ["thing"] (spP C 1 (ap1 (m_is_integer)))) : Has P w K mg base 2 "is_octet" ["thing"] (spP C 1 (ap1 (m_is_octet))) := by
  refine okP (k := 1) (C := C) A sc_is_octet (by decide) ?hm (fun f cdv A outer s H E hr => (xss_one (xs_ret (xc_p (xe_b (xb_and (xb_e (xe_has (lenCons lenNil) (takes_of rfl rfl rfl rfl) D_is_integer (hr.mono (by decide)) (by rfl) (xa_cons (xe_var (de_var 0)) xa_nil))) (xb_one (xb_chain dop_le ok_le dop_le ok_le (xv_e (xe_c de_int)) (xv_e (xe_var (de_var 0))) (xv_e (xe_c de_int))))))))))
  case hm => exact fun ds hl => match ds, hl with | [_], _ => by kernel_rfl
/-! is_row -/
abbrev s_is_row : Stmt := topS 8
abbrev N_is_row : List Str := ["thing"]
theorem sc_is_row : FnScope N_is_row ["thing"] (defScope s_is_row) := ⟨rfl, rfl, rfl, by decide +kernel, rfl, by decide +kernel, by decide +kernel⟩
theorem has_is_row {P : Program} {w : World} {K : PySem.W.Frag} {mg : Str → Option Value} {base : Heap} {C : Str → Addr} (A : At K mg "is_row" s_is_row ["thing"]) (z_isinstance : mg "isinstance" = none) (z_list : mg "list" = none) (z_tuple : mg "tuple" = none) : Has P w K mg base 1 "is_row" ["thing"] (spP C 1 (ap1 (m_is_row))) := by
  refine okP (k := 0) (C := C) A sc_is_row (by decide) ?hm (fun f cdv A outer s H E hr => (xss_one (xs_ret (xc_p (xe_b (xb_callB dc_isi ok_isi (by rfl) z_isinstance (by decide +kernel) (xva_cons (xv_e (xe_var (de_var 0))) (xva_cons (xv_e (xe_tup (lenCons (lenCons lenNil)) (xa_cons (xe_c (de_ty (by rfl) z_list boot_list)) (xa_cons (xe_c (de_ty (by rfl) z_tuple boot_tuple)) xa_nil)))) xva_nil))))))))
  case hm => exact fun ds hl => match ds, hl with | [_], _ => by kernel_rfl
/-! checked_octets -/
abbrev s_checked_octets : Stmt := topS 9
abbrev N_checked_octets : List Str := ["thing", "index", "one"]
theorem sc_checked_octets : FnScope N_checked_octets ["thing"] (defScope s_checked_octets) := ⟨rfl, rfl, rfl, by decide +kernel, rfl, by decide +kernel, by decide +kernel⟩
theorem has_checked_octets {P : Program} {w : World} {K : PySem.W.Frag} {mg : Str → Option Value} {base : Heap} {C : Str → Addr} (A : At K mg "checked_octets" s_checked_octets ["thing"]) (D_is_row : Has P w K mg base 1 "is_row" ["thing"] (spP C 1 (ap1 (m_is_row)))) (D_is_octet : Has P w K mg base 2 "is_octet" ["thing"] (spP C 1 (ap1 (m_is_octet)))) (z_enumerate : mg "enumerate" = none) (z_tuple : mg "tuple" = none) (X_BadOctets : ErrC K mg P w base "BadOctets" (C "BadOctets") "value" [] []) : Has P w K mg base 3 "checked_octets" ["thing"] (spP C 1 (ap1 (m_checked_octets))) := by
  refine okP (k := 2) (C := C) A sc_checked_octets (by decide) ?hm (fun f cdv A outer s H E hr => (xss_cons (xs_if (xct_p (xt_not (xt_tru ok_tru (xv_e (xe_has (lenCons lenNil) (takes_of rfl rfl rfl rfl) D_is_row (hr.mono (by decide)) (by rfl) (xa_cons (xe_var (de_var 0)) xa_nil))))))
 (xss_one (xs_raise1 rfl (takes_of rfl rfl rfl rfl) X_BadOctets (hr.mono (by decide)) (by rfl) (xc_p (xe_neg ok_neg (xe_c de_int)))))
 xss_nil)
 (xss_cons (xs_for (I := []) (J := []) (K := [1, 2]) (passes_of rfl) rfl (xi_enum (by rfl) z_enumerate (xe_var (de_var 0))) (dg_tupG rfl (dgs_cons (dg_name (i := 1) sc_checked_octets.nd rfl (Or.inl rfl)) (dgs_cons (dg_name (i := 2) sc_checked_octets.nd rfl (Or.inl rfl)) dgs_nil))) (gok2 (gok_name 1) (gok_name 2))
 (xss_one (xs_if (xct_p (xt_not (xt_tru ok_tru (xv_e (xe_has (lenCons lenNil) (takes_of rfl rfl rfl rfl) D_is_octet (hr.mono (by decide)) (by rfl) (xa_cons (xe_var (de_var 2)) xa_nil))))))
 (xss_one (xs_raise1 rfl (takes_of rfl rfl rfl rfl) X_BadOctets (hr.mono (by decide)) (by rfl) (xc_p (xe_var (de_var 1)))))
 xss_nil)))
 (xss_one (xs_ret (xc_p (xe_callTy dc_tuple ok_tuple (by rfl) z_tuple (by decide +kernel) (xva_cons (xv_e (xe_var (de_var 0))) xva_nil))))))))
  case hm => exact fun ds hl => match ds, hl with | [_], _ => by kernel_rfl
/-! number_from -/
abbrev s_number_from : Stmt := topS 12
abbrev N_number_from : List Str := ["octets", "at", "number", "weight", "here", "group"]
theorem sc_number_from : FnScope N_number_from ["octets", "at"] (defScope s_number_from) := ⟨rfl, rfl, rfl, by decide +kernel, rfl, by decide +kernel, by decide +kernel⟩
theorem has_number_from {P : Program} {w : World} {K : PySem.W.Frag} {mg : Str → Option Value} {base : Heap} {C : Str → Addr} (A : At K mg "number_from" s_number_from ["octets", "at"]) (z_len : mg "len" = none) (c_MOST_NUMBER : ∃ t, mg "MOST_NUMBER" = some (.int 1000000000000000 t)) (X_BadOctets : ErrC K mg P w base "BadOctets" (C "BadOctets") "value" [] []) : Has P w K mg base 3 "number_from" ["octets", "at"] (spP C 2 (ap2 (m_number_from))) := by
  obtain ⟨t_MOST_NUMBER, c_MOST_NUMBER⟩ := c_MOST_NUMBER
  refine okP (k := 2) (C := C) A sc_number_from (by decide) ?hm (fun f cdv A outer s H E hr => (xss_cons (xs_set (ds_set (i := 2) sc_number_from.nd rfl (Or.inl rfl) (xc_p (xe_c de_int))))
 (xss_cons (xs_set (ds_set (i := 3) sc_number_from.nd rfl (Or.inl rfl) (xc_p (xe_c de_int))))
 (xss_cons (xs_set (ds_set (i := 4) sc_number_from.nd rfl (Or.inl rfl) (xc_p (xe_var (de_var 1)))))
 (xss_cons (xs_while (I := []) (J := [(2, .d), (3, .d), (4, .d)]) (K := [5]) (passes_of rfl) (xt_cmp dop_lt ok_lt (xv_e (xe_var (de_var 4))) (xv_e (xe_callB dc_lenG ok_len (by rfl) z_len (by decide +kernel) (xva_cons (xv_e (xe_var (de_var 0))) xva_nil))))
 (xss_cons (xs_set (ds_set (i := 5) sc_number_from.nd rfl (Or.inl rfl) (xc_p (xe_ix (dix_G hr.units) ok_ix (xv_e (xe_var (de_var 0))) (xv_e (xe_var (de_var 4)))))))
 (xss_cons (xs_aug ok_addI (ds_aug (i := 4) sc_number_from.nd rfl (Or.inl rfl) (xc_p (xe_c de_int)) dip_add))
 (xss_cons (xs_if (xct_p (xt_cmp dop_lt ok_lt (xv_e (xe_var (de_var 5))) (xv_e (xe_c de_int))))
 (xss_cons (xs_aug ok_addI (ds_aug (i := 2) sc_number_from.nd rfl (Or.inl rfl) (xc_p (xe_op dop_mulG ok_mul (xv_e (xe_var (de_var 5))) (xv_e (xe_var (de_var 3))))) dip_add))
 (xss_cons (xs_if (xct_p (xw_t (xw_or (xw_t (xw_and (xt_cmp (dop_eqG hr.units) ok_eq (xv_e (xe_var (de_var 5))) (xv_e (xe_c de_int))) (xw_and1 (xt_cmp dop_gt ok_gt (xv_e (xe_var (de_var 3))) (xv_e (xe_c de_int)))))) (xw_or1 (xt_cmp dop_gt ok_gt (xv_e (xe_var (de_var 2))) (xv_e (xe_c (de_globI (by rfl) c_MOST_NUMBER))))))))
 (xss_one (xs_raise1 rfl (takes_of rfl rfl rfl rfl) X_BadOctets (hr.mono (by decide)) (by rfl) (xc_p (xe_var (de_var 1)))))
 xss_nil)
 (xss_one (xs_ret (xc_p (xe_tup (lenCons (lenCons lenNil)) (xa_cons (xe_var (de_var 2)) (xa_cons (xe_var (de_var 4)) xa_nil))))))))
 xss_nil)
 (xss_cons (xs_aug ok_addI (ds_aug (i := 2) sc_number_from.nd rfl (Or.inl rfl) (xc_p (xe_op dop_mulG ok_mul (xv_e (xe_op dop_sub ok_sub (xv_e (xe_var (de_var 5))) (xv_e (xe_c de_int)))) (xv_e (xe_var (de_var 3))))) dip_add))
 (xss_one (xs_set (ds_set (i := 3) sc_number_from.nd rfl (Or.inl rfl) (xc_p (xe_op dop_mulG ok_mul (xv_e (xe_var (de_var 3))) (xv_e (xe_c de_int))))))))))))
 (xss_one (xs_raise1 rfl (takes_of rfl rfl rfl rfl) X_BadOctets (hr.mono (by decide)) (by rfl) (xc_p (xe_var (de_var 1))))))))))
  case hm => exact fun ds hl => match ds, hl with | [_, _], _ => by kernel_rfl
/-! row_from -/
abbrev s_row_from : Stmt := topS 13
abbrev N_row_from : List Str := ["octets", "at", "many", "here"]
theorem sc_row_from : FnScope N_row_from ["octets", "at"] (defScope s_row_from) := ⟨rfl, rfl, rfl, by decide +kernel, rfl, by decide +kernel, by decide +kernel⟩
theorem has_row_from {P : Program} {w : World} {K : PySem.W.Frag} {mg : Str → Option Value} {base : Heap} {C : Str → Addr} (A : At K mg "row_from" s_row_from ["octets", "at"]) (D_number_from : Has P w K mg base 3 "number_from" ["octets", "at"] (spP C 2 (ap2 (m_number_from)))) (z_len : mg "len" = none) (X_BadOctets : ErrC K mg P w base "BadOctets" (C "BadOctets") "value" [] []) : Has P w K mg base 4 "row_from" ["octets", "at"] (spP C 2 (ap2 (m_row_from))) := by
  refine okP (k := 3) (C := C) A sc_row_from (by decide) ?hm (fun f cdv A outer s H E hr => (xss_cons (xs_asg (gok2 (gok_name 2) (gok_name 3)) (ds_asg (xc_p (xe_has (lenCons (lenCons lenNil)) (takes_of rfl rfl rfl rfl) D_number_from (hr.mono (by decide)) (by rfl) (xa_cons (xe_var (de_var 0)) (xa_cons (xe_var (de_var 1)) xa_nil)))) (dg_tupG rfl (dgs_cons (dg_name (i := 2) sc_row_from.nd rfl (Or.inl rfl)) (dgs_cons (dg_name (i := 3) sc_row_from.nd rfl (Or.inl rfl)) dgs_nil)))))
 (xss_cons (xs_if (xct_p (xt_cmp dop_gt ok_gt (xv_e (xe_op dop_add ok_add (xv_e (xe_var (de_var 3))) (xv_e (xe_var (de_var 2))))) (xv_e (xe_callB dc_lenG ok_len (by rfl) z_len (by decide +kernel) (xva_cons (xv_e (xe_var (de_var 0))) xva_nil)))))
 (xss_one (xs_raise1 rfl (takes_of rfl rfl rfl rfl) X_BadOctets (hr.mono (by decide)) (by rfl) (xc_p (xe_var (de_var 1)))))
 xss_nil)
 (xss_one (xs_ret (xc_p (xe_tup (lenCons (lenCons lenNil)) (xa_cons (xe_slice ok_sl (xv_e (xe_var (de_var 0))) (xo_some (xe_var (de_var 3))) (xo_some (xe_op dop_add ok_add (xv_e (xe_var (de_var 3))) (xv_e (xe_var (de_var 2)))))) (xa_cons (xe_op dop_add ok_add (xv_e (xe_var (de_var 3))) (xv_e (xe_var (de_var 2)))) xa_nil)))))))))
  case hm => exact fun ds hl => match ds, hl with | [_, _], _ => by kernel_rfl
/-! sign_of -/
abbrev s_sign_of : Stmt := topS 14
abbrev N_sign_of : List Str := ["code"]
theorem sc_sign_of : FnScope N_sign_of ["code"] (defScope s_sign_of) := ⟨rfl, rfl, rfl, by decide +kernel, rfl, by decide +kernel, by decide +kernel⟩
theorem has_sign_of {P : Program} {w : World} {K : PySem.W.Frag} {mg : Str → Option Value} {base : Heap} {C : Str → Addr} (A : At K mg "sign_of" s_sign_of ["code"]) (c_SIGNS : ∃ t, mg "SIGNS" = some (.str " !\"#$&'()*+,-./0123456789:;<=>?@ABCDEFGHIJKLMNOPQRSTUVWXYZ[\\]^_`abcdefghijklmnopqrstuvwxyz{|}~" t)) : Has P w K mg base 1 "sign_of" ["code"] (spP C 1 (ap1 (m_sign_of))) := by
  obtain ⟨t_SIGNS, c_SIGNS⟩ := c_SIGNS
  refine okP (k := 0) (C := C) A sc_sign_of (by decide) ?hm (fun f cdv A outer s H E hr => (xss_cons (xs_if (xct_p (xw_t (xw_or (xt_not (xt_chain dop_le ok_le dop_le ok_le (xv_e (xe_c de_int)) (xv_e (xe_var (de_var 0))) (xv_e (xe_c de_int)))) (xw_or1 (xt_cmp (dop_eqG hr.units) ok_eq (xv_e (xe_var (de_var 0))) (xv_e (xe_c de_int)))))))
 (xss_one (xs_ret (xc_p (xe_c de_str))))
 xss_nil)
 (xss_cons (xs_if (xct_p (xt_cmp dop_lt ok_lt (xv_e (xe_var (de_var 0))) (xv_e (xe_c de_int))))
 (xss_one (xs_ret (xc_p (xe_ix (dix_G hr.units) ok_ix (xv_e (xe_c (de_globS (by rfl) c_SIGNS))) (xv_e (xe_op dop_sub ok_sub (xv_e (xe_var (de_var 0))) (xv_e (xe_c de_int))))))))
 xss_nil)
 (xss_one (xs_ret (xc_p (xe_ix (dix_G hr.units) ok_ix (xv_e (xe_c (de_globS (by rfl) c_SIGNS))) (xv_e (xe_op dop_sub ok_sub (xv_e (xe_var (de_var 0))) (xv_e (xe_c de_int)))))))))))
  case hm => exact fun ds hl => match ds, hl with | [_], _ => by kernel_rfl
/-! text_from -/
abbrev s_text_from : Stmt := topS 15
abbrev N_text_from : List Str := ["octets", "at", "codes", "here", "signs", "code"]
theorem sc_text_from : FnScope N_text_from ["octets", "at"] (defScope s_text_from) := ⟨rfl, rfl, rfl, by decide +kernel, rfl, by decide +kernel, by decide +kernel⟩
theorem has_text_from {P : Program} {w : World} {K : PySem.W.Frag} {mg : Str → Option Value} {base : Heap} {C : Str → Addr} (A : At K mg "text_from" s_text_from ["octets", "at"]) (D_row_from : Has P w K mg base 4 "row_from" ["octets", "at"] (spP C 2 (ap2 (m_row_from)))) (D_sign_of : Has P w K mg base 1 "sign_of" ["code"] (spP C 1 (ap1 (m_sign_of)))) (X_BadOctets : ErrC K mg P w base "BadOctets" (C "BadOctets") "value" [] []) : Has P w K mg base 5 "text_from" ["octets", "at"] (spP C 2 (ap2 (m_text_from))) := by
  refine okP (k := 4) (C := C) A sc_text_from (by decide) ?hm (fun f cdv A outer s H E hr => (xss_cons (xs_asg (gok2 (gok_name 2) (gok_name 3)) (ds_asg (xc_p (xe_has (lenCons (lenCons lenNil)) (takes_of rfl rfl rfl rfl) D_row_from (hr.mono (by decide)) (by rfl) (xa_cons (xe_var (de_var 0)) (xa_cons (xe_var (de_var 1)) xa_nil)))) (dg_tupG rfl (dgs_cons (dg_name (i := 2) sc_text_from.nd rfl (Or.inl rfl)) (dgs_cons (dg_name (i := 3) sc_text_from.nd rfl (Or.inl rfl)) dgs_nil)))))
 (xss_cons (xs_setLcM (gok_name 5) (ds_setLc (i := 4) rfl sc_text_from.nd rfl rfl (sw_true rfl rfl rfl (by decide +kernel)) (xi_any (xe_var (de_var 2))) (blkOk_by (own := [("code", 5)]) (N := N_text_from) (sc := defScope s_text_from) (by decide +kernel)) (fun _ _ _ _ _ => (dg_name (i := 5) sc_text_from.nd rfl (Or.inl rfl))) (fun _ _ _ _ _ => dts_nil) (fun _ _ _ _ _ => (xe_has (lenCons lenNil) takes0 D_sign_of (hr.mono (by decide)) (by rfl) (xa_cons (xe_var (de_var 5)) xa_nil))) rfl (by decide)))
 (xss_cons (xs_if (xct_p (xt_cmp (dop_inG hr.units) ok_in (xv_e (xe_c de_str)) (xv_e (xe_var (de_var 4)))))
 (xss_one (xs_raise1 rfl (takes_of rfl rfl rfl rfl) X_BadOctets (hr.mono (by decide)) (by rfl) (xc_p (xe_var (de_var 1)))))
 xss_nil)
 (xss_one (xs_ret (xc_p (xe_tup (lenCons (lenCons lenNil)) (xa_cons (xe_join (xv_e (xe_c de_str)) (xv_e (xe_var (de_var 4)))) (xa_cons (xe_var (de_var 3)) xa_nil))))))))))
  case hm => exact fun ds hl => match ds, hl with | [_, _], _ => by kernel_rfl
/-! check_index -/
abbrev s_check_index : Stmt := topS 16
abbrev N_check_index : List Str := ["octets", "at", "row"]
theorem sc_check_index : FnScope N_check_index ["octets", "at"] (defScope s_check_index) := ⟨rfl, rfl, rfl, by decide +kernel, rfl, by decide +kernel, by decide +kernel⟩
theorem has_check_index {P : Program} {w : World} {K : PySem.W.Frag} {mg : Str → Option Value} {base : Heap} {C : Str → Addr} (A : At K mg "check_index" s_check_index ["octets", "at"]) (D_checked_octets : Has P w K mg base 3 "checked_octets" ["thing"] (spP C 1 (ap1 (m_checked_octets)))) (D_is_within : Has P w K mg base 2 "is_within" ["thing", "least", "most"] (spP C 3 (ap3 (m_is_within)))) (z_len : mg "len" = none) (X_BadOctets : ErrC K mg P w base "BadOctets" (C "BadOctets") "value" [] []) : Has P w K mg base 4 "check_index" ["octets", "at"] (spP C 2 (ap2 (m_check_index))) := by
  refine okP (k := 3) (C := C) A sc_check_index (by decide) ?hm (fun f cdv A outer s H E hr => (xss_cons (xs_set (ds_set (i := 2) sc_check_index.nd rfl (Or.inl rfl) (xc_p (xe_has (lenCons lenNil) (takes_of rfl rfl rfl rfl) D_checked_octets (hr.mono (by decide)) (by rfl) (xa_cons (xe_var (de_var 0)) xa_nil)))))
 (xss_cons (xs_if (xct_p (xt_not (xt_tru ok_tru (xv_e (xe_has (lenCons (lenCons (lenCons lenNil))) (takes_of rfl rfl rfl rfl) D_is_within (hr.mono (by decide)) (by rfl) (xa_cons (xe_var (de_var 1)) (xa_cons (xe_c de_int) (xa_cons (xe_callB dc_lenG ok_len (by rfl) z_len (by decide +kernel) (xva_cons (xv_e (xe_var (de_var 2))) xva_nil)) xa_nil))))))))
 (xss_one (xs_raise1 rfl (takes_of rfl rfl rfl rfl) X_BadOctets (hr.mono (by decide)) (by rfl) (xc_p (xe_var (de_var 1)))))
 xss_nil)
 (xss_one (xs_ret (xc_p (xe_var (de_var 2))))))))
  case hm => exact fun ds hl => match ds, hl with | [_, _], _ => by kernel_rfl
/-! read_number -/
abbrev s_read_number : Stmt := topS 17
abbrev N_read_number : List Str := ["octets", "at"]
theorem sc_read_number : FnScope N_read_number ["octets", "at"] (defScope s_read_number) := ⟨rfl, rfl, rfl, by decide +kernel, rfl, by decide +kernel, by decide +kernel⟩
theorem has_read_number {P : Program} {w : World} {K : PySem.W.Frag} {mg : Str → Option Value} {base : Heap} {C : Str → Addr} (A : At K mg "read_number" s_read_number ["octets", "at"]) (D_number_from : Has P w K mg base 3 "number_from" ["octets", "at"] (spP C 2 (ap2 (m_number_from)))) (D_check_index : Has P w K mg base 4 "check_index" ["octets", "at"] (spP C 2 (ap2 (m_check_index)))) : Has P w K mg base 5 "read_number" ["octets", "at"] (spP C 2 (ap2 (m_read_number))) := by
  refine okP (k := 4) (C := C) A sc_read_number (by decide) ?hm (fun f cdv A outer s H E hr => (xss_one (xs_ret (xc_p (xe_has (lenCons (lenCons lenNil)) (takes_of rfl rfl rfl rfl) D_number_from (hr.mono (by decide)) (by rfl) (xa_cons (xe_has (lenCons (lenCons lenNil)) (takes_of rfl rfl rfl rfl) D_check_index (hr.mono (by decide)) (by rfl) (xa_cons (xe_var (de_var 0)) (xa_cons (xe_var (de_var 1)) xa_nil))) (xa_cons (xe_var (de_var 1)) xa_nil)))))))
  case hm => exact fun ds hl => match ds, hl with | [_, _], _ => by kernel_rfl
/-! read_row -/
abbrev s_read_row : Stmt := topS 18
abbrev N_read_row : List Str := ["octets", "at"]
theorem sc_read_row : FnScope N_read_row ["octets", "at"] (defScope s_read_row) := ⟨rfl, rfl, rfl, by decide +kernel, rfl, by decide +kernel, by decide +kernel⟩
theorem has_read_row {P : Program} {w : World} {K : PySem.W.Frag} {mg : Str → Option Value} {base : Heap} {C : Str → Addr} (A : At K mg "read_row" s_read_row ["octets", "at"]) (D_row_from : Has P w K mg base 4 "row_from" ["octets", "at"] (spP C 2 (ap2 (m_row_from)))) (D_check_index : Has P w K mg base 4 "check_index" ["octets", "at"] (spP C 2 (ap2 (m_check_index)))) : Has P w K mg base 5 "read_row" ["octets", "at"] (spP C 2 (ap2 (m_read_row))) := by
  refine okP (k := 4) (C := C) A sc_read_row (by decide) ?hm (fun f cdv A outer s H E hr => (xss_one (xs_ret (xc_p (xe_has (lenCons (lenCons lenNil)) (takes_of rfl rfl rfl rfl) D_row_from (hr.mono (by decide)) (by rfl) (xa_cons (xe_has (lenCons (lenCons lenNil)) (takes_of rfl rfl rfl rfl) D_check_index (hr.mono (by decide)) (by rfl) (xa_cons (xe_var (de_var 0)) (xa_cons (xe_var (de_var 1)) xa_nil))) (xa_cons (xe_var (de_var 1)) xa_nil)))))))
  case hm => exact fun ds hl => match ds, hl with | [_, _], _ => by kernel_rfl
/-! read_text -/
abbrev s_read_text : Stmt := topS 19
abbrev N_read_text : List Str := ["octets", "at"]
theorem sc_read_text : FnScope N_read_text ["octets", "at"] (defScope s_read_text) := ⟨rfl, rfl, rfl, by decide +kernel, rfl, by decide +kernel, by decide +kernel⟩
theorem has_read_text {P : Program} {w : World} {K : PySem.W.Frag} {mg : Str → Option Value} {base : Heap} {C : Str → Addr} (A : At K mg "read_text" s_read_text ["octets", "at"]) (D_text_from : Has P w K mg base 5 "text_from" ["octets", "at"] (spP C 2 (ap2 (m_text_from)))) (D_check_index : Has P w K mg base 4 "check_index" ["octets", "at"] (spP C 2 (ap2 (m_check_index)))) : Has P w K mg base 6 "read_text" ["octets", "at"] (spP C 2 (ap2 (m_read_text))) := by
  refine okP (k := 5) (C := C) A sc_read_text (by decide) ?hm (fun f cdv A outer s H E hr => (xss_one (xs_ret (xc_p (xe_has (lenCons (lenCons lenNil)) (takes_of rfl rfl rfl rfl) D_text_from (hr.mono (by decide)) (by rfl) (xa_cons (xe_has (lenCons (lenCons lenNil)) (takes_of rfl rfl rfl rfl) D_check_index (hr.mono (by decide)) (by rfl) (xa_cons (xe_var (de_var 0)) (xa_cons (xe_var (de_var 1)) xa_nil))) (xa_cons (xe_var (de_var 1)) xa_nil)))))))
  case hm => exact fun ds hl => match ds, hl with | [_, _], _ => by kernel_rfl
/-! _law_taken -/
abbrev s__law_taken : Stmt := topS 21
abbrev N__law_taken : List Str := ["row", "many", "found", "cell"]
theorem sc__law_taken : FnScope N__law_taken ["row", "many"] (defScope s__law_taken) := ⟨rfl, rfl, rfl, by decide +kernel, rfl, by decide +kernel, by decide +kernel⟩
theorem has__law_taken {P : Program} {w : World} {K : PySem.W.Frag} {mg : Str → Option Value} {base : Heap} {C : Str → Addr} (A : At K mg "_law_taken" s__law_taken ["row", "many"]) (z_int : mg "int" = none) (z_len : mg "len" = none) : Has P w K mg base 1 "_law_taken" ["row", "many"] (spI C pk__law_taken i__law_taken) := by
  refine okI (k := 0) (C := C) A sc__law_taken rfl (by decide) ?hm (fun f cdv A outer s H E hr => (xss_cons (xs_if (xct_p (xt_cmp dop_gt ok_gt (xv_e (xe_ix (dix_G hr.units) ok_ix (xv_var (de_var 0)) (xv_e (xe_c de_int)))) (xv_e (xe_c de_int))))
 (xss_cons (xs_set (ds_set (i := 2) sc__law_taken.nd rfl (Or.inl rfl) (xc_p (xe_op dop_mod ok_mod (xv_e (xe_callTy dc_int ok_int (by rfl) z_int (by decide +kernel) (xva_cons (xv_e (xe_ix (dix_G hr.units) ok_ix (xv_var (de_var 0)) (xv_e (xe_c de_int)))) xva_nil))) (xv_e (xe_var (de_var 1)))))))
 (xss_cons (xs_setIx (i := 0) (de_var 0) (xc_p (xe_c de_int)) (xc_p (xe_op dop_fdiv ok_fdiv (xv_e (xe_ix (dix_G hr.units) ok_ix (xv_var (de_var 0)) (xv_e (xe_c de_int)))) (xv_e (xe_var (de_var 1))))))
 (xss_one (xs_ret (xc_p (xe_var (de_var 2)))))))
 xss_nil)
 (xss_cons (xs_setIx (i := 0) (de_var 0) (xc_p (xe_c de_int)) (xc_p (xe_op dop_add ok_add (xv_e (xe_ix (dix_G hr.units) ok_ix (xv_var (de_var 0)) (xv_e (xe_c de_int)))) (xv_e (xe_c de_int)))))
 (xss_cons (xs_if (xct_p (xt_cmp dop_gt ok_gt (xv_e (xe_ix (dix_G hr.units) ok_ix (xv_var (de_var 0)) (xv_e (xe_c de_int)))) (xv_e (xe_callB dc_lenG ok_len (by rfl) z_len (by decide +kernel) (xva_cons (xv_e (xe_ix (dix_G hr.units) ok_ix (xv_var (de_var 0)) (xv_e (xe_c de_int)))) xva_nil)))))
 (xss_cons (xs_setIx (i := 0) (de_var 0) (xc_p (xe_c de_int)) (xc_p (xe_op dop_mod ok_mod (xv_e (xe_callTy dc_int ok_int (by rfl) z_int (by decide +kernel) (xva_cons (xv_e (xe_op dop_add ok_add (xv_e (xe_op dop_mulG ok_mul (xv_e (xe_ix (dix_G hr.units) ok_ix (xv_var (de_var 0)) (xv_e (xe_c de_int)))) (xv_e (xe_c de_int)))) (xv_e (xe_c de_int)))) xva_nil))) (xv_e (xe_c de_int)))))
 (xss_one (xs_ret (xc_p (xe_op dop_mod ok_mod (xv_e (xe_callTy dc_int ok_int (by rfl) z_int (by decide +kernel) (xva_cons (xv_e (xe_op dop_fdiv ok_fdiv (xv_e (xe_ix (dix_G hr.units) ok_ix (xv_var (de_var 0)) (xv_e (xe_c de_int)))) (xv_e (xe_c de_int)))) xva_nil))) (xv_e (xe_var (de_var 1))))))))
 xss_nil)
 (xss_cons (xs_set (ds_set (i := 3) sc__law_taken.nd rfl (Or.inl rfl) (xc_p (xe_ix (dix_G hr.units) ok_ix (xv_e (xe_ix (dix_G hr.units) ok_ix (xv_var (de_var 0)) (xv_e (xe_c de_int)))) (xv_e (xe_op dop_sub ok_sub (xv_e (xe_ix (dix_G hr.units) ok_ix (xv_var (de_var 0)) (xv_e (xe_c de_int)))) (xv_e (xe_c de_int))))))))
 (xss_cons (xs_setIx (i := 0) (de_var 0) (xc_p (xe_c de_int)) (xc_p (xe_op dop_mod ok_mod (xv_e (xe_callTy dc_int ok_int (by rfl) z_int (by decide +kernel) (xva_cons (xv_e (xe_op dop_add ok_add (xv_e (xe_op dop_add ok_add (xv_e (xe_op dop_mulG ok_mul (xv_e (xe_ix (dix_G hr.units) ok_ix (xv_var (de_var 0)) (xv_e (xe_c de_int)))) (xv_e (xe_c de_int)))) (xv_e (xe_var (de_var 3))))) (xv_e (xe_c de_int)))) xva_nil))) (xv_e (xe_c de_int)))))
 (xss_cons (xs_join (I := [(0, (.l true))]) (J := [(0, (.l true))]) (K := []) (xs_if (xct_p (xt_cmp dop_ge ok_ge (xv_e (xe_var (de_var 3))) (xv_e (xe_op dop_pow ok_pow (xv_e (xe_c de_int)) (xv_e (xe_c de_int))))))
 (xss_one (xs_setIx (i := 0) (de_var 0) (xc_p (xe_c de_int)) (xc_p (xe_op dop_fdiv ok_fdiv (xv_e (xe_var (de_var 3))) (xv_e (xe_var (de_var 1)))))))
 xss_nil))
 (xss_one (xs_ret (xc_p (xe_op dop_mod ok_mod (xv_e (xe_callTy dc_int ok_int (by rfl) z_int (by decide +kernel) (xva_cons (xv_e (xe_var (de_var 3))) xva_nil))) (xv_e (xe_var (de_var 1))))))))))))))
  case hm => exact fun vs c => match vs with | [_] => .inr (by kernel_rfl) | [] => .inl rfl | _ :: _ :: _ => .inl rfl
/-! _law_pick -/
abbrev s__law_pick : Stmt := topS 22
abbrev N__law_pick : List Str := ["row", "some"]
theorem sc__law_pick : FnScope N__law_pick ["row", "some"] (defScope s__law_pick) := ⟨rfl, rfl, rfl, by decide +kernel, rfl, by decide +kernel, by decide +kernel⟩
theorem has__law_pick {P : Program} {w : World} {K : PySem.W.Frag} {mg : Str → Option Value} {base : Heap} {C : Str → Addr} (A : At K mg "_law_pick" s__law_pick ["row", "some"]) (D__law_taken : Has P w K mg base 1 "_law_taken" ["row", "many"] (spI C pk__law_taken i__law_taken)) (z_len : mg "len" = none) : Has P w K mg base 2 "_law_pick" ["row", "some"] (spI C pk__law_pick i__law_pick) := by
  refine okI (k := 1) (C := C) A sc__law_pick rfl (by decide) ?hm (fun f cdv A outer s H E hr => (xss_one (xs_ret (xc_ix (dix_G hr.units) ok_ix (xc_p (xe_var (de_var 1))) (xc_hasI (takes_of rfl rfl rfl rfl) D__law_taken (hr.mono (by decide)) (by rfl) (xac_ref (i := 0) (de_var 0) (xac_val (xc_p (xe_callB dc_lenG ok_len (by rfl) z_len (by decide +kernel) (xva_cons (xv_e (xe_var (de_var 1))) xva_nil))) xac_nil)))))))
  case hm => exact fun vs c => match vs with | [_] => .inr (by kernel_rfl) | [] => .inl rfl | _ :: _ :: _ => .inl rfl
/-! _law_alike -/
abbrev s__law_alike : Stmt := topS 23
abbrev N__law_alike : List Str := ["found", "due", "k", "key"]
theorem sc__law_alike : FnScope N__law_alike ["found", "due"] (defScope s__law_alike) := ⟨rfl, rfl, rfl, by decide +kernel, rfl, by decide +kernel, by decide +kernel⟩
theorem has__law_alike {P : Program} {w : World} {K : PySem.W.Frag} {mg : Str → Option Value} {base : Heap} {C : Str → Addr} (A : At K mg "_law_alike" s__law_alike ["found", "due"]) (z_bool : mg "bool" = none) (z_dict : mg "dict" = none) (z_int : mg "int" = none) (z_isinstance : mg "isinstance" = none) (z_len : mg "len" = none) (z_list : mg "list" = none) (z_range : mg "range" = none) (z_str : mg "str" = none) (z_tuple : mg "tuple" = none) : Has P w K mg base 13 "_law_alike" ["found", "due"] (spP C 2 (ap2 (m__law_alike 12))) := by
  have key : ∀ n, Has P w K mg base (1 + n) "_law_alike" ["found", "due"] (spP C 2 (ap2 (m__law_alike n))) := by
    intro n
    induction n with
    | zero => exact okH (k := 0) A sc__law_alike (fun ds S Q E h => h.1) fun f cdv A outer s H E hr => ⟨dNever, dss_never, fun ds S Q E ⟨hl, hp⟩ => by
        match ds, hl with
        | [_, _], _ => exact hp.elim⟩
    | succ n D__law_alike =>
      refine okP (k := 1 + n) (C := C) A sc__law_alike (by decide) ?hm (fun f cdv A outer s H E hr => (xss_cons (xs_if (xct_p (xt_b (xb_callB dc_isi ok_isi (by rfl) z_isinstance (by decide +kernel) (xva_cons (xv_e (xe_var (de_var 1))) (xva_cons (xv_e (xe_tup (lenCons (lenCons lenNil)) (xa_cons (xe_c (de_ty (by rfl) z_tuple boot_tuple)) (xa_cons (xe_c (de_ty (by rfl) z_list boot_list)) xa_nil)))) xva_nil)))))
 (xss_cons (xs_if (xct_p (xw_t (xw_or (xt_not (xt_b (xb_callB dc_isi ok_isi (by rfl) z_isinstance (by decide +kernel) (xva_cons (xv_e (xe_var (de_var 0))) (xva_cons (xv_e (xe_tup (lenCons (lenCons lenNil)) (xa_cons (xe_c (de_ty (by rfl) z_tuple boot_tuple)) (xa_cons (xe_c (de_ty (by rfl) z_list boot_list)) xa_nil)))) xva_nil))))) (xw_or1 (xt_cmp (dop_neG hr.units) ok_ne (xv_e (xe_b (xb_callB dc_isi ok_isi (by rfl) z_isinstance (by decide +kernel) (xva_cons (xv_e (xe_var (de_var 0))) (xva_cons (xv_e (xe_c (de_ty (by rfl) z_list boot_list))) xva_nil))))) (xv_e (xe_b (xb_callB dc_isi ok_isi (by rfl) z_isinstance (by decide +kernel) (xva_cons (xv_e (xe_var (de_var 1))) (xva_cons (xv_e (xe_c (de_ty (by rfl) z_list boot_list))) xva_nil))))))))))
 (xss_one (xs_ret (xc_p (xe_c de_bl))))
 xss_nil)
 (xss_cons (xs_if (xct_p (xt_cmp (dop_neG hr.units) ok_ne (xv_e (xe_callB dc_lenG ok_len (by rfl) z_len (by decide +kernel) (xva_cons (xv_e (xe_var (de_var 0))) xva_nil))) (xv_e (xe_callB dc_lenG ok_len (by rfl) z_len (by decide +kernel) (xva_cons (xv_e (xe_var (de_var 1))) xva_nil)))))
 (xss_one (xs_ret (xc_p (xe_c de_bl))))
 xss_nil)
 (xss_one (xs_ret (xc_p (xe_b (xb_cmp (dop_eqG hr.units) ok_eq (xv_e (xe_lc (gok_name 2) (de_lc rfl sc__law_alike.nd (xi_range1 (by rfl) z_range (xe_callB dc_lenG ok_len (by rfl) z_len (by decide +kernel) (xva_cons (xv_e (xe_var (de_var 1))) xva_nil))) (blkOk_by (own := [("k", 2)]) (N := N__law_alike) (sc := defScope s__law_alike) (by decide +kernel)) (fun _ _ _ _ _ => (dg_name (i := 2) sc__law_alike.nd rfl (Or.inl rfl))) (fun _ _ _ _ _ => (dts_one (xt_not (xt_tru ok_tru (xv_e (xe_has (lenCons (lenCons lenNil)) takes0 D__law_alike hr (by rfl) (xa_cons (xe_ix (dix_G hr.units) ok_ix (xv_e (xe_var (de_var 0))) (xv_e (xe_var (de_var 2)))) (xa_cons (xe_ix (dix_G hr.units) ok_ix (xv_e (xe_var (de_var 1))) (xv_e (xe_var (de_var 2)))) xa_nil)))))))) (fun _ _ _ _ _ => (xe_var (de_var 2))) rfl (by decide)))) (xv_e (xe_lst lenNil xa_nil)))))))))
 xss_nil)
 (xss_cons (xs_if (xct_p (xt_b (xb_callB dc_isi ok_isi (by rfl) z_isinstance (by decide +kernel) (xva_cons (xv_e (xe_var (de_var 1))) (xva_cons (xv_e (xe_c (de_ty (by rfl) z_dict boot_dict))) xva_nil)))))
 (xss_cons (xs_if (xct_p (xw_t (xw_or (xt_not (xt_b (xb_callB dc_isi ok_isi (by rfl) z_isinstance (by decide +kernel) (xva_cons (xv_e (xe_var (de_var 0))) (xva_cons (xv_e (xe_c (de_ty (by rfl) z_dict boot_dict))) xva_nil))))) (xw_or1 (xt_cmp (dop_neG hr.units) ok_ne (xv_e (xe_callTy (dc_listG rfl) ok_list (by rfl) z_list (by decide +kernel) (xva_cons (xv_e (xe_var (de_var 0))) xva_nil))) (xv_e (xe_callTy (dc_listG rfl) ok_list (by rfl) z_list (by decide +kernel) (xva_cons (xv_e (xe_var (de_var 1))) xva_nil))))))))
 (xss_one (xs_ret (xc_p (xe_c de_bl))))
 xss_nil)
 (xss_one (xs_ret (xc_p (xe_b (xb_cmp (dop_eqG hr.units) ok_eq (xv_e (xe_lc (gok_name 3) (de_lc rfl sc__law_alike.nd (xi_any (xe_var (de_var 1))) (blkOk_by (own := [("key", 3)]) (N := N__law_alike) (sc := defScope s__law_alike) (by decide +kernel)) (fun _ _ _ _ _ => (dg_name (i := 3) sc__law_alike.nd rfl (Or.inl rfl))) (fun _ _ _ _ _ => (dts_one (xt_not (xt_tru ok_tru (xv_e (xe_has (lenCons (lenCons lenNil)) takes0 D__law_alike hr (by rfl) (xa_cons (xe_ix (dix_G hr.units) ok_ix (xv_e (xe_var (de_var 0))) (xv_e (xe_var (de_var 3)))) (xa_cons (xe_ix (dix_G hr.units) ok_ix (xv_e (xe_var (de_var 1))) (xv_e (xe_var (de_var 3)))) xa_nil)))))))) (fun _ _ _ _ _ => (xe_var (de_var 3))) rfl (by decide)))) (xv_e (xe_lst lenNil xa_nil))))))))
 xss_nil)
 (xss_cons (xs_if (xct_p (xw_t (xw_or (xt_isN (xv_e (xe_var (de_var 1)))) (xw_or1 (xt_b (xb_callB dc_isi ok_isi (by rfl) z_isinstance (by decide +kernel) (xva_cons (xv_e (xe_var (de_var 1))) (xva_cons (xv_e (xe_c (de_ty (by rfl) z_str boot_str))) xva_nil))))))))
 (xss_one (xs_ret (xc_p (xe_b (xb_and (xb_cmp (dop_eqG hr.units) ok_eq (xv_e (xe_var (de_var 0))) (xv_e (xe_var (de_var 1)))) (xb_one (xb_cmp (dop_eqG hr.units) ok_eq (xv_e (xe_b (xb_callB dc_isi ok_isi (by rfl) z_isinstance (by decide +kernel) (xva_cons (xv_e (xe_var (de_var 0))) (xva_cons (xv_e (xe_c (de_ty (by rfl) z_str boot_str))) xva_nil))))) (xv_e (xe_b (xb_callB dc_isi ok_isi (by rfl) z_isinstance (by decide +kernel) (xva_cons (xv_e (xe_var (de_var 1))) (xva_cons (xv_e (xe_c (de_ty (by rfl) z_str boot_str))) xva_nil))))))))))))
 xss_nil)
 (xss_one (xs_ret (xc_p (xe_b (xb_and (xb_callB dc_isi ok_isi (by rfl) z_isinstance (by decide +kernel) (xva_cons (xv_e (xe_var (de_var 0))) (xva_cons (xv_e (xe_c (de_ty (by rfl) z_int boot_int))) xva_nil))) (xb_and (xb_cmp (dop_eqG hr.units) ok_eq (xv_e (xe_b (xb_callB dc_isi ok_isi (by rfl) z_isinstance (by decide +kernel) (xva_cons (xv_e (xe_var (de_var 0))) (xva_cons (xv_e (xe_c (de_ty (by rfl) z_bool boot_bool))) xva_nil))))) (xv_e (xe_b (xb_callB dc_isi ok_isi (by rfl) z_isinstance (by decide +kernel) (xva_cons (xv_e (xe_var (de_var 1))) (xva_cons (xv_e (xe_c (de_ty (by rfl) z_bool boot_bool))) xva_nil)))))) (xb_one (xb_cmp (dop_eqG hr.units) ok_eq (xv_e (xe_var (de_var 0))) (xv_e (xe_var (de_var 1)))))))))))))))
      case hm => exact fun ds hl => match ds, hl with | [_, _], _ => by kernel_rfl
  exact key 12
/-! _law_octets -/
abbrev s__law_octets : Stmt := topS 24
abbrev N__law_octets : List Str := ["row", "most", "many", "kind", "found", "few", "k"]
theorem sc__law_octets : FnScope N__law_octets ["row", "most"] (defScope s__law_octets) := ⟨rfl, rfl, rfl, by decide +kernel, rfl, by decide +kernel, by decide +kernel⟩
theorem has__law_octets {P : Program} {w : World} {K : PySem.W.Frag} {mg : Str → Option Value} {base : Heap} {C : Str → Addr} (A : At K mg "_law_octets" s__law_octets ["row", "most"]) (D__law_taken : Has P w K mg base 1 "_law_taken" ["row", "many"] (spI C pk__law_taken i__law_taken)) (D__law_pick : Has P w K mg base 2 "_law_pick" ["row", "some"] (spI C pk__law_pick i__law_pick)) (z_len : mg "len" = none) (z_range : mg "range" = none) (z_tuple : mg "tuple" = none) : Has P w K mg base 3 "_law_octets" ["row", "most"] (spI C pk__law_octets i__law_octets) := by
  refine okI (k := 2) (C := C) A sc__law_octets rfl (by decide) ?hm (fun f cdv A outer s H E hr => (xss_cons (xs_par3L (ds_par3 (i := 2) (j := 3) (l := 4) rfl sc__law_octets.nd rfl rfl rfl (by decide) (by decide) (by decide) rfl rfl rfl (da_cons (xc_hasI (takes_of rfl rfl rfl rfl) D__law_taken (hr.mono (by decide)) (by rfl) (xac_ref (i := 0) (de_var 0) (xac_val (xc_p (xe_op dop_add ok_add (xv_e (xe_var (de_var 1))) (xv_e (xe_c de_int)))) xac_nil))) (da_cons (xc_hasI (takes_of rfl rfl rfl rfl) D__law_taken (hr.mono (by decide)) (by rfl) (xac_ref (i := 0) (de_var 0) (xac_val (xc_p (xe_c de_int)) xac_nil))) (da_cons (xf_lst lenNil xa_nil) da_nil)))))
 (xss_cons (xs_setLcC (I := [(0, (.l true))]) (gok_name 6) (by decide) (by decide) (ds_setLc (i := 5) rfl sc__law_octets.nd rfl rfl (sw_true rfl rfl rfl (by decide +kernel)) (xi_range1 (by rfl) z_range (xe_c de_int)) (blkOk_by (own := [("k", 6)]) (N := N__law_octets) (sc := defScope s__law_octets) (by decide +kernel)) (fun _ _ _ _ _ => (dg_name (i := 6) sc__law_octets.nd rfl (Or.inl rfl))) (fun _ _ _ _ _ => (dtsI dts_nil fun _ _ _ _ h => dyes_ok h)) (fun _ _ _ _ _ => (xc_hasI takes0 D__law_taken (hr.mono (by decide)) (by rfl) (xac_ref (i := 0) (de_var 0) (xac_val (xc_p (xe_c de_int)) xac_nil)))) rfl (by decide)))
 (xss_cons (xs_while (I := [(0, (.l true))]) (J := [(0, (.l true)), (4, (.l false))]) (K := []) (passes_of rfl) (xt_cmp dop_lt ok_lt (xv_e (xe_callB dc_lenG ok_len (by rfl) z_len (by decide +kernel) (xva_cons (xv_var (de_var 4)) xva_nil))) (xv_e (xe_var (de_var 2))))
 (xss_one (xs_join (I := [(0, (.l true))]) (J := [(0, (.l true)), (4, (.l false))]) (K := []) (xs_if (xct_p (xt_cmp (dop_eqG hr.units) ok_eq (xv_e (xe_var (de_var 3))) (xv_e (xe_c de_int))))
 (xss_one (xs_app (i := 4) (de_var 4) (xc_hasI (takes_of rfl rfl rfl rfl) D__law_taken (hr.mono (by decide)) (by rfl) (xac_ref (i := 0) (de_var 0) (xac_val (xc_p (xe_c de_int)) xac_nil)))))
 (xss_one (xs_join (I := [(0, (.l true))]) (J := [(0, (.l true)), (4, (.l false))]) (K := []) (xs_if (xct_p (xt_cmp (dop_eqG hr.units) ok_eq (xv_e (xe_var (de_var 3))) (xv_e (xe_c de_int))))
 (xss_one (xs_app (i := 4) (de_var 4) (xc_ix (dix_G hr.units) ok_ix (xc_p (xe_var (de_var 5))) (xc_hasI (takes_of rfl rfl rfl rfl) D__law_taken (hr.mono (by decide)) (by rfl) (xac_ref (i := 0) (de_var 0) (xac_val (xc_p (xe_c de_int)) xac_nil))))))
 (xss_frz 4 (xss_one (xs_setCL (ds_set (i := 4) sc__law_octets.nd rfl (Or.inl rfl) (xcf_add (xca_c (xc_p (xe_var (de_var 4)))) (xca_c (xc_op dop_mulG ok_mul (xc_lst (xac_val (xc_hasI (takes_of rfl rfl rfl rfl) D__law_pick (hr.mono (by decide)) (by rfl) (xac_ref (i := 0) (de_var 0) (xac_val (xc_p (xe_op dop_add ok_add (xv_e (xe_var (de_var 5))) (xv_e (xe_lst (lenCons (lenCons lenNil)) (xa_cons (xe_c de_int) (xa_cons (xe_c de_int) xa_nil)))))) xac_nil))) xac_nil)) (xc_op dop_add ok_add (xc_p (xe_c de_int)) (xc_hasI (takes_of rfl rfl rfl rfl) D__law_taken (hr.mono (by decide)) (by rfl) (xac_ref (i := 0) (de_var 0) (xac_val (xc_p (xe_c de_int)) xac_nil))))))))))))))))))
 (xss_frz 4 (xss_one (xs_ret (xc_p (xe_callTy dc_tuple ok_tuple (by rfl) z_tuple (by decide +kernel) (xva_cons (xv_e (xe_slice ok_sl (xv_e (xe_var (de_var 4))) xo_none (xo_some (xe_var (de_var 2))))) xva_nil))))))))))
  case hm => exact fun vs c => match vs with | [_] => .inr (by kernel_rfl) | [] => .inl rfl | _ :: _ :: _ => .inl rfl
/-! _law_number -/
abbrev s__law_number : Stmt := topS 25
abbrev N__law_number : List Str := ["row", "kind"]
theorem sc__law_number : FnScope N__law_number ["row"] (defScope s__law_number) := ⟨rfl, rfl, rfl, by decide +kernel, rfl, by decide +kernel, by decide +kernel⟩
theorem has__law_number {P : Program} {w : World} {K : PySem.W.Frag} {mg : Str → Option Value} {base : Heap} {C : Str → Addr} (A : At K mg "_law_number" s__law_number ["row"]) (D__law_taken : Has P w K mg base 1 "_law_taken" ["row", "many"] (spI C pk__law_taken i__law_taken)) (D__law_pick : Has P w K mg base 2 "_law_pick" ["row", "some"] (spI C pk__law_pick i__law_pick)) (z_int : mg "int" = none) : Has P w K mg base 3 "_law_number" ["row"] (spI C pk__law_number i__law_number) := by
  refine okI (k := 2) (C := C) A sc__law_number rfl (by decide) ?hm (fun f cdv A outer s H E hr => (xss_cons (xs_set (ds_set (i := 1) sc__law_number.nd rfl (Or.inl rfl) (xc_hasI (takes_of rfl rfl rfl rfl) D__law_taken (hr.mono (by decide)) (by rfl) (xac_ref (i := 0) (de_var 0) (xac_val (xc_p (xe_c de_int)) xac_nil)))))
 (xss_cons (xs_if (xct_p (xt_cmp (dop_eqG hr.units) ok_eq (xv_e (xe_var (de_var 1))) (xv_e (xe_c de_int))))
 (xss_one (xs_ret (xc_hasI (takes_of rfl rfl rfl rfl) D__law_taken (hr.mono (by decide)) (by rfl) (xac_ref (i := 0) (de_var 0) (xac_val (xc_p (xe_c de_int)) xac_nil)))))
 xss_nil)
 (xss_cons (xs_if (xct_p (xt_cmp (dop_eqG hr.units) ok_eq (xv_e (xe_var (de_var 1))) (xv_e (xe_c de_int))))
 (xss_one (xs_ret (xc_op dop_sub ok_sub (xc_hasI (takes_of rfl rfl rfl rfl) D__law_pick (hr.mono (by decide)) (by rfl) (xac_ref (i := 0) (de_var 0) (xac_val (xc_p (xe_lst (lenCons (lenCons (lenCons (lenCons (lenCons (lenCons (lenCons lenNil))))))) (xa_cons (xe_c de_int) (xa_cons (xe_c de_int) (xa_cons (xe_c de_int) (xa_cons (xe_c de_int) (xa_cons (xe_c de_int) (xa_cons (xe_c de_int) (xa_cons (xe_c de_int) xa_nil))))))))) xac_nil))) (xc_hasI (takes_of rfl rfl rfl rfl) D__law_taken (hr.mono (by decide)) (by rfl) (xac_ref (i := 0) (de_var 0) (xac_val (xc_p (xe_c de_int)) xac_nil))))))
 xss_nil)
 (xss_cons (xs_if (xct_p (xt_cmp (dop_eqG hr.units) ok_eq (xv_e (xe_var (de_var 1))) (xv_e (xe_c de_int))))
 (xss_one (xs_ret (xc_op dop_sub ok_sub (xc_p (xe_op dop_pow ok_pow (xv_e (xe_c de_int)) (xv_e (xe_c de_int)))) (xc_hasI (takes_of rfl rfl rfl rfl) D__law_taken (hr.mono (by decide)) (by rfl) (xac_ref (i := 0) (de_var 0) (xac_val (xc_p (xe_c de_int)) xac_nil))))))
 xss_nil)
 (xss_one (xs_ret (xc_op dop_mod ok_mod (xc_callTy dc_int ok_int (by rfl) z_int (by decide +kernel) (xac_val (xc_op dop_add ok_add (xc_op dop_mulG ok_mul (xc_hasI (takes_of rfl rfl rfl rfl) D__law_taken (hr.mono (by decide)) (by rfl) (xac_ref (i := 0) (de_var 0) (xac_val (xc_p (xe_c de_int)) xac_nil))) (xc_p (xe_c de_int))) (xc_hasI (takes_of rfl rfl rfl rfl) D__law_taken (hr.mono (by decide)) (by rfl) (xac_ref (i := 0) (de_var 0) (xac_val (xc_p (xe_c de_int)) xac_nil)))) xac_nil)) (xc_hasI (takes_of rfl rfl rfl rfl) D__law_pick (hr.mono (by decide)) (by rfl) (xac_ref (i := 0) (de_var 0) (xac_val (xc_p (xe_lst (lenCons (lenCons (lenCons (lenCons lenNil)))) (xa_cons (xe_c de_int) (xa_cons (xe_op dop_pow ok_pow (xv_e (xe_c de_int)) (xv_e (xe_c de_int))) (xa_cons (xe_op dop_pow ok_pow (xv_e (xe_c de_int)) (xv_e (xe_c de_int))) (xa_cons (xe_op dop_pow ok_pow (xv_e (xe_c de_int)) (xv_e (xe_c de_int))) xa_nil)))))) xac_nil)))))))))))
  case hm => exact fun vs c => match vs with | [] => .inr (by kernel_rfl) | _ :: _ => .inl rfl
/-! _law_groups -/
abbrev s__law_groups : Stmt := topS 26
abbrev N__law_groups : List Str := ["number", "found", "k"]
theorem sc__law_groups : FnScope N__law_groups ["number"] (defScope s__law_groups) := ⟨rfl, rfl, rfl, by decide +kernel, rfl, by decide +kernel, by decide +kernel⟩
theorem has__law_groups {P : Program} {w : World} {K : PySem.W.Frag} {mg : Str → Option Value} {base : Heap} {C : Str → Addr} (A : At K mg "_law_groups" s__law_groups ["number"]) (z_int : mg "int" = none) (z_range : mg "range" = none) : Has P w K mg base 1 "_law_groups" ["number"] (spP C 1 (ap1 (m__law_groups))) := by
  refine okP (k := 0) (C := C) A sc__law_groups (by decide) ?hm (fun f cdv A outer s H E hr => (xss_cons (xs_setL (ds_set (i := 1) sc__law_groups.nd rfl (Or.inl rfl) (xf_lst (lenCons lenNil) (xa_cons (xe_op dop_mod ok_mod (xv_e (xe_callTy dc_int ok_int (by rfl) z_int (by decide +kernel) (xva_cons (xv_e (xe_var (de_var 0))) xva_nil))) (xv_e (xe_c de_int))) xa_nil))))
 (xss_cons (xs_set (ds_set (i := 0) sc__law_groups.nd rfl (Or.inl rfl) (xc_p (xe_op dop_fdiv ok_fdiv (xv_e (xe_var (de_var 0))) (xv_e (xe_c de_int))))))
 (xss_cons (xs_for (I := []) (J := [(0, .d), (1, (.l false))]) (K := [2]) (passes_of rfl) rfl (xi_range1 (by rfl) z_range (xe_c de_int)) (dg_name (i := 2) sc__law_groups.nd rfl (Or.inl rfl)) (gok_name 2)
 (xss_one (xs_join (I := []) (J := [(0, .d), (1, (.l false))]) (K := []) (xs_if (xct_p (xt_cmp dop_gt ok_gt (xv_e (xe_var (de_var 0))) (xv_e (xe_c de_int))))
 (xss_cons (xs_setIx (i := 1) (de_var 1) (xc_p (xe_var (de_var 2))) (xc_p (xe_op dop_add ok_add (xv_e (xe_ix (dix_G hr.units) ok_ix (xv_var (de_var 1)) (xv_e (xe_var (de_var 2))))) (xv_e (xe_c de_int)))))
 (xss_cons (xs_app (i := 1) (de_var 1) (xc_p (xe_op dop_mod ok_mod (xv_e (xe_callTy dc_int ok_int (by rfl) z_int (by decide +kernel) (xva_cons (xv_e (xe_var (de_var 0))) xva_nil))) (xv_e (xe_c de_int)))))
 (xss_one (xs_set (ds_set (i := 0) sc__law_groups.nd rfl (Or.inl rfl) (xc_p (xe_op dop_fdiv ok_fdiv (xv_e (xe_var (de_var 0))) (xv_e (xe_c de_int)))))))))
 xss_nil))))
 (xss_frz 1 (xss_one (xs_ret (xc_p (xe_var (de_var 1))))))))))
  case hm => exact fun ds hl => match ds, hl with | [_], _ => by kernel_rfl
theorem hasF__law_groups {P : Program} {w : World} {K : PySem.W.Frag} {mg : Str → Option Value} {base : Heap} {C : Str → Addr} (A : At K mg "_law_groups" s__law_groups ["number"]) (z_int : mg "int" = none) (z_range : mg "range" = none) : Has P w K mg base 1 "_law_groups" ["number"] (spF C 1 (ap1 (m__law_groups))) := by
  refine okF (k := 0) (C := C) A sc__law_groups (by decide) ?hm (fun f cdv A outer s H E hr => (xss_cons (xs_setL (ds_set (i := 1) sc__law_groups.nd rfl (Or.inl rfl) (xf_lst (lenCons lenNil) (xa_cons (xe_op dop_mod ok_mod (xv_e (xe_callTy dc_int ok_int (by rfl) z_int (by decide +kernel) (xva_cons (xv_e (xe_var (de_var 0))) xva_nil))) (xv_e (xe_c de_int))) xa_nil))))
 (xss_cons (xs_set (ds_set (i := 0) sc__law_groups.nd rfl (Or.inl rfl) (xc_p (xe_op dop_fdiv ok_fdiv (xv_e (xe_var (de_var 0))) (xv_e (xe_c de_int))))))
 (xss_cons (xs_for (I := []) (J := [(0, .d), (1, (.l false))]) (K := [2]) (passes_of rfl) rfl (xi_range1 (by rfl) z_range (xe_c de_int)) (dg_name (i := 2) sc__law_groups.nd rfl (Or.inl rfl)) (gok_name 2)
 (xss_one (xs_join (I := []) (J := [(0, .d), (1, (.l false))]) (K := []) (xs_if (xct_p (xt_cmp dop_gt ok_gt (xv_e (xe_var (de_var 0))) (xv_e (xe_c de_int))))
 (xss_cons (xs_setIx (i := 1) (de_var 1) (xc_p (xe_var (de_var 2))) (xc_p (xe_op dop_add ok_add (xv_e (xe_ix (dix_G hr.units) ok_ix (xv_var (de_var 1)) (xv_e (xe_var (de_var 2))))) (xv_e (xe_c de_int)))))
 (xss_cons (xs_app (i := 1) (de_var 1) (xc_p (xe_op dop_mod ok_mod (xv_e (xe_callTy dc_int ok_int (by rfl) z_int (by decide +kernel) (xva_cons (xv_e (xe_var (de_var 0))) xva_nil))) (xv_e (xe_c de_int)))))
 (xss_one (xs_set (ds_set (i := 0) sc__law_groups.nd rfl (Or.inl rfl) (xc_p (xe_op dop_fdiv ok_fdiv (xv_e (xe_var (de_var 0))) (xv_e (xe_c de_int)))))))))
 xss_nil))))
 (xss_one (xs_retL (de_var 1)))))))
  case hm => exact fun ds hl => match ds, hl with | [_], _ => by kernel_rfl
/-! _law_number_at -/
abbrev s__law_number_at : Stmt := topS 27
abbrev N__law_number_at : List Str := ["octets", "at", "total", "worth", "place"]
theorem sc__law_number_at : FnScope N__law_number_at ["octets", "at"] (defScope s__law_number_at) := ⟨rfl, rfl, rfl, by decide +kernel, rfl, by decide +kernel, by decide +kernel⟩
theorem has__law_number_at {P : Program} {w : World} {K : PySem.W.Frag} {mg : Str → Option Value} {base : Heap} {C : Str → Addr} (A : At K mg "_law_number_at" s__law_number_at ["octets", "at"]) (z_len : mg "len" = none) (z_range : mg "range" = none) : Has P w K mg base 1 "_law_number_at" ["octets", "at"] (spP C 2 (ap2 (m__law_number_at))) := by
  refine okP (k := 0) (C := C) A sc__law_number_at (by decide) ?hm (fun f cdv A outer s H E hr => (xss_cons (xs_asg (gok2 (gok_name 2) (gok_name 3)) (ds_asg (xc_p (xe_tup (lenCons (lenCons lenNil)) (xa_cons (xe_c de_int) (xa_cons (xe_c de_int) xa_nil)))) (dg_tupG rfl (dgs_cons (dg_name (i := 2) sc__law_number_at.nd rfl (Or.inl rfl)) (dgs_cons (dg_name (i := 3) sc__law_number_at.nd rfl (Or.inl rfl)) dgs_nil)))))
 (xss_cons (xs_for (I := []) (J := [(2, .d), (3, .d)]) (K := [4]) (passes_of rfl) rfl (xi_range2 (by rfl) z_range (xe_var (de_var 1)) (xe_callB dc_lenG ok_len (by rfl) z_len (by decide +kernel) (xva_cons (xv_e (xe_var (de_var 0))) xva_nil))) (dg_name (i := 4) sc__law_number_at.nd rfl (Or.inl rfl)) (gok_name 4)
 (xss_cons (xs_if (xct_p (xt_cmp dop_ge ok_ge (xv_e (xe_ix (dix_G hr.units) ok_ix (xv_e (xe_var (de_var 0))) (xv_e (xe_var (de_var 4))))) (xv_e (xe_c de_int))))
 (xss_cons (xs_par (ds_par (i := 2) (j := 3) rfl sc__law_number_at.nd rfl rfl (by decide) rfl rfl (da_cons (xc_p (xe_op dop_add ok_add (xv_e (xe_var (de_var 2))) (xv_e (xe_op dop_mulG ok_mul (xv_e (xe_op dop_sub ok_sub (xv_e (xe_ix (dix_G hr.units) ok_ix (xv_e (xe_var (de_var 0))) (xv_e (xe_var (de_var 4))))) (xv_e (xe_c de_int)))) (xv_e (xe_var (de_var 3))))))) (da_cons (xc_p (xe_op dop_mulG ok_mul (xv_e (xe_var (de_var 3))) (xv_e (xe_c de_int)))) da_nil))))
 (xss_one xs_continue))
 xss_nil)
 (xss_cons (xs_set (ds_set (i := 2) sc__law_number_at.nd rfl (Or.inl rfl) (xc_p (xe_op dop_add ok_add (xv_e (xe_var (de_var 2))) (xv_e (xe_op dop_mulG ok_mul (xv_e (xe_ix (dix_G hr.units) ok_ix (xv_e (xe_var (de_var 0))) (xv_e (xe_var (de_var 4))))) (xv_e (xe_var (de_var 3)))))))))
 (xss_cons (xs_if (xct_p (xw_t (xw_or (xt_cmp dop_gt ok_gt (xv_e (xe_var (de_var 2))) (xv_e (xe_op dop_pow ok_pow (xv_e (xe_c de_int)) (xv_e (xe_c de_int))))) (xw_or1 (xw_t (xw_and (xt_cmp (dop_eqG hr.units) ok_eq (xv_e (xe_ix (dix_G hr.units) ok_ix (xv_e (xe_var (de_var 0))) (xv_e (xe_var (de_var 4))))) (xv_e (xe_c de_int))) (xw_and1 (xt_cmp dop_gt ok_gt (xv_e (xe_var (de_var 4))) (xv_e (xe_var (de_var 1)))))))))))
 (xss_one (xs_ret (xc_p (xe_c de_non))))
 xss_nil)
 (xss_one (xs_ret (xc_p (xe_tup (lenCons (lenCons lenNil)) (xa_cons (xe_var (de_var 2)) (xa_cons (xe_op dop_add ok_add (xv_e (xe_var (de_var 4))) (xv_e (xe_c de_int))) xa_nil))))))))))
 (xss_one (xs_ret (xc_p (xe_c de_non)))))))
  case hm => exact fun ds hl => match ds, hl with | [_, _], _ => by kernel_rfl
/-! _law_row_at -/
abbrev s__law_row_at : Stmt := topS 28
abbrev N__law_row_at : List Str := ["octets", "at", "found"]
theorem sc__law_row_at : FnScope N__law_row_at ["octets", "at"] (defScope s__law_row_at) := ⟨rfl, rfl, rfl, by decide +kernel, rfl, by decide +kernel, by decide +kernel⟩
theorem has__law_row_at {P : Program} {w : World} {K : PySem.W.Frag} {mg : Str → Option Value} {base : Heap} {C : Str → Addr} (A : At K mg "_law_row_at" s__law_row_at ["octets", "at"]) (D__law_number_at : Has P w K mg base 1 "_law_number_at" ["octets", "at"] (spP C 2 (ap2 (m__law_number_at)))) (z_len : mg "len" = none) (z_tuple : mg "tuple" = none) : Has P w K mg base 2 "_law_row_at" ["octets", "at"] (spP C 2 (ap2 (m__law_row_at))) := by
  refine okP (k := 1) (C := C) A sc__law_row_at (by decide) ?hm (fun f cdv A outer s H E hr => (xss_cons (xs_set (ds_set (i := 2) sc__law_row_at.nd rfl (Or.inl rfl) (xc_p (xe_has (lenCons (lenCons lenNil)) (takes_of rfl rfl rfl rfl) D__law_number_at (hr.mono (by decide)) (by rfl) (xa_cons (xe_var (de_var 0)) (xa_cons (xe_var (de_var 1)) xa_nil))))))
 (xss_cons (xs_if (xct_p (xw_t (xw_or (xt_isN (xv_e (xe_var (de_var 2)))) (xw_or1 (xt_cmp dop_gt ok_gt (xv_e (xe_op dop_add ok_add (xv_e (xe_ix (dix_G hr.units) ok_ix (xv_e (xe_var (de_var 2))) (xv_e (xe_c de_int)))) (xv_e (xe_ix (dix_G hr.units) ok_ix (xv_e (xe_var (de_var 2))) (xv_e (xe_c de_int)))))) (xv_e (xe_callB dc_lenG ok_len (by rfl) z_len (by decide +kernel) (xva_cons (xv_e (xe_var (de_var 0))) xva_nil))))))))
 (xss_one (xs_ret (xc_p (xe_c de_non))))
 xss_nil)
 (xss_one (xs_ret (xc_p (xe_tup (lenCons (lenCons lenNil)) (xa_cons (xe_callTy dc_tuple ok_tuple (by rfl) z_tuple (by decide +kernel) (xva_cons (xv_e (xe_slice ok_sl (xv_e (xe_var (de_var 0))) (xo_some (xe_ix (dix_G hr.units) ok_ix (xv_e (xe_var (de_var 2))) (xv_e (xe_c de_int)))) (xo_some (xe_op dop_add ok_add (xv_e (xe_ix (dix_G hr.units) ok_ix (xv_e (xe_var (de_var 2))) (xv_e (xe_c de_int)))) (xv_e (xe_ix (dix_G hr.units) ok_ix (xv_e (xe_var (de_var 2))) (xv_e (xe_c de_int)))))))) xva_nil)) (xa_cons (xe_op dop_add ok_add (xv_e (xe_ix (dix_G hr.units) ok_ix (xv_e (xe_var (de_var 2))) (xv_e (xe_c de_int)))) (xv_e (xe_ix (dix_G hr.units) ok_ix (xv_e (xe_var (de_var 2))) (xv_e (xe_c de_int))))) xa_nil)))))))))
  case hm => exact fun ds hl => match ds, hl with | [_, _], _ => by kernel_rfl
/-! _law_text_at -/
abbrev s__law_text_at : Stmt := topS 29
abbrev N__law_text_at : List Str := ["octets", "at", "found", "signs", "code"]
theorem sc__law_text_at : FnScope N__law_text_at ["octets", "at"] (defScope s__law_text_at) := ⟨rfl, rfl, rfl, by decide +kernel, rfl, by decide +kernel, by decide +kernel⟩
theorem has__law_text_at {P : Program} {w : World} {K : PySem.W.Frag} {mg : Str → Option Value} {base : Heap} {C : Str → Addr} (A : At K mg "_law_text_at" s__law_text_at ["octets", "at"]) (D__law_row_at : Has P w K mg base 2 "_law_row_at" ["octets", "at"] (spP C 2 (ap2 (m__law_row_at)))) (z_int : mg "int" = none) : Has P w K mg base 3 "_law_text_at" ["octets", "at"] (spP C 2 (ap2 (m__law_text_at))) := by
  refine okP (k := 2) (C := C) A sc__law_text_at (by decide) ?hm (fun f cdv A outer s H E hr => (xss_cons (xs_set (ds_set (i := 2) sc__law_text_at.nd rfl (Or.inl rfl) (xc_p (xe_has (lenCons (lenCons lenNil)) (takes_of rfl rfl rfl rfl) D__law_row_at (hr.mono (by decide)) (by rfl) (xa_cons (xe_var (de_var 0)) (xa_cons (xe_var (de_var 1)) xa_nil))))))
 (xss_cons (xs_if (xct_p (xw_t (xw_or (xt_isN (xv_e (xe_var (de_var 2)))) (xw_or1 (xt_cmp (dop_neG hr.units) ok_ne (xv_e (xe_lc (gok_name 4) (de_lc rfl sc__law_text_at.nd (xi_any (xe_ix (dix_G hr.units) ok_ix (xv_e (xe_var (de_var 2))) (xv_e (xe_c de_int)))) (blkOk_by (own := [("code", 4)]) (N := N__law_text_at) (sc := defScope s__law_text_at) (by decide +kernel)) (fun _ _ _ _ _ => (dg_name (i := 4) sc__law_text_at.nd rfl (Or.inl rfl))) (fun _ _ _ _ _ => (dts_one (xw_t (xw_or (xt_cmp dop_lt ok_lt (xv_e (xe_var (de_var 4))) (xv_e (xe_c de_int))) (xw_or (xt_cmp dop_gt ok_gt (xv_e (xe_var (de_var 4))) (xv_e (xe_c de_int))) (xw_or1 (xt_cmp (dop_eqG hr.units) ok_eq (xv_e (xe_var (de_var 4))) (xv_e (xe_c de_int))))))))) (fun _ _ _ _ _ => (xe_var (de_var 4))) rfl (by decide)))) (xv_e (xe_lst lenNil xa_nil)))))))
 (xss_one (xs_ret (xc_p (xe_c de_non))))
 xss_nil)
 (xss_cons (xs_set (ds_set (i := 3) sc__law_text_at.nd rfl (Or.inr rfl) (xc_p (xe_c de_str))))
 (xss_one (xs_ret (xc_p (xe_tup (lenCons (lenCons lenNil)) (xa_cons (xe_join (xv_e (xe_c de_str)) (xv_e (xe_lcM (gok_name 4) (de_lc rfl sc__law_text_at.nd (xi_any (xe_ix (dix_G hr.units) ok_ix (xv_e (xe_var (de_var 2))) (xv_e (xe_c de_int)))) (blkOk_by (own := [("code", 4)]) (N := N__law_text_at) (sc := defScope s__law_text_at) (by decide +kernel)) (fun _ _ _ _ _ => (dg_name (i := 4) sc__law_text_at.nd rfl (Or.inl rfl))) (fun _ _ _ _ _ => dts_nil) (fun _ _ _ _ _ => (xe_ix (dix_G hr.units) ok_ix (xv_e (xe_var (de_var 3))) (xv_e (xe_op dop_sub ok_sub (xv_e (xe_op dop_sub ok_sub (xv_e (xe_var (de_var 4))) (xv_e (xe_c de_int)))) (xv_e (xe_callTy dc_int ok_int (by rfl) z_int (by decide +kernel) (xva_cons (xv_e (xe_b (xb_cmp dop_gt ok_gt (xv_e (xe_var (de_var 4))) (xv_e (xe_c de_int))))) xva_nil))))))) rfl (by decide))))) (xa_cons (xe_ix (dix_G hr.units) ok_ix (xv_e (xe_var (de_var 2))) (xv_e (xe_c de_int))) xa_nil))))))))))
  case hm => exact fun ds hl => match ds, hl with | [_, _], _ => by kernel_rfl
/-! _law_bits -/
abbrev s__law_bits : Stmt := topS 30
abbrev N__law_bits : List Str := ["row", "kind", "codes", "some", "k"]
theorem sc__law_bits : FnScope N__law_bits ["row"] (defScope s__law_bits) := ⟨rfl, rfl, rfl, by decide +kernel, rfl, by decide +kernel, by decide +kernel⟩
theorem has__law_bits {P : Program} {w : World} {K : PySem.W.Frag} {mg : Str → Option Value} {base : Heap} {C : Str → Addr} (A : At K mg "_law_bits" s__law_bits ["row"]) (D__law_taken : Has P w K mg base 1 "_law_taken" ["row", "many"] (spI C pk__law_taken i__law_taken)) (D__law_octets : Has P w K mg base 3 "_law_octets" ["row", "most"] (spI C pk__law_octets i__law_octets)) (D__law_number : Has P w K mg base 3 "_law_number" ["row"] (spI C pk__law_number i__law_number)) (D__law_groups : Has P w K mg base 1 "_law_groups" ["number"] (spP C 1 (ap1 (m__law_groups)))) (D__law_pick : Has P w K mg base 2 "_law_pick" ["row", "some"] (spI C pk__law_pick i__law_pick)) (DF__law_groups : Has P w K mg base 1 "_law_groups" ["number"] (spF C 1 (ap1 (m__law_groups)))) (z_len : mg "len" = none) (z_list : mg "list" = none) (z_range : mg "range" = none) : Has P w K mg base 4 "_law_bits" ["row"] (spI C pk__law_bits i__law_bits) := by
  refine okI (k := 3) (C := C) A sc__law_bits rfl (by decide) ?hm (fun f cdv A outer s H E hr => (xss_cons (xs_set (ds_set (i := 1) sc__law_bits.nd rfl (Or.inl rfl) (xc_hasI (takes_of rfl rfl rfl rfl) D__law_taken (hr.mono (by decide)) (by rfl) (xac_ref (i := 0) (de_var 0) (xac_val (xc_p (xe_c de_int)) xac_nil)))))
 (xss_cons (xs_if (xct_p (xt_cmp (dop_eqG hr.units) ok_eq (xv_e (xe_var (de_var 1))) (xv_e (xe_c de_int))))
 (xss_one (xs_ret (xc_callTy (dc_listG rfl) ok_list (by rfl) z_list (by decide +kernel) (xac_val (xc_hasI (takes_of rfl rfl rfl rfl) D__law_octets (hr.mono (by decide)) (by rfl) (xac_ref (i := 0) (de_var 0) (xac_val (xc_p (xe_c de_int)) xac_nil))) xac_nil))))
 xss_nil)
 (xss_cons (xs_if (xct_p (xt_cmp (dop_eqG hr.units) ok_eq (xv_e (xe_var (de_var 1))) (xv_e (xe_c de_int))))
 (xss_one (xs_ret (xc_op dop_add ok_add (xc_slA ok_sl (xca_c (xc_has ar1 (takes_of rfl rfl rfl rfl) D__law_groups (hr.mono (by decide)) (by rfl) (xac_val (xc_hasI (takes_of rfl rfl rfl rfl) D__law_number (hr.mono (by decide)) (by rfl) (xac_ref (i := 0) (de_var 0) xac_nil)) xac_nil))) xco_none (xco_some (xc_p (xe_neg ok_neg (xe_c de_int))))) (xc_lst (xac_val (xc_hasI (takes_of rfl rfl rfl rfl) D__law_pick (hr.mono (by decide)) (by rfl) (xac_ref (i := 0) (de_var 0) (xac_val (xc_p (xe_lst (lenCons (lenCons (lenCons (lenCons (lenCons lenNil))))) (xa_cons (xe_c de_int) (xa_cons (xe_c de_int) (xa_cons (xe_c de_int) (xa_cons (xe_c de_int) (xa_cons (xe_c de_int) xa_nil))))))) xac_nil))) (xac_val (xc_p (xe_c de_int)) (xac_val (xc_p (xe_c de_int)) xac_nil)))))))
 xss_nil)
 (xss_cons (xs_if (xct_p (xt_cmp (dop_eqG hr.units) ok_eq (xv_e (xe_var (de_var 1))) (xv_e (xe_c de_int))))
 (xss_one (xs_ret (xc_op dop_add ok_add (xc_lcI (I := [(0, (.l true))]) (gok_name 4) (by decide) (by decide) (de_lc rfl sc__law_bits.nd (xic_range1 (by rfl) z_range (xc_op dop_add ok_add (xc_p (xe_c de_int)) (xc_hasI (takes_of rfl rfl rfl rfl) D__law_taken (hr.mono (by decide)) (by rfl) (xac_ref (i := 0) (de_var 0) (xac_val (xc_p (xe_c de_int)) xac_nil))))) (blkOk_by (own := [("k", 4)]) (N := N__law_bits) (sc := defScope s__law_bits) (by decide +kernel)) (fun _ _ _ _ _ => (dg_name (i := 4) sc__law_bits.nd rfl (Or.inl rfl))) (fun _ _ _ _ _ => (dtsI dts_nil fun _ _ _ _ h => dyes_ok h)) (fun _ _ _ _ _ => (xc_op dop_add ok_add (xc_p (xe_c de_int)) (xc_hasI takes0 D__law_taken (hr.mono (by decide)) (by rfl) (xac_ref (i := 0) (de_var 0) (xac_val (xc_p (xe_c de_int)) xac_nil))))) rfl (by decide))) (xc_lst (xac_val (xc_hasI (takes_of rfl rfl rfl rfl) D__law_taken (hr.mono (by decide)) (by rfl) (xac_ref (i := 0) (de_var 0) (xac_val (xc_p (xe_c de_int)) xac_nil))) (xac_val (xc_p (xe_c de_int)) xac_nil))))))
 xss_nil)
 (xss_cons (xs_setLcI (I := [(0, (.l true))]) (gok_name 4) (by decide) (by decide) (ds_setLc (i := 2) rfl sc__law_bits.nd rfl rfl (sw_true rfl rfl rfl (by decide +kernel)) (xic_range1 (by rfl) z_range (xc_hasI (takes_of rfl rfl rfl rfl) D__law_taken (hr.mono (by decide)) (by rfl) (xac_ref (i := 0) (de_var 0) (xac_val (xc_p (xe_c de_int)) xac_nil)))) (blkOk_by (own := [("k", 4)]) (N := N__law_bits) (sc := defScope s__law_bits) (by decide +kernel)) (fun _ _ _ _ _ => (dg_name (i := 4) sc__law_bits.nd rfl (Or.inl rfl))) (fun _ _ _ _ _ => (dtsI dts_nil fun _ _ _ _ h => dyes_ok h)) (fun _ _ _ _ _ => (xc_hasI takes0 D__law_pick (hr.mono (by decide)) (by rfl) (xac_ref (i := 0) (de_var 0) (xac_val (xc_p (xe_lst (lenCons (lenCons (lenCons (lenCons (lenCons (lenCons (lenCons (lenCons (lenCons (lenCons (lenCons (lenCons lenNil)))))))))))) (xa_cons (xe_c de_int) (xa_cons (xe_c de_int) (xa_cons (xe_c de_int) (xa_cons (xe_c de_int) (xa_cons (xe_c de_int) (xa_cons (xe_c de_int) (xa_cons (xe_c de_int) (xa_cons (xe_c de_int) (xa_cons (xe_c de_int) (xa_cons (xe_c de_int) (xa_cons (xe_c de_int) (xa_cons (xe_c de_int) xa_nil)))))))))))))) xac_nil)))) rfl (by decide)))
 (xss_cons (xs_setCL (ds_set (i := 3) sc__law_bits.nd rfl (Or.inl rfl) (xcf_ifE (xct_p (xt_cmp (dop_eqG hr.units) ok_eq (xv_e (xe_var (de_var 1))) (xv_e (xe_c de_int)))) (xcf_has ar1 (takes_of rfl rfl rfl rfl) DF__law_groups (hr.mono (by decide)) (by rfl) (xac_val (xc_hasI (takes_of rfl rfl rfl rfl) D__law_number (hr.mono (by decide)) (by rfl) (xac_ref (i := 0) (de_var 0) xac_nil)) xac_nil)) (xcf_p (xf_add (xv_e (xe_has (lenCons lenNil) (takes_of rfl rfl rfl rfl) D__law_groups (hr.mono (by decide)) (by rfl) (xa_cons (xe_callB dc_lenG ok_len (by rfl) z_len (by decide +kernel) (xva_cons (xv_e (xe_var (de_var 2))) xva_nil)) xa_nil))) (xv_e (xe_var (de_var 2))))))))
 (xss_cons (xs_join (I := [(0, (.l true))]) (J := [(0, (.l true)), (3, (.l false))]) (K := []) (xs_if (xct_p (xt_cmp (dop_eqG hr.units) ok_eq (xv_e (xe_var (de_var 1))) (xv_e (xe_c de_int))))
 (xss_one (xs_setCL (ds_set (i := 3) sc__law_bits.nd rfl (Or.inl rfl) (xcf_add (xca_c (xc_has ar1 (takes_of rfl rfl rfl rfl) D__law_groups (hr.mono (by decide)) (by rfl) (xac_val (xc_op dop_add ok_add (xc_p (xe_callB dc_lenG ok_len (by rfl) z_len (by decide +kernel) (xva_cons (xv_e (xe_var (de_var 2))) xva_nil))) (xc_hasI (takes_of rfl rfl rfl rfl) D__law_taken (hr.mono (by decide)) (by rfl) (xac_ref (i := 0) (de_var 0) (xac_val (xc_p (xe_c de_int)) xac_nil)))) xac_nil))) (xca_c (xc_p (xe_var (de_var 2))))))))
 xss_nil))
 (xss_cons (xs_join (I := [(0, (.l true))]) (J := [(0, (.l true)), (3, .d)]) (K := []) (xs_if (xct_p (xw_t (xw_and (xt_cmp (dop_eqG hr.units) ok_eq (xv_e (xe_var (de_var 1))) (xv_e (xe_c de_int))) (xw_and1 (xt_cmp (dop_neG hr.units) ok_ne (xv_var (de_var 3)) (xv_e (xe_lst lenNil xa_nil)))))))
 (xss_cons (xs_setIx (i := 3) (de_var 3) (xc_hasI (takes_of rfl rfl rfl rfl) D__law_taken (hr.mono (by decide)) (by rfl) (xac_ref (i := 0) (de_var 0) (xac_val (xc_p (xe_callB dc_lenG ok_len (by rfl) z_len (by decide +kernel) (xva_cons (xv_var (de_var 3)) xva_nil))) xac_nil))) (xc_hasI (takes_of rfl rfl rfl rfl) D__law_taken (hr.mono (by decide)) (by rfl) (xac_ref (i := 0) (de_var 0) (xac_val (xc_p (xe_c de_int)) xac_nil))))
 (xss_frz 3 xss_nil))
 (xss_frz 3 xss_nil)))
 (xss_one (xs_ret (xc_op dop_add ok_add (xc_op dop_add ok_add (xc_callTy (dc_listG rfl) ok_list (by rfl) z_list (by decide +kernel) (xac_val (xc_hasI (takes_of rfl rfl rfl rfl) D__law_octets (hr.mono (by decide)) (by rfl) (xac_ref (i := 0) (de_var 0) (xac_val (xc_p (xe_c de_int)) xac_nil))) xac_nil)) (xc_p (xe_var (de_var 3)))) (xc_callTy (dc_listG rfl) ok_list (by rfl) z_list (by decide +kernel) (xac_val (xc_hasI (takes_of rfl rfl rfl rfl) D__law_octets (hr.mono (by decide)) (by rfl) (xac_ref (i := 0) (de_var 0) (xac_val (xc_p (xe_c de_int)) xac_nil))) xac_nil))))))))))))))
  case hm => exact fun vs c => match vs with | [] => .inr (by kernel_rfl) | _ :: _ => .inl rfl
/-! _law_refused -/
abbrev s__law_refused : Stmt := topS 31
abbrev N__law_refused : List Str := ["ask", "e"]
theorem sc__law_refused : FnScope N__law_refused ["ask"] (defScope s__law_refused) := ⟨rfl, rfl, rfl, by decide +kernel, rfl, by decide +kernel, by decide +kernel⟩
/-! law -/
abbrev s_law : Stmt := topS 32
abbrev N_law : List Str := ["script", "row", "turn", "octets", "handed", "kept", "at", "dues", "k", "read", "found", "odd"]
theorem sc_law : FnScope N_law ["script"] (defScope s_law) := ⟨rfl, rfl, rfl, by decide +kernel, rfl, by decide +kernel, by decide +kernel⟩
theorem tl_2 {P : Program} {w : World} {K : PySem.W.Frag} {mg : Str → Option Value} {base : Heap} {C : Str → Addr} {f c Pt : Addr} (TB : LamX.TabB base mg c Pt) (D__law_bits : Has P w K mg base 4 "_law_bits" ["row"] (spI C pk__law_bits i__law_bits)) (D__law_pick : Has P w K mg base 2 "_law_pick" ["row", "some"] (spI C pk__law_pick i__law_pick)) (D__law_taken : Has P w K mg base 1 "_law_taken" ["row", "many"] (spI C pk__law_taken i__law_taken)) (D__law_number_at : Has P w K mg base 1 "_law_number_at" ["octets", "at"] (spP C 2 (ap2 (m__law_number_at)))) (D__law_row_at : Has P w K mg base 2 "_law_row_at" ["octets", "at"] (spP C 2 (ap2 (m__law_row_at)))) (D__law_text_at : Has P w K mg base 3 "_law_text_at" ["octets", "at"] (spP C 2 (ap2 (m__law_text_at)))) (D_read_number : Has P w K mg base 5 "read_number" ["octets", "at"] (spP C 2 (ap2 (m_read_number)))) (D_read_row : Has P w K mg base 5 "read_row" ["octets", "at"] (spP C 2 (ap2 (m_read_row)))) (D_read_text : Has P w K mg base 6 "read_text" ["octets", "at"] (spP C 2 (ap2 (m_read_text)))) (D__law_alike : Has P w K mg base 13 "_law_alike" ["found", "due"] (spP C 2 (ap2 (m__law_alike 12)))) (z_enumerate : mg "enumerate" = none) (z_len : mg "len" = none) (z_list : mg "list" = none) (z_range : mg "range" = none) (z_repr : mg "repr" = none) (z_tuple : mg "tuple" = none) (hNs : NsOk K mg) (FN_read_number : FnC K "read_number") (FN_read_row : FnC K "read_row") (FN_read_text : FnC K "read_text") (A__law_refused : At K mg "_law_refused" s__law_refused ["ask"]) (ET : ErrT K mg C T_errs U_errs) : ∃ s : MS, (∀ (v_script : D) (v_row : List D), m_law_2 v_script v_row = s _ zTop [(.v v_script), (.l false v_row), .un, .un, .un, .un, .un, .un, .un, .un, .un, .un]) ∧ ∀ (s0 : Shared) (H : Hp) (E : XK), Room 13 (callerA.deeper (envOfC "law" (defScope s_law) s0.heap.objs.size f (.ref c))) →
      XSs C (axL Pt) (cxOf (L2.CX P w) P w K mg base N_law "law" (defScope s_law) f (.ref c) callerA [] s0 H E) (fun cls d _ H' => E cls d H') ((defBody s_law).drop 2) s := by
  refine ⟨_, ?hm, fun s0 H E hr => (xss_one (xs_ret (xc_p (xe_c de_bl))))⟩
  case hm =>
    intro v_script v_row
    delta m_law_2
    kernel_rfl
theorem tl_1 {P : Program} {w : World} {K : PySem.W.Frag} {mg : Str → Option Value} {base : Heap} {C : Str → Addr} {f c Pt : Addr} (TB : LamX.TabB base mg c Pt) (D__law_bits : Has P w K mg base 4 "_law_bits" ["row"] (spI C pk__law_bits i__law_bits)) (D__law_pick : Has P w K mg base 2 "_law_pick" ["row", "some"] (spI C pk__law_pick i__law_pick)) (D__law_taken : Has P w K mg base 1 "_law_taken" ["row", "many"] (spI C pk__law_taken i__law_taken)) (D__law_number_at : Has P w K mg base 1 "_law_number_at" ["octets", "at"] (spP C 2 (ap2 (m__law_number_at)))) (D__law_row_at : Has P w K mg base 2 "_law_row_at" ["octets", "at"] (spP C 2 (ap2 (m__law_row_at)))) (D__law_text_at : Has P w K mg base 3 "_law_text_at" ["octets", "at"] (spP C 2 (ap2 (m__law_text_at)))) (D_read_number : Has P w K mg base 5 "read_number" ["octets", "at"] (spP C 2 (ap2 (m_read_number)))) (D_read_row : Has P w K mg base 5 "read_row" ["octets", "at"] (spP C 2 (ap2 (m_read_row)))) (D_read_text : Has P w K mg base 6 "read_text" ["octets", "at"] (spP C 2 (ap2 (m_read_text)))) (D__law_alike : Has P w K mg base 13 "_law_alike" ["found", "due"] (spP C 2 (ap2 (m__law_alike 12)))) (z_enumerate : mg "enumerate" = none) (z_len : mg "len" = none) (z_list : mg "list" = none) (z_range : mg "range" = none) (z_repr : mg "repr" = none) (z_tuple : mg "tuple" = none) (hNs : NsOk K mg) (FN_read_number : FnC K "read_number") (FN_read_row : FnC K "read_row") (FN_read_text : FnC K "read_text") (A__law_refused : At K mg "_law_refused" s__law_refused ["ask"]) (ET : ErrT K mg C T_errs U_errs) : ∃ s : MS, (∀ (v_script : D) (v_row : List D), m_law_1 v_script v_row = s _ zTop [(.v v_script), (.l false v_row), .un, .un, .un, .un, .un, .un, .un, .un, .un, .un]) ∧ ∀ (s0 : Shared) (H : Hp) (E : XK), Room 13 (callerA.deeper (envOfC "law" (defScope s_law) s0.heap.objs.size f (.ref c))) →
      XSs C (axL Pt) (cxOf (L2.CX P w) P w K mg base N_law "law" (defScope s_law) f (.ref c) callerA [] s0 H E) (fun cls d _ H' => E cls d H') ((defBody s_law).drop 1) s := by
  obtain ⟨s', e', h'⟩ := tl_2 (P := P) (w := w) (base := base) (C := C) (f := f) TB D__law_bits D__law_pick D__law_taken D__law_number_at D__law_row_at D__law_text_at D_read_number D_read_row D_read_text D__law_alike z_enumerate z_len z_list z_range z_repr z_tuple hNs FN_read_number FN_read_row FN_read_text A__law_refused ET
  refine ⟨_, ?hm, fun s0 H E hr => (xss_cons (xs_for (I := []) (J := [(1, (.l false))]) (K := [2, 3, 4, 5, 6, 7, 8, 9, 10, 11]) (passes_of rfl) rfl (xi_range1 (by rfl) z_range (xe_c de_int)) (dg_name (i := 2) sc_law.nd rfl (Or.inl rfl)) (gok_name 2)
 (xss_cons (xs_set (ds_set (i := 3) sc_law.nd rfl (Or.inl rfl) (xc_hasI (takes_of rfl rfl rfl rfl) D__law_bits (hr.mono (by decide)) (by rfl) (xac_ref (i := 1) (de_var 1) xac_nil))))
 (xss_cons (xs_set (ds_set (i := 3) sc_law.nd rfl (Or.inl rfl) (xc_slA ok_sl (xca_c (xc_p (xe_var (de_var 3)))) xco_none (xco_some (xc_op dop_sub ok_sub (xc_p (xe_callB dc_lenG ok_len (by rfl) z_len (by decide +kernel) (xva_cons (xv_e (xe_var (de_var 3))) xva_nil))) (xc_hasI (takes_of rfl rfl rfl rfl) D__law_pick (hr.mono (by decide)) (by rfl) (xac_ref (i := 1) (de_var 1) (xac_val (xc_p (xe_lst (lenCons (lenCons (lenCons (lenCons (lenCons lenNil))))) (xa_cons (xe_c de_int) (xa_cons (xe_c de_int) (xa_cons (xe_c de_int) (xa_cons (xe_c de_int) (xa_cons (xe_c de_int) xa_nil))))))) xac_nil))))))))
 (xss_cons (xs_set (ds_set (i := 4) sc_law.nd rfl (Or.inr rfl) (xc_join (I := [(1, (.l false))]) (xc_ifE (xct_cmp (dop_eqG hr.units) ok_eq (xc_hasI (takes_of rfl rfl rfl rfl) D__law_taken (hr.mono (by decide)) (by rfl) (xac_ref (i := 1) (de_var 1) (xac_val (xc_p (xe_c de_int)) xac_nil))) (xc_p (xe_c de_int))) (xc_p (xe_var (de_var 3))) (xc_p (xe_callTy dc_tuple ok_tuple (by rfl) z_tuple (by decide +kernel) (xva_cons (xv_e (xe_var (de_var 3))) xva_nil)))))))
 (xss_cons (xs_set (ds_set (i := 5) sc_law.nd rfl (Or.inl rfl) (xc_p (xe_callB (dc_repr rfl hr.units65) ok_repr (by rfl) z_repr (by decide +kernel) (xva_cons (xv_e (xe_var (de_var 4))) xva_nil)))))
 (xss_cons (xs_for (I := []) (J := []) (K := [6, 7, 8, 9, 10]) (passes_of rfl) rfl (xi_any (xe_rgL (by rfl) (by rfl) z_list (xr_1 (by rfl) (by rfl) z_range (xe_op dop_add ok_add (xv_e (xe_callB dc_lenG ok_len (by rfl) z_len (by decide +kernel) (xva_cons (xv_e (xe_var (de_var 3))) xva_nil))) (xv_e (xe_c de_int)))) rfl)) (dg_name (i := 6) sc_law.nd rfl (Or.inr rfl)) (gok_name 6)
 (xss_cons (xs_set (ds_set (i := 7) sc_law.nd rfl (Or.inl rfl) (xc_p (xe_lst (lenCons (lenCons (lenCons lenNil))) (xa_cons (xe_has (lenCons (lenCons lenNil)) (takes_of rfl rfl rfl rfl) D__law_number_at (hr.mono (by decide)) (by rfl) (xa_cons (xe_var (de_var 3)) (xa_cons (xe_var (de_var 6)) xa_nil))) (xa_cons (xe_has (lenCons (lenCons lenNil)) (takes_of rfl rfl rfl rfl) D__law_row_at (hr.mono (by decide)) (by rfl) (xa_cons (xe_var (de_var 3)) (xa_cons (xe_var (de_var 6)) xa_nil))) (xa_cons (xe_has (lenCons (lenCons lenNil)) (takes_of rfl rfl rfl rfl) D__law_text_at (hr.mono (by decide)) (by rfl) (xa_cons (xe_var (de_var 3)) (xa_cons (xe_var (de_var 6)) xa_nil))) xa_nil)))))))
 (xss_one (xs_for (I := []) (J := []) (K := [8, 9, 10]) (passes_of rfl) rfl (xi_enum (by rfl) z_enumerate (xe_lst (lenCons (lenCons (lenCons lenNil))) (xa_cons (xe_c (de_fnv hNs FN_read_number (by rfl))) (xa_cons (xe_c (de_fnv hNs FN_read_row (by rfl))) (xa_cons (xe_c (de_fnv hNs FN_read_text (by rfl))) xa_nil))))) (dg_tupG rfl (dgs_cons (dg_name (i := 8) sc_law.nd rfl (Or.inl rfl)) (dgs_cons (dg_name (i := 9) sc_law.nd rfl (Or.inr rfl)) dgs_nil))) (gok2 (gok_name 8) (gok_name 9))
 (xss_cons (xs_set (ds_set (i := 10) sc_law.nd rfl (Or.inl rfl) (xc_join (I := []) (xc_ref (k := 6) A__law_refused sc__law_refused sc__law_refused.nd rfl (Or.inl rfl) (by rfl) rfl ET (fun g cdv s H => (.cons (i := 1) (by simp) (by rfl) (by decide) rfl rfl (fun a oe x d pn hx hz hf =>
 (xss_one (xs_ret (xc_p (xe_tup (lenCons (lenCons lenNil)) (xa_cons (xe_c de_str) (xa_cons (xe_xf (de_xf (i := 1) ET hx (ET.fld _ hx) hz hf rfl (Or.inl rfl))) xa_nil))))))) .nil)) (fun g cdv s H => (xss_one (xs_ret (xc_p (xe_tup (lenCons (lenCons lenNil)) (xa_cons (xe_c de_str) (xa_cons (xe_c de_non) xa_nil))))))) TB rfl rfl (hr.mono (by decide)) (LamX.lamS_by (sc := defScope s_law) (by decide +kernel)) rfl (fun _ _ _ _ _ => rfl) (fun A outer s H E f c' hr =>
 (xc_p (xe_callV (i := 9) (lenCons (lenCons lenNil)) (takes_of rfl rfl rfl rfl) hNs (tabOk_cons (hr.mono (by decide)) D_read_number (tabOk_cons (hr.mono (by decide)) D_read_row (tabOk_cons (hr.mono (by decide)) D_read_text tabOk_nil))) rfl (by first | exact Or.inl rfl | exact Or.inr (Or.inl rfl) | exact Or.inr (Or.inr rfl)) (xa_cons (xe_var (de_var 4)) (xa_cons (xe_var (de_var 6)) xa_nil)))))))))
 (xss_cons (xs_if (xct_p (xt_cmp (dop_neG hr.units) ok_ne (xv_e (xe_callB (dc_repr rfl hr.units65) ok_repr (by rfl) z_repr (by decide +kernel) (xva_cons (xv_e (xe_var (de_var 10))) xva_nil))) (xv_e (xe_callB (dc_repr rfl hr.units65) ok_repr (by rfl) z_repr (by decide +kernel) (xva_cons (xv_e (xe_ifE (xt_isN (xv_e (xe_ix (dix_G hr.units) ok_ix (xv_e (xe_var (de_var 7))) (xv_e (xe_var (de_var 8)))))) (xe_tup (lenCons (lenCons lenNil)) (xa_cons (xe_c de_str) (xa_cons (xe_var (de_var 6)) xa_nil))) (xe_tup (lenCons (lenCons lenNil)) (xa_cons (xe_c de_str) (xa_cons (xe_c de_non) xa_nil))))) xva_nil)))))
 (xss_one (xs_ret (xc_p (xe_c de_bl))))
 xss_nil)
 (xss_one (xs_if (xct_p (xw_t (xw_and (xt_notN (xv_e (xe_ix (dix_G hr.units) ok_ix (xv_e (xe_var (de_var 7))) (xv_e (xe_var (de_var 8)))))) (xw_and1 (xt_not (xt_tru ok_tru (xv_e (xe_has (lenCons (lenCons lenNil)) (takes_of rfl rfl rfl rfl) D__law_alike (hr.mono (by decide)) (by rfl) (xa_cons (xe_callV (i := 9) (lenCons (lenCons lenNil)) (takes_of rfl rfl rfl rfl) hNs (tabOk_cons (hr.mono (by decide)) D_read_number (tabOk_cons (hr.mono (by decide)) D_read_row (tabOk_cons (hr.mono (by decide)) D_read_text tabOk_nil))) rfl (by first | exact Or.inl rfl | exact Or.inr (Or.inl rfl) | exact Or.inr (Or.inr rfl)) (xa_cons (xe_var (de_var 4)) (xa_cons (xe_var (de_var 6)) xa_nil))) (xa_cons (xe_ix (dix_G hr.units) ok_ix (xv_e (xe_var (de_var 7))) (xv_e (xe_var (de_var 8)))) xa_nil))))))))))
 (xss_one (xs_ret (xc_p (xe_c de_bl))))
 xss_nil))))))))
 (xss_cons (xs_set (ds_set (i := 11) sc_law.nd rfl (Or.inr rfl) (xc_hasI (takes_of rfl rfl rfl rfl) D__law_pick (hr.mono (by decide)) (by rfl) (xac_ref (i := 1) (de_var 1) (xac_val (xc_p (xe_lst (lenCons (lenCons (lenCons (lenCons (lenCons (lenCons lenNil)))))) (xa_cons (xe_op dop_add ok_add (xv_e (xe_callB dc_lenG ok_len (by rfl) z_len (by decide +kernel) (xva_cons (xv_e (xe_var (de_var 3))) xva_nil))) (xv_e (xe_c de_int))) (xa_cons (xe_neg ok_neg (xe_c de_int)) (xa_cons (xe_c de_non) (xa_cons (xe_c de_bl) (xa_cons (xe_c de_str) (xa_cons (xe_op dop_pow ok_pow (xv_e (xe_c de_int)) (xv_e (xe_c de_int))) xa_nil)))))))) xac_nil)))))
 (xss_cons (xs_for (I := []) (J := []) (K := [9]) (passes_of rfl) rfl (xi_any (xe_lst (lenCons (lenCons (lenCons lenNil))) (xa_cons (xe_c (de_fnv hNs FN_read_number (by rfl))) (xa_cons (xe_c (de_fnv hNs FN_read_row (by rfl))) (xa_cons (xe_c (de_fnv hNs FN_read_text (by rfl))) xa_nil))))) (dg_name (i := 9) sc_law.nd rfl (Or.inr rfl)) (gok_name 9)
 (xss_one (xs_if (xct_cmp (dop_neG hr.units) ok_ne (xc_callB (dc_repr rfl hr.units65) ok_repr (by rfl) z_repr (by decide +kernel) (xac_val (xc_join (I := []) (xc_ref (k := 6) A__law_refused sc__law_refused sc__law_refused.nd rfl (Or.inl rfl) (by rfl) rfl ET (fun g cdv s H => (.cons (i := 1) (by simp) (by rfl) (by decide) rfl rfl (fun a oe x d pn hx hz hf =>
 (xss_one (xs_ret (xc_p (xe_tup (lenCons (lenCons lenNil)) (xa_cons (xe_c de_str) (xa_cons (xe_xf (de_xf (i := 1) ET hx (ET.fld _ hx) hz hf rfl (Or.inl rfl))) xa_nil))))))) .nil)) (fun g cdv s H => (xss_one (xs_ret (xc_p (xe_tup (lenCons (lenCons lenNil)) (xa_cons (xe_c de_str) (xa_cons (xe_c de_non) xa_nil))))))) TB rfl rfl (hr.mono (by decide)) (LamX.lamS_by (sc := defScope s_law) (by decide +kernel)) rfl (fun _ _ _ _ _ => rfl) (fun A outer s H E f c' hr =>
 (xc_p (xe_callV (i := 9) (lenCons (lenCons lenNil)) (takes_of rfl rfl rfl rfl) hNs (tabOk_cons (hr.mono (by decide)) D_read_number (tabOk_cons (hr.mono (by decide)) D_read_row (tabOk_cons (hr.mono (by decide)) D_read_text tabOk_nil))) rfl (by first | exact Or.inl rfl | exact Or.inr (Or.inl rfl) | exact Or.inr (Or.inr rfl)) (xa_cons (xe_var (de_var 4)) (xa_cons (xe_var (de_var 11)) xa_nil))))))) xac_nil)) (xc_p (xe_callB (dc_repr rfl hr.units65) ok_repr (by rfl) z_repr (by decide +kernel) (xva_cons (xv_e (xe_tup (lenCons (lenCons lenNil)) (xa_cons (xe_c de_str) (xa_cons (xe_var (de_var 11)) xa_nil)))) xva_nil))))
 (xss_one (xs_ret (xc_p (xe_c de_bl))))
 xss_nil)))
 (xss_one (xs_if (xct_p (xt_cmp (dop_neG hr.units) ok_ne (xv_e (xe_callB (dc_repr rfl hr.units65) ok_repr (by rfl) z_repr (by decide +kernel) (xva_cons (xv_e (xe_var (de_var 4))) xva_nil))) (xv_e (xe_var (de_var 5)))))
 (xss_one (xs_ret (xc_p (xe_c de_bl))))
 xss_nil)))))))))) (h' s0 H E hr))⟩
  case hm =>
    intro v_script v_row
    delta m_law_1
    delta i__law_bits i__law_pick i__law_taken
    generalize (m__law_bits) = g__law_bits
    generalize (m__law_pick) = g__law_pick
    generalize (m__law_taken) = g__law_taken
    generalize (m__law_number_at) = g__law_number_at
    generalize (m__law_row_at) = g__law_row_at
    generalize (m__law_text_at) = g__law_text_at
    generalize (m_read_number) = g_read_number
    generalize (m_read_row) = g_read_row
    generalize (m_read_text) = g_read_text
    generalize (m__law_alike 12) = g__law_alike
    generalize m_law_2 = F at e' ⊢
    obtain rfl : F = fun v_script v_row => s' _ zTop [(.v v_script), (.l false v_row), .un, .un, .un, .un, .un, .un, .un, .un, .un, .un] := by funext v_script v_row; exact e' v_script v_row
    revert g__law_bits g__law_pick g__law_taken g__law_number_at g__law_row_at g__law_text_at g_read_number g_read_row g_read_text g__law_alike
    refine id ?_
    intro g__law_bits g__law_pick g__law_taken g__law_number_at g__law_row_at g__law_text_at g_read_number g_read_row g_read_text g__law_alike
    kernel_rfl
theorem tl_0 {P : Program} {w : World} {K : PySem.W.Frag} {mg : Str → Option Value} {base : Heap} {C : Str → Addr} {f c Pt : Addr} (TB : LamX.TabB base mg c Pt) (D__law_bits : Has P w K mg base 4 "_law_bits" ["row"] (spI C pk__law_bits i__law_bits)) (D__law_pick : Has P w K mg base 2 "_law_pick" ["row", "some"] (spI C pk__law_pick i__law_pick)) (D__law_taken : Has P w K mg base 1 "_law_taken" ["row", "many"] (spI C pk__law_taken i__law_taken)) (D__law_number_at : Has P w K mg base 1 "_law_number_at" ["octets", "at"] (spP C 2 (ap2 (m__law_number_at)))) (D__law_row_at : Has P w K mg base 2 "_law_row_at" ["octets", "at"] (spP C 2 (ap2 (m__law_row_at)))) (D__law_text_at : Has P w K mg base 3 "_law_text_at" ["octets", "at"] (spP C 2 (ap2 (m__law_text_at)))) (D_read_number : Has P w K mg base 5 "read_number" ["octets", "at"] (spP C 2 (ap2 (m_read_number)))) (D_read_row : Has P w K mg base 5 "read_row" ["octets", "at"] (spP C 2 (ap2 (m_read_row)))) (D_read_text : Has P w K mg base 6 "read_text" ["octets", "at"] (spP C 2 (ap2 (m_read_text)))) (D__law_alike : Has P w K mg base 13 "_law_alike" ["found", "due"] (spP C 2 (ap2 (m__law_alike 12)))) (z_enumerate : mg "enumerate" = none) (z_len : mg "len" = none) (z_list : mg "list" = none) (z_range : mg "range" = none) (z_repr : mg "repr" = none) (z_tuple : mg "tuple" = none) (hNs : NsOk K mg) (FN_read_number : FnC K "read_number") (FN_read_row : FnC K "read_row") (FN_read_text : FnC K "read_text") (A__law_refused : At K mg "_law_refused" s__law_refused ["ask"]) (ET : ErrT K mg C T_errs U_errs) : ∃ s : MS, (∀ (v_script : D), m_law_0 v_script = s _ zTop [(.v v_script), .un, .un, .un, .un, .un, .un, .un, .un, .un, .un, .un]) ∧ ∀ (s0 : Shared) (H : Hp) (E : XK), Room 13 (callerA.deeper (envOfC "law" (defScope s_law) s0.heap.objs.size f (.ref c))) →
      XSs C (axL Pt) (cxOf (L2.CX P w) P w K mg base N_law "law" (defScope s_law) f (.ref c) callerA [] s0 H E) (fun cls d _ H' => E cls d H') ((defBody s_law).drop 0) s := by
  obtain ⟨s', e', h'⟩ := tl_1 (P := P) (w := w) (base := base) (C := C) (f := f) TB D__law_bits D__law_pick D__law_taken D__law_number_at D__law_row_at D__law_text_at D_read_number D_read_row D_read_text D__law_alike z_enumerate z_len z_list z_range z_repr z_tuple hNs FN_read_number FN_read_row FN_read_text A__law_refused ET
  refine ⟨_, ?hm, fun s0 H E hr => (xss_cons (xs_setL (ds_set (i := 1) sc_law.nd rfl (Or.inl rfl) (xf_lst (lenCons (lenCons (lenCons (lenCons lenNil)))) (xa_cons (xe_var (de_var 0)) (xa_cons (xe_c de_int) (xa_cons (xe_c de_int) (xa_cons (xe_c de_int) xa_nil))))))) (h' s0 H E hr))⟩
  case hm =>
    intro v_script
    delta m_law_0
    generalize m_law_1 = F at e' ⊢
    obtain rfl : F = fun v_script v_row => s' _ zTop [(.v v_script), (.l false v_row), .un, .un, .un, .un, .un, .un, .un, .un, .un, .un] := by funext v_script v_row; exact e' v_script v_row
    kernel_rfl
theorem fn_law {P : Program} {w : World} {K : PySem.W.Frag} {mg : Str → Option Value} {base : Heap} {C : Str → Addr} (law_ok : ∀ ns : List Int, ns.length ≤ 63 → m_law (.scr ns) = .ok (.bl true) ()) {f c Pt : Addr} {oc kV doc pm ct : Value} {od an : Option Addr} {osl : Array (Option Value)} (lk : K.lookup f = some ⟨oc, od, .func (PySem.W.fnOf "law" "law" (defArgs s_law) (defBody s_law) (defScope s_law) .none kV doc pm an (.ref c) ct), osl⟩) (hcd : PySem.W.codeIn K (.ref c) "law" = true) (TB : LamX.TabB base mg c Pt) (D__law_bits : Has P w K mg base 4 "_law_bits" ["row"] (spI C pk__law_bits i__law_bits)) (D__law_pick : Has P w K mg base 2 "_law_pick" ["row", "some"] (spI C pk__law_pick i__law_pick)) (D__law_taken : Has P w K mg base 1 "_law_taken" ["row", "many"] (spI C pk__law_taken i__law_taken)) (D__law_number_at : Has P w K mg base 1 "_law_number_at" ["octets", "at"] (spP C 2 (ap2 (m__law_number_at)))) (D__law_row_at : Has P w K mg base 2 "_law_row_at" ["octets", "at"] (spP C 2 (ap2 (m__law_row_at)))) (D__law_text_at : Has P w K mg base 3 "_law_text_at" ["octets", "at"] (spP C 2 (ap2 (m__law_text_at)))) (D_read_number : Has P w K mg base 5 "read_number" ["octets", "at"] (spP C 2 (ap2 (m_read_number)))) (D_read_row : Has P w K mg base 5 "read_row" ["octets", "at"] (spP C 2 (ap2 (m_read_row)))) (D_read_text : Has P w K mg base 6 "read_text" ["octets", "at"] (spP C 2 (ap2 (m_read_text)))) (D__law_alike : Has P w K mg base 13 "_law_alike" ["found", "due"] (spP C 2 (ap2 (m__law_alike 12)))) (z_enumerate : mg "enumerate" = none) (z_len : mg "len" = none) (z_list : mg "list" = none) (z_range : mg "range" = none) (z_repr : mg "repr" = none) (z_tuple : mg "tuple" = none) (hNs : NsOk K mg) (FN_read_number : FnC K "read_number") (FN_read_row : FnC K "read_row") (FN_read_text : FnC K "read_text") (A__law_refused : At K mg "_law_refused" s__law_refused ["ask"]) (ET : ErrT K mg C T_errs U_errs) : LawRun P w K mg base f Pt := by
  obtain ⟨s, e, h⟩ := tl_0 (P := P) (w := w) (base := base) (C := C) (f := f) TB D__law_bits D__law_pick D__law_taken D__law_number_at D__law_row_at D__law_text_at D_read_number D_read_row D_read_text D__law_alike z_enumerate z_len z_list z_range z_repr z_tuple hNs FN_read_number FN_read_row FN_read_text A__law_refused ET
  exact okLawG (k := 13) (C := C) (m := m_law) lk hcd (fun s u => .of_eq rfl) sc_law (by decide) e law_ok ⟨rfl, by decide, by decide⟩ h
abbrev s_init : Stmt := inClass (topS 1) 0
theorem scI : FnScope ["self", "value"] ["self", "value"] (defScope s_init) := ⟨rfl, rfl, rfl, by decide +kernel, rfl, by decide +kernel, by decide +kernel⟩
theorem all_mk {P : Program} {w : World} {K : PySem.W.Frag} {h : Heap} {mg : Str → Option Value} (X : K.In h) (G : h.Ns mainGlobals mg) {f_is_integer : Addr} {od_is_integer an_is_integer : Option Addr} {sl_is_integer : Array (Option Value)} {oc_is_integer kV_is_integer dc_is_integer pm_is_integer cd_is_integer ct_is_integer : Value} {f_is_within : Addr} {od_is_within an_is_within : Option Addr} {sl_is_within : Array (Option Value)} {oc_is_within kV_is_within dc_is_within pm_is_within cd_is_within ct_is_within : Value} {f_is_octet : Addr} {od_is_octet an_is_octet : Option Addr} {sl_is_octet : Array (Option Value)} {oc_is_octet kV_is_octet dc_is_octet pm_is_octet cd_is_octet ct_is_octet : Value} {f_is_row : Addr} {od_is_row an_is_row : Option Addr} {sl_is_row : Array (Option Value)} {oc_is_row kV_is_row dc_is_row pm_is_row cd_is_row ct_is_row : Value} {f_checked_octets : Addr} {od_checked_octets an_checked_octets : Option Addr} {sl_checked_octets : Array (Option Value)} {oc_checked_octets kV_checked_octets dc_checked_octets pm_checked_octets cd_checked_octets ct_checked_octets : Value} {f_number_from : Addr} {od_number_from an_number_from : Option Addr} {sl_number_from : Array (Option Value)} {oc_number_from kV_number_from dc_number_from pm_number_from cd_number_from ct_number_from : Value} {f_row_from : Addr} {od_row_from an_row_from : Option Addr} {sl_row_from : Array (Option Value)} {oc_row_from kV_row_from dc_row_from pm_row_from cd_row_from ct_row_from : Value} {f_sign_of : Addr} {od_sign_of an_sign_of : Option Addr} {sl_sign_of : Array (Option Value)} {oc_sign_of kV_sign_of dc_sign_of pm_sign_of cd_sign_of ct_sign_of : Value} {f_text_from : Addr} {od_text_from an_text_from : Option Addr} {sl_text_from : Array (Option Value)} {oc_text_from kV_text_from dc_text_from pm_text_from cd_text_from ct_text_from : Value} {f_check_index : Addr} {od_check_index an_check_index : Option Addr} {sl_check_index : Array (Option Value)} {oc_check_index kV_check_index dc_check_index pm_check_index cd_check_index ct_check_index : Value} {f_read_number : Addr} {od_read_number an_read_number : Option Addr} {sl_read_number : Array (Option Value)} {oc_read_number kV_read_number dc_read_number pm_read_number cd_read_number ct_read_number : Value} {f_read_row : Addr} {od_read_row an_read_row : Option Addr} {sl_read_row : Array (Option Value)} {oc_read_row kV_read_row dc_read_row pm_read_row cd_read_row ct_read_row : Value} {f_read_text : Addr} {od_read_text an_read_text : Option Addr} {sl_read_text : Array (Option Value)} {oc_read_text kV_read_text dc_read_text pm_read_text cd_read_text ct_read_text : Value} {f__law_taken : Addr} {od__law_taken an__law_taken : Option Addr} {sl__law_taken : Array (Option Value)} {oc__law_taken kV__law_taken dc__law_taken pm__law_taken cd__law_taken ct__law_taken : Value} {f__law_pick : Addr} {od__law_pick an__law_pick : Option Addr} {sl__law_pick : Array (Option Value)} {oc__law_pick kV__law_pick dc__law_pick pm__law_pick cd__law_pick ct__law_pick : Value} {f__law_alike : Addr} {od__law_alike an__law_alike : Option Addr} {sl__law_alike : Array (Option Value)} {oc__law_alike kV__law_alike dc__law_alike pm__law_alike cd__law_alike ct__law_alike : Value} {f__law_octets : Addr} {od__law_octets an__law_octets : Option Addr} {sl__law_octets : Array (Option Value)} {oc__law_octets kV__law_octets dc__law_octets pm__law_octets cd__law_octets ct__law_octets : Value} {f__law_number : Addr} {od__law_number an__law_number : Option Addr} {sl__law_number : Array (Option Value)} {oc__law_number kV__law_number dc__law_number pm__law_number cd__law_number ct__law_number : Value} {f__law_groups : Addr} {od__law_groups an__law_groups : Option Addr} {sl__law_groups : Array (Option Value)} {oc__law_groups kV__law_groups dc__law_groups pm__law_groups cd__law_groups ct__law_groups : Value} {f__law_number_at : Addr} {od__law_number_at an__law_number_at : Option Addr} {sl__law_number_at : Array (Option Value)} {oc__law_number_at kV__law_number_at dc__law_number_at pm__law_number_at cd__law_number_at ct__law_number_at : Value} {f__law_row_at : Addr} {od__law_row_at an__law_row_at : Option Addr} {sl__law_row_at : Array (Option Value)} {oc__law_row_at kV__law_row_at dc__law_row_at pm__law_row_at cd__law_row_at ct__law_row_at : Value} {f__law_text_at : Addr} {od__law_text_at an__law_text_at : Option Addr} {sl__law_text_at : Array (Option Value)} {oc__law_text_at kV__law_text_at dc__law_text_at pm__law_text_at cd__law_text_at ct__law_text_at : Value} {f__law_bits : Addr} {od__law_bits an__law_bits : Option Addr} {sl__law_bits : Array (Option Value)} {oc__law_bits kV__law_bits dc__law_bits pm__law_bits cd__law_bits ct__law_bits : Value} {f__law_refused : Addr} {od__law_refused an__law_refused : Option Addr} {sl__law_refused : Array (Option Value)} {oc__law_refused kV__law_refused dc__law_refused pm__law_refused cd__law_refused ct__law_refused : Value} {f_law : Addr} {od_law an_law : Option Addr} {sl_law : Array (Option Value)} {oc_law kV_law dc_law pm_law ct_law : Value} {c_law Pt : Addr} {t_MOST_NUMBER : Tok} {t_SIGNS : Tok} {fI TI : Addr} {odI anI odT : Option Addr} {slI slT : Array (Option Value)} {ocI kVI dcI pmI cdI ctI ocT : Value} {nT : Nat} {C_BadOctets : Addr} {nm_BadOctets q_BadOctets : _} {N_BadOctets : _} {bs_BadOctets bm_BadOctets : _} {sn_BadOctets sub_BadOctets ab_BadOctets col_BadOctets dd_BadOctets k0_BadOctets k1_BadOctets k2_BadOctets k3_BadOctets k5_BadOctets : _}
    (a_is_integer : PySem.W.nsIn K mainGlobals "is_integer" = some (some (.ref f_is_integer)))
    (l_is_integer : K.lookup f_is_integer = some ⟨oc_is_integer, od_is_integer, .func (PySem.W.fnOf "is_integer" "is_integer" (defArgs s_is_integer) (defBody s_is_integer) (defScope s_is_integer) .none kV_is_integer dc_is_integer pm_is_integer an_is_integer cd_is_integer ct_is_integer), sl_is_integer⟩)
    (b_is_integer : PySem.W.codeIn K cd_is_integer "is_integer" = true)
    (k_is_integer : PySem.W.keepIn K (.ref f_is_integer) = true)
    (a_is_within : PySem.W.nsIn K mainGlobals "is_within" = some (some (.ref f_is_within)))
    (l_is_within : K.lookup f_is_within = some ⟨oc_is_within, od_is_within, .func (PySem.W.fnOf "is_within" "is_within" (defArgs s_is_within) (defBody s_is_within) (defScope s_is_within) .none kV_is_within dc_is_within pm_is_within an_is_within cd_is_within ct_is_within), sl_is_within⟩)
    (b_is_within : PySem.W.codeIn K cd_is_within "is_within" = true)
    (k_is_within : PySem.W.keepIn K (.ref f_is_within) = true)
    (a_is_octet : PySem.W.nsIn K mainGlobals "is_octet" = some (some (.ref f_is_octet)))
    (l_is_octet : K.lookup f_is_octet = some ⟨oc_is_octet, od_is_octet, .func (PySem.W.fnOf "is_octet" "is_octet" (defArgs s_is_octet) (defBody s_is_octet) (defScope s_is_octet) .none kV_is_octet dc_is_octet pm_is_octet an_is_octet cd_is_octet ct_is_octet), sl_is_octet⟩)
    (b_is_octet : PySem.W.codeIn K cd_is_octet "is_octet" = true)
    (k_is_octet : PySem.W.keepIn K (.ref f_is_octet) = true)
    (a_is_row : PySem.W.nsIn K mainGlobals "is_row" = some (some (.ref f_is_row)))
    (l_is_row : K.lookup f_is_row = some ⟨oc_is_row, od_is_row, .func (PySem.W.fnOf "is_row" "is_row" (defArgs s_is_row) (defBody s_is_row) (defScope s_is_row) .none kV_is_row dc_is_row pm_is_row an_is_row cd_is_row ct_is_row), sl_is_row⟩)
    (b_is_row : PySem.W.codeIn K cd_is_row "is_row" = true)
    (k_is_row : PySem.W.keepIn K (.ref f_is_row) = true)
    (a_checked_octets : PySem.W.nsIn K mainGlobals "checked_octets" = some (some (.ref f_checked_octets)))
    (l_checked_octets : K.lookup f_checked_octets = some ⟨oc_checked_octets, od_checked_octets, .func (PySem.W.fnOf "checked_octets" "checked_octets" (defArgs s_checked_octets) (defBody s_checked_octets) (defScope s_checked_octets) .none kV_checked_octets dc_checked_octets pm_checked_octets an_checked_octets cd_checked_octets ct_checked_octets), sl_checked_octets⟩)
    (b_checked_octets : PySem.W.codeIn K cd_checked_octets "checked_octets" = true)
    (k_checked_octets : PySem.W.keepIn K (.ref f_checked_octets) = true)
    (a_number_from : PySem.W.nsIn K mainGlobals "number_from" = some (some (.ref f_number_from)))
    (l_number_from : K.lookup f_number_from = some ⟨oc_number_from, od_number_from, .func (PySem.W.fnOf "number_from" "number_from" (defArgs s_number_from) (defBody s_number_from) (defScope s_number_from) .none kV_number_from dc_number_from pm_number_from an_number_from cd_number_from ct_number_from), sl_number_from⟩)
    (b_number_from : PySem.W.codeIn K cd_number_from "number_from" = true)
    (k_number_from : PySem.W.keepIn K (.ref f_number_from) = true)
    (a_row_from : PySem.W.nsIn K mainGlobals "row_from" = some (some (.ref f_row_from)))
    (l_row_from : K.lookup f_row_from = some ⟨oc_row_from, od_row_from, .func (PySem.W.fnOf "row_from" "row_from" (defArgs s_row_from) (defBody s_row_from) (defScope s_row_from) .none kV_row_from dc_row_from pm_row_from an_row_from cd_row_from ct_row_from), sl_row_from⟩)
    (b_row_from : PySem.W.codeIn K cd_row_from "row_from" = true)
    (k_row_from : PySem.W.keepIn K (.ref f_row_from) = true)
    (a_sign_of : PySem.W.nsIn K mainGlobals "sign_of" = some (some (.ref f_sign_of)))
    (l_sign_of : K.lookup f_sign_of = some ⟨oc_sign_of, od_sign_of, .func (PySem.W.fnOf "sign_of" "sign_of" (defArgs s_sign_of) (defBody s_sign_of) (defScope s_sign_of) .none kV_sign_of dc_sign_of pm_sign_of an_sign_of cd_sign_of ct_sign_of), sl_sign_of⟩)
    (b_sign_of : PySem.W.codeIn K cd_sign_of "sign_of" = true)
    (k_sign_of : PySem.W.keepIn K (.ref f_sign_of) = true)
    (a_text_from : PySem.W.nsIn K mainGlobals "text_from" = some (some (.ref f_text_from)))
    (l_text_from : K.lookup f_text_from = some ⟨oc_text_from, od_text_from, .func (PySem.W.fnOf "text_from" "text_from" (defArgs s_text_from) (defBody s_text_from) (defScope s_text_from) .none kV_text_from dc_text_from pm_text_from an_text_from cd_text_from ct_text_from), sl_text_from⟩)
    (b_text_from : PySem.W.codeIn K cd_text_from "text_from" = true)
    (k_text_from : PySem.W.keepIn K (.ref f_text_from) = true)
    (a_check_index : PySem.W.nsIn K mainGlobals "check_index" = some (some (.ref f_check_index)))
    (l_check_index : K.lookup f_check_index = some ⟨oc_check_index, od_check_index, .func (PySem.W.fnOf "check_index" "check_index" (defArgs s_check_index) (defBody s_check_index) (defScope s_check_index) .none kV_check_index dc_check_index pm_check_index an_check_index cd_check_index ct_check_index), sl_check_index⟩)
    (b_check_index : PySem.W.codeIn K cd_check_index "check_index" = true)
    (k_check_index : PySem.W.keepIn K (.ref f_check_index) = true)
    (a_read_number : PySem.W.nsIn K mainGlobals "read_number" = some (some (.ref f_read_number)))
    (l_read_number : K.lookup f_read_number = some ⟨oc_read_number, od_read_number, .func (PySem.W.fnOf "read_number" "read_number" (defArgs s_read_number) (defBody s_read_number) (defScope s_read_number) .none kV_read_number dc_read_number pm_read_number an_read_number cd_read_number ct_read_number), sl_read_number⟩)
    (b_read_number : PySem.W.codeIn K cd_read_number "read_number" = true)
    (k_read_number : PySem.W.keepIn K (.ref f_read_number) = true)
    (a_read_row : PySem.W.nsIn K mainGlobals "read_row" = some (some (.ref f_read_row)))
    (l_read_row : K.lookup f_read_row = some ⟨oc_read_row, od_read_row, .func (PySem.W.fnOf "read_row" "read_row" (defArgs s_read_row) (defBody s_read_row) (defScope s_read_row) .none kV_read_row dc_read_row pm_read_row an_read_row cd_read_row ct_read_row), sl_read_row⟩)
    (b_read_row : PySem.W.codeIn K cd_read_row "read_row" = true)
    (k_read_row : PySem.W.keepIn K (.ref f_read_row) = true)
    (a_read_text : PySem.W.nsIn K mainGlobals "read_text" = some (some (.ref f_read_text)))
    (l_read_text : K.lookup f_read_text = some ⟨oc_read_text, od_read_text, .func (PySem.W.fnOf "read_text" "read_text" (defArgs s_read_text) (defBody s_read_text) (defScope s_read_text) .none kV_read_text dc_read_text pm_read_text an_read_text cd_read_text ct_read_text), sl_read_text⟩)
    (b_read_text : PySem.W.codeIn K cd_read_text "read_text" = true)
    (k_read_text : PySem.W.keepIn K (.ref f_read_text) = true)
    (a__law_taken : PySem.W.nsIn K mainGlobals "_law_taken" = some (some (.ref f__law_taken)))
    (l__law_taken : K.lookup f__law_taken = some ⟨oc__law_taken, od__law_taken, .func (PySem.W.fnOf "_law_taken" "_law_taken" (defArgs s__law_taken) (defBody s__law_taken) (defScope s__law_taken) .none kV__law_taken dc__law_taken pm__law_taken an__law_taken cd__law_taken ct__law_taken), sl__law_taken⟩)
    (b__law_taken : PySem.W.codeIn K cd__law_taken "_law_taken" = true)
    (k__law_taken : PySem.W.keepIn K (.ref f__law_taken) = true)
    (a__law_pick : PySem.W.nsIn K mainGlobals "_law_pick" = some (some (.ref f__law_pick)))
    (l__law_pick : K.lookup f__law_pick = some ⟨oc__law_pick, od__law_pick, .func (PySem.W.fnOf "_law_pick" "_law_pick" (defArgs s__law_pick) (defBody s__law_pick) (defScope s__law_pick) .none kV__law_pick dc__law_pick pm__law_pick an__law_pick cd__law_pick ct__law_pick), sl__law_pick⟩)
    (b__law_pick : PySem.W.codeIn K cd__law_pick "_law_pick" = true)
    (k__law_pick : PySem.W.keepIn K (.ref f__law_pick) = true)
    (a__law_alike : PySem.W.nsIn K mainGlobals "_law_alike" = some (some (.ref f__law_alike)))
    (l__law_alike : K.lookup f__law_alike = some ⟨oc__law_alike, od__law_alike, .func (PySem.W.fnOf "_law_alike" "_law_alike" (defArgs s__law_alike) (defBody s__law_alike) (defScope s__law_alike) .none kV__law_alike dc__law_alike pm__law_alike an__law_alike cd__law_alike ct__law_alike), sl__law_alike⟩)
    (b__law_alike : PySem.W.codeIn K cd__law_alike "_law_alike" = true)
    (k__law_alike : PySem.W.keepIn K (.ref f__law_alike) = true)
    (a__law_octets : PySem.W.nsIn K mainGlobals "_law_octets" = some (some (.ref f__law_octets)))
    (l__law_octets : K.lookup f__law_octets = some ⟨oc__law_octets, od__law_octets, .func (PySem.W.fnOf "_law_octets" "_law_octets" (defArgs s__law_octets) (defBody s__law_octets) (defScope s__law_octets) .none kV__law_octets dc__law_octets pm__law_octets an__law_octets cd__law_octets ct__law_octets), sl__law_octets⟩)
    (b__law_octets : PySem.W.codeIn K cd__law_octets "_law_octets" = true)
    (k__law_octets : PySem.W.keepIn K (.ref f__law_octets) = true)
    (a__law_number : PySem.W.nsIn K mainGlobals "_law_number" = some (some (.ref f__law_number)))
    (l__law_number : K.lookup f__law_number = some ⟨oc__law_number, od__law_number, .func (PySem.W.fnOf "_law_number" "_law_number" (defArgs s__law_number) (defBody s__law_number) (defScope s__law_number) .none kV__law_number dc__law_number pm__law_number an__law_number cd__law_number ct__law_number), sl__law_number⟩)
    (b__law_number : PySem.W.codeIn K cd__law_number "_law_number" = true)
    (k__law_number : PySem.W.keepIn K (.ref f__law_number) = true)
    (a__law_groups : PySem.W.nsIn K mainGlobals "_law_groups" = some (some (.ref f__law_groups)))
    (l__law_groups : K.lookup f__law_groups = some ⟨oc__law_groups, od__law_groups, .func (PySem.W.fnOf "_law_groups" "_law_groups" (defArgs s__law_groups) (defBody s__law_groups) (defScope s__law_groups) .none kV__law_groups dc__law_groups pm__law_groups an__law_groups cd__law_groups ct__law_groups), sl__law_groups⟩)
    (b__law_groups : PySem.W.codeIn K cd__law_groups "_law_groups" = true)
    (k__law_groups : PySem.W.keepIn K (.ref f__law_groups) = true)
    (a__law_number_at : PySem.W.nsIn K mainGlobals "_law_number_at" = some (some (.ref f__law_number_at)))
    (l__law_number_at : K.lookup f__law_number_at = some ⟨oc__law_number_at, od__law_number_at, .func (PySem.W.fnOf "_law_number_at" "_law_number_at" (defArgs s__law_number_at) (defBody s__law_number_at) (defScope s__law_number_at) .none kV__law_number_at dc__law_number_at pm__law_number_at an__law_number_at cd__law_number_at ct__law_number_at), sl__law_number_at⟩)
    (b__law_number_at : PySem.W.codeIn K cd__law_number_at "_law_number_at" = true)
    (k__law_number_at : PySem.W.keepIn K (.ref f__law_number_at) = true)
    (a__law_row_at : PySem.W.nsIn K mainGlobals "_law_row_at" = some (some (.ref f__law_row_at)))
    (l__law_row_at : K.lookup f__law_row_at = some ⟨oc__law_row_at, od__law_row_at, .func (PySem.W.fnOf "_law_row_at" "_law_row_at" (defArgs s__law_row_at) (defBody s__law_row_at) (defScope s__law_row_at) .none kV__law_row_at dc__law_row_at pm__law_row_at an__law_row_at cd__law_row_at ct__law_row_at), sl__law_row_at⟩)
    (b__law_row_at : PySem.W.codeIn K cd__law_row_at "_law_row_at" = true)
    (k__law_row_at : PySem.W.keepIn K (.ref f__law_row_at) = true)
    (a__law_text_at : PySem.W.nsIn K mainGlobals "_law_text_at" = some (some (.ref f__law_text_at)))
    (l__law_text_at : K.lookup f__law_text_at = some ⟨oc__law_text_at, od__law_text_at, .func (PySem.W.fnOf "_law_text_at" "_law_text_at" (defArgs s__law_text_at) (defBody s__law_text_at) (defScope s__law_text_at) .none kV__law_text_at dc__law_text_at pm__law_text_at an__law_text_at cd__law_text_at ct__law_text_at), sl__law_text_at⟩)
    (b__law_text_at : PySem.W.codeIn K cd__law_text_at "_law_text_at" = true)
    (k__law_text_at : PySem.W.keepIn K (.ref f__law_text_at) = true)
    (a__law_bits : PySem.W.nsIn K mainGlobals "_law_bits" = some (some (.ref f__law_bits)))
    (l__law_bits : K.lookup f__law_bits = some ⟨oc__law_bits, od__law_bits, .func (PySem.W.fnOf "_law_bits" "_law_bits" (defArgs s__law_bits) (defBody s__law_bits) (defScope s__law_bits) .none kV__law_bits dc__law_bits pm__law_bits an__law_bits cd__law_bits ct__law_bits), sl__law_bits⟩)
    (b__law_bits : PySem.W.codeIn K cd__law_bits "_law_bits" = true)
    (k__law_bits : PySem.W.keepIn K (.ref f__law_bits) = true)
    (a__law_refused : PySem.W.nsIn K mainGlobals "_law_refused" = some (some (.ref f__law_refused)))
    (l__law_refused : K.lookup f__law_refused = some ⟨oc__law_refused, od__law_refused, .func (PySem.W.fnOf "_law_refused" "_law_refused" (defArgs s__law_refused) (defBody s__law_refused) (defScope s__law_refused) .none kV__law_refused dc__law_refused pm__law_refused an__law_refused cd__law_refused ct__law_refused), sl__law_refused⟩)
    (b__law_refused : PySem.W.codeIn K cd__law_refused "_law_refused" = true)
    (k__law_refused : PySem.W.keepIn K (.ref f__law_refused) = true)
    (a_law : PySem.W.nsIn K mainGlobals "law" = some (some (.ref f_law)))
    (l_law : K.lookup f_law = some ⟨oc_law, od_law, .func (PySem.W.fnOf "law" "law" (defArgs s_law) (defBody s_law) (defScope s_law) .none kV_law dc_law pm_law an_law (.ref c_law) ct_law), sl_law⟩)
    (b_law : PySem.W.codeIn K (.ref c_law) "law" = true)
    (k_law : PySem.W.keepIn K (.ref f_law) = true)
    (hT : h.get? Pt = some emptyTb)
    (noTb : K.lookup Pt = none)
    (hC : PySem.W.codeHdIn K c_law Pt = true)
    (z_isinstance : PySem.W.nsIn K mainGlobals "isinstance" = some none)
    (z_int : PySem.W.nsIn K mainGlobals "int" = some none)
    (z_bool : PySem.W.nsIn K mainGlobals "bool" = some none)
    (z_list : PySem.W.nsIn K mainGlobals "list" = some none)
    (z_tuple : PySem.W.nsIn K mainGlobals "tuple" = some none)
    (z_enumerate : PySem.W.nsIn K mainGlobals "enumerate" = some none)
    (z_len : PySem.W.nsIn K mainGlobals "len" = some none)
    (z_range : PySem.W.nsIn K mainGlobals "range" = some none)
    (z_dict : PySem.W.nsIn K mainGlobals "dict" = some none)
    (z_str : PySem.W.nsIn K mainGlobals "str" = some none)
    (z_repr : PySem.W.nsIn K mainGlobals "repr" = some none)
    (c_MOST_NUMBER : PySem.W.nsIn K mainGlobals "MOST_NUMBER" = some (some (.int 1000000000000000 t_MOST_NUMBER)))
    (c_SIGNS : PySem.W.nsIn K mainGlobals "SIGNS" = some (some (.str " !\"#$&'()*+,-./0123456789:;<=>?@ABCDEFGHIJKLMNOPQRSTUVWXYZ[\\]^_`abcdefghijklmnopqrstuvwxyz{|}~" t_SIGNS)))
    (ea_BadOctets : PySem.W.nsIn K mainGlobals "BadOctets" = some (some (.ref C_BadOctets)))
    (ei_BadOctets : PySem.W.findIn K (.ref C_BadOctets) "__init__" = some (some (.ref fI)))
    (lI : K.lookup fI = some ⟨ocI, odI, .func (PySem.W.fnOf "__init__" "HouseError.__init__" (defArgs s_init) (defBody s_init) (defScope s_init) (.ref TI) kVI dcI pmI anI cdI ctI), slI⟩)
    (bI : PySem.W.codeIn K cdI "HouseError.__init__" = true)
    (kI : PySem.W.keepIn K (.ref fI) = true)
    (tI : PySem.W.typeIn K (.ref fI) = some (.type "function"))
    (lT : K.lookup TI = some ⟨ocT, odT, .seq #[.none] nT, slT⟩)
    (ec_BadOctets : K.lookup C_BadOctets = some (PySem.excClassObj nm_BadOctets q_BadOctets C_BadOctets N_BadOctets bs_BadOctets bm_BadOctets true sn_BadOctets sub_BadOctets ab_BadOctets col_BadOctets dd_BadOctets k0_BadOctets k1_BadOctets k2_BadOctets k3_BadOctets k5_BadOctets "ValueError.__new__"))
    (er_BadOctets : PySem.HandSPX.refsVE bm_BadOctets = true)
    (es_BadOctets : PySem.W.findIn K (.ref C_BadOctets) "__setattr__" = some (some (.builtin "object.__setattr__")))
    (ex_BadOctets : PySem.W.subIn K (.ref C_BadOctets) (.type "BaseException") = some true)
    (ey_BadOctets : PySem.W.typeIn K (.ref C_BadOctets) = some (.type "type"))
    (ek_BadOctets : PySem.W.keepIn K (.ref C_BadOctets) = true)
    (en_BadOctets : PySem.W.findIn K (.ref C_BadOctets) "value" = some none)
    (hn0 : PySem.W.specialIn K (.builtin "object.__class__") "__get__" = some (some (.builtin "getset_descriptor.__get__")))
    (ht0 : PySem.W.takesIn K (.builtin "object.__class__") = some true)
    (ga_BadOctets : PySem.W.findIn K (.ref C_BadOctets) "__getattribute__" = some (some (.builtin "BaseException.__getattribute__")))
    (gg_BadOctets : PySem.W.findIn K (.ref C_BadOctets) "__getattr__" = some none)
    (hd_BadOctets : PySem.W.hasDictIn K C_BadOctets = true)
    (ha_BadOctets : PySem.W.findIn K (.ref C_BadOctets) "__class__" = some (some (.builtin "object.__class__")))
    (hm_BadOctets : PySem.W.mroIn K C_BadOctets (.type "object") = some true)
    (vv_BadOctets : PySem.W.kitOne K (.ref C_BadOctets) (.type "ValueError") = some true)
    (em_BadOctets_BadOctets : PySem.W.exmOne K (.ref C_BadOctets) (.ref C_BadOctets) = some true)
    (kt_BadOctets_BadOctets : PySem.W.kitOne K (.ref C_BadOctets) (.ref C_BadOctets) = some true) :
    ∃ (f c Pt : Addr), mg "law" = some (.ref f) ∧ h.get? Pt = some emptyTb ∧ K.lookup Pt = none ∧ PySem.W.CodeHd h c Pt ∧ ∀ base : Heap, K.In base → base.Ns mainGlobals mg → LamX.TabB base mg c Pt → LawRun P w K mg base f Pt := by
  have A_is_integer : At K mg "is_integer" s_is_integer ["thing"] := at_mk X G a_is_integer l_is_integer b_is_integer k_is_integer (fun _ _ _ _ _ _ us hl => match us, hl with | [_], _ => rfl)
  have A_is_within : At K mg "is_within" s_is_within ["thing", "least", "most"] := at_mk X G a_is_within l_is_within b_is_within k_is_within (fun _ _ _ _ _ _ us hl => match us, hl with | [_, _, _], _ => rfl)
  have A_is_octet : At K mg "is_octet" s_is_octet ["thing"] := at_mk X G a_is_octet l_is_octet b_is_octet k_is_octet (fun _ _ _ _ _ _ us hl => match us, hl with | [_], _ => rfl)
  have A_is_row : At K mg "is_row" s_is_row ["thing"] := at_mk X G a_is_row l_is_row b_is_row k_is_row (fun _ _ _ _ _ _ us hl => match us, hl with | [_], _ => rfl)
  have A_checked_octets : At K mg "checked_octets" s_checked_octets ["thing"] := at_mk X G a_checked_octets l_checked_octets b_checked_octets k_checked_octets (fun _ _ _ _ _ _ us hl => match us, hl with | [_], _ => rfl)
  have A_number_from : At K mg "number_from" s_number_from ["octets", "at"] := at_mk X G a_number_from l_number_from b_number_from k_number_from (fun _ _ _ _ _ _ us hl => match us, hl with | [_, _], _ => rfl)
  have A_row_from : At K mg "row_from" s_row_from ["octets", "at"] := at_mk X G a_row_from l_row_from b_row_from k_row_from (fun _ _ _ _ _ _ us hl => match us, hl with | [_, _], _ => rfl)
  have A_sign_of : At K mg "sign_of" s_sign_of ["code"] := at_mk X G a_sign_of l_sign_of b_sign_of k_sign_of (fun _ _ _ _ _ _ us hl => match us, hl with | [_], _ => rfl)
  have A_text_from : At K mg "text_from" s_text_from ["octets", "at"] := at_mk X G a_text_from l_text_from b_text_from k_text_from (fun _ _ _ _ _ _ us hl => match us, hl with | [_, _], _ => rfl)
  have A_check_index : At K mg "check_index" s_check_index ["octets", "at"] := at_mk X G a_check_index l_check_index b_check_index k_check_index (fun _ _ _ _ _ _ us hl => match us, hl with | [_, _], _ => rfl)
  have A_read_number : At K mg "read_number" s_read_number ["octets", "at"] := at_mk X G a_read_number l_read_number b_read_number k_read_number (fun _ _ _ _ _ _ us hl => match us, hl with | [_, _], _ => rfl)
  have A_read_row : At K mg "read_row" s_read_row ["octets", "at"] := at_mk X G a_read_row l_read_row b_read_row k_read_row (fun _ _ _ _ _ _ us hl => match us, hl with | [_, _], _ => rfl)
  have A_read_text : At K mg "read_text" s_read_text ["octets", "at"] := at_mk X G a_read_text l_read_text b_read_text k_read_text (fun _ _ _ _ _ _ us hl => match us, hl with | [_, _], _ => rfl)
  have A__law_taken : At K mg "_law_taken" s__law_taken ["row", "many"] := at_mk X G a__law_taken l__law_taken b__law_taken k__law_taken (fun _ _ _ _ _ _ us hl => match us, hl with | [_, _], _ => rfl)
  have A__law_pick : At K mg "_law_pick" s__law_pick ["row", "some"] := at_mk X G a__law_pick l__law_pick b__law_pick k__law_pick (fun _ _ _ _ _ _ us hl => match us, hl with | [_, _], _ => rfl)
  have A__law_alike : At K mg "_law_alike" s__law_alike ["found", "due"] := at_mk X G a__law_alike l__law_alike b__law_alike k__law_alike (fun _ _ _ _ _ _ us hl => match us, hl with | [_, _], _ => rfl)
  have A__law_octets : At K mg "_law_octets" s__law_octets ["row", "most"] := at_mk X G a__law_octets l__law_octets b__law_octets k__law_octets (fun _ _ _ _ _ _ us hl => match us, hl with | [_, _], _ => rfl)
  have A__law_number : At K mg "_law_number" s__law_number ["row"] := at_mk X G a__law_number l__law_number b__law_number k__law_number (fun _ _ _ _ _ _ us hl => match us, hl with | [_], _ => rfl)
  have A__law_groups : At K mg "_law_groups" s__law_groups ["number"] := at_mk X G a__law_groups l__law_groups b__law_groups k__law_groups (fun _ _ _ _ _ _ us hl => match us, hl with | [_], _ => rfl)
  have A__law_number_at : At K mg "_law_number_at" s__law_number_at ["octets", "at"] := at_mk X G a__law_number_at l__law_number_at b__law_number_at k__law_number_at (fun _ _ _ _ _ _ us hl => match us, hl with | [_, _], _ => rfl)
  have A__law_row_at : At K mg "_law_row_at" s__law_row_at ["octets", "at"] := at_mk X G a__law_row_at l__law_row_at b__law_row_at k__law_row_at (fun _ _ _ _ _ _ us hl => match us, hl with | [_, _], _ => rfl)
  have A__law_text_at : At K mg "_law_text_at" s__law_text_at ["octets", "at"] := at_mk X G a__law_text_at l__law_text_at b__law_text_at k__law_text_at (fun _ _ _ _ _ _ us hl => match us, hl with | [_, _], _ => rfl)
  have A__law_bits : At K mg "_law_bits" s__law_bits ["row"] := at_mk X G a__law_bits l__law_bits b__law_bits k__law_bits (fun _ _ _ _ _ _ us hl => match us, hl with | [_], _ => rfl)
  have A__law_refused : At K mg "_law_refused" s__law_refused ["ask"] := at_mk X G a__law_refused l__law_refused b__law_refused k__law_refused (fun _ _ _ _ _ _ us hl => match us, hl with | [_], _ => rfl)
  have A_law : At K mg "law" s_law ["script"] := at_mk X G a_law l_law b_law k_law (fun _ _ _ _ _ _ us hl => match us, hl with | [_], _ => rfl)
  have hNs : NsOk K mg := fun n a h => PySem.W.mg_of X G h
  have FN_read_number : FnC K "read_number" := ⟨_, a_read_number⟩
  have FN_read_row : FnC K "read_row" := ⟨_, a_read_row⟩
  have FN_read_text : FnC K "read_text" := ⟨_, a_read_text⟩
  have z_isinstance := PySem.W.mg_none_of X G z_isinstance
  have z_int := PySem.W.mg_none_of X G z_int
  have z_bool := PySem.W.mg_none_of X G z_bool
  have z_list := PySem.W.mg_none_of X G z_list
  have z_tuple := PySem.W.mg_none_of X G z_tuple
  have z_enumerate := PySem.W.mg_none_of X G z_enumerate
  have z_len := PySem.W.mg_none_of X G z_len
  have z_range := PySem.W.mg_none_of X G z_range
  have z_dict := PySem.W.mg_none_of X G z_dict
  have z_str := PySem.W.mg_none_of X G z_str
  have z_repr := PySem.W.mg_none_of X G z_repr
  have c_MOST_NUMBER : ∃ t, mg "MOST_NUMBER" = some (.int 1000000000000000 t) := ⟨_, PySem.W.mg_of X G c_MOST_NUMBER⟩
  have c_SIGNS : ∃ t, mg "SIGNS" = some (.str " !\"#$&'()*+,-./0123456789:;<=>?@ABCDEFGHIJKLMNOPQRSTUVWXYZ[\\]^_`abcdefghijklmnopqrstuvwxyz{|}~" t) := ⟨_, PySem.W.mg_of X G c_SIGNS⟩
  obtain ⟨C, hC_BadOctets⟩ : ∃ C : Str → Addr, C "BadOctets" = C_BadOctets := ⟨fun x => if x = "BadOctets" then C_BadOctets else 0, (if_pos rfl)⟩
  refine ⟨f_law, c_law, Pt, PySem.W.mg_of X G a_law, hT, noTb, PySem.W.codeHd_of_K X hC, fun base _ _ TB => ?_⟩
  · have I0 : InitC P w K mg base "value" fI := init_mk lI bI kI tI lT scI rfl (by decide +kernel) (by decide +kernel) (by decide) (by decide) (fun _ _ _ _ _ _ _ us its hu hi => match us, its, hu, hi with | [_, _], [_], _, _ => ⟨_, rfl, rfl⟩)
    have X_BadOctets : ErrC K mg P w base "BadOctets" (C "BadOctets") "value" [] [] := by rw [hC_BadOctets]; exact err_mk X G I0 ea_BadOctets ec_BadOctets er_BadOctets es_BadOctets ex_BadOctets ey_BadOctets ek_BadOctets en_BadOctets ei_BadOctets
    have ET : ErrT K mg C T_errs U_errs := by
      refine ⟨?_, ?_, ?_, ?_, ?_⟩
      · intro x hx; simp only [List.mem_cons, List.not_mem_nil, or_false] at hx; rcases hx with rfl
        · rw [hC_BadOctets]; exact ⟨⟨ga_BadOctets, gg_BadOctets, ex_BadOctets, hd_BadOctets, ha_BadOctets, hn0, ht0, hm_BadOctets⟩, ⟨ga_BadOctets, gg_BadOctets, ex_BadOctets, hd_BadOctets⟩⟩
      · intro x hx; simp only [List.mem_cons, List.not_mem_nil, or_false] at hx; rcases hx with rfl
        · rw [hC_BadOctets]; exact en_BadOctets
      · intro x hx y hy; simp only [List.mem_cons, List.not_mem_nil, or_false] at hx; rcases hx with rfl
        · simp only [List.mem_cons, List.not_mem_nil, or_false] at hy; rcases hy with rfl
          · rw [hC_BadOctets]; exact ⟨em_BadOctets_BadOctets, kt_BadOctets_BadOctets⟩
      · intro x hx; simp only [List.mem_cons, List.not_mem_nil, or_false] at hx; rcases hx with rfl
        · rw [hC_BadOctets]; exact vv_BadOctets
      · intro y hx; simp only [List.mem_cons, List.not_mem_nil, or_false] at hx; rcases hx with rfl
        · rw [hC_BadOctets]; exact ⟨PySem.W.mg_of X G ea_BadOctets, ek_BadOctets⟩
    have D_is_integer := has_is_integer (P := P) (w := w) (base := base) (C := C) A_is_integer z_bool z_int z_isinstance
    have D_is_within := has_is_within (P := P) (w := w) (base := base) (C := C) A_is_within D_is_integer
    have D_is_octet := has_is_octet (P := P) (w := w) (base := base) (C := C) A_is_octet D_is_integer
    have D_is_row := has_is_row (P := P) (w := w) (base := base) (C := C) A_is_row z_isinstance z_list z_tuple
    have D_checked_octets := has_checked_octets (P := P) (w := w) (base := base) (C := C) A_checked_octets D_is_row D_is_octet z_enumerate z_tuple X_BadOctets
    have D_number_from := has_number_from (P := P) (w := w) (base := base) (C := C) A_number_from z_len c_MOST_NUMBER X_BadOctets
    have D_row_from := has_row_from (P := P) (w := w) (base := base) (C := C) A_row_from D_number_from z_len X_BadOctets
    have D_sign_of := has_sign_of (P := P) (w := w) (base := base) (C := C) A_sign_of c_SIGNS
    have D_text_from := has_text_from (P := P) (w := w) (base := base) (C := C) A_text_from D_row_from D_sign_of X_BadOctets
    have D_check_index := has_check_index (P := P) (w := w) (base := base) (C := C) A_check_index D_checked_octets D_is_within z_len X_BadOctets
    have D_read_number := has_read_number (P := P) (w := w) (base := base) (C := C) A_read_number D_number_from D_check_index
    have D_read_row := has_read_row (P := P) (w := w) (base := base) (C := C) A_read_row D_row_from D_check_index
    have D_read_text := has_read_text (P := P) (w := w) (base := base) (C := C) A_read_text D_text_from D_check_index
    have D__law_taken := has__law_taken (P := P) (w := w) (base := base) (C := C) A__law_taken z_int z_len
    have D__law_pick := has__law_pick (P := P) (w := w) (base := base) (C := C) A__law_pick D__law_taken z_len
    have D__law_alike := has__law_alike (P := P) (w := w) (base := base) (C := C) A__law_alike z_bool z_dict z_int z_isinstance z_len z_list z_range z_str z_tuple
    have D__law_octets := has__law_octets (P := P) (w := w) (base := base) (C := C) A__law_octets D__law_taken D__law_pick z_len z_range z_tuple
    have D__law_number := has__law_number (P := P) (w := w) (base := base) (C := C) A__law_number D__law_taken D__law_pick z_int
    have D__law_groups := has__law_groups (P := P) (w := w) (base := base) (C := C) A__law_groups z_int z_range
    have DF__law_groups := hasF__law_groups (P := P) (w := w) (base := base) (C := C) A__law_groups z_int z_range
    have D__law_number_at := has__law_number_at (P := P) (w := w) (base := base) (C := C) A__law_number_at z_len z_range
    have D__law_row_at := has__law_row_at (P := P) (w := w) (base := base) (C := C) A__law_row_at D__law_number_at z_len z_tuple
    have D__law_text_at := has__law_text_at (P := P) (w := w) (base := base) (C := C) A__law_text_at D__law_row_at z_int
    have D__law_bits := has__law_bits (P := P) (w := w) (base := base) (C := C) A__law_bits D__law_taken D__law_octets D__law_number D__law_groups D__law_pick DF__law_groups z_len z_list z_range
    exact fn_law (C := C) law_ok l_law b_law TB D__law_bits D__law_pick D__law_taken D__law_number_at D__law_row_at D__law_text_at D_read_number D_read_row D_read_text D__law_alike z_enumerate z_len z_list z_range z_repr z_tuple hNs FN_read_number FN_read_row FN_read_text A__law_refused ET
end Lw
open PySem PySem.W PyProof.Rows
set_option maxHeartbeats 0 in
theorem PySem.Challenge.cw_sparehouses_k26_octets_read_or_refused_holds : PySem.Challenge.rw_sparehouses_k26_octets_read_or_refused.Holds := by
  w_on; o_law; k_head; (case hw => w_witness2)
  k_fill
  refine KD.walkG (l := PySem.Challenge.rw_sparehouses_k26_octets_read_or_refused) rfl rfl rfl (fun w h Y => PySem.W.km_in_of Y) ?F
  case F =>
    intro w mg h Y KX G
    refine' Lw.all_mk KX G ?a_is_integer ?l_is_integer ?b_is_integer ?k_is_integer ?a_is_within ?l_is_within ?b_is_within ?k_is_within ?a_is_octet ?l_is_octet ?b_is_octet ?k_is_octet ?a_is_row ?l_is_row ?b_is_row ?k_is_row ?a_checked_octets ?l_checked_octets ?b_checked_octets ?k_checked_octets ?a_number_from ?l_number_from ?b_number_from ?k_number_from ?a_row_from ?l_row_from ?b_row_from ?k_row_from ?a_sign_of ?l_sign_of ?b_sign_of ?k_sign_of ?a_text_from ?l_text_from ?b_text_from ?k_text_from ?a_check_index ?l_check_index ?b_check_index ?k_check_index ?a_read_number ?l_read_number ?b_read_number ?k_read_number ?a_read_row ?l_read_row ?b_read_row ?k_read_row ?a_read_text ?l_read_text ?b_read_text ?k_read_text ?a__law_taken ?l__law_taken ?b__law_taken ?k__law_taken ?a__law_pick ?l__law_pick ?b__law_pick ?k__law_pick ?a__law_alike ?l__law_alike ?b__law_alike ?k__law_alike ?a__law_octets ?l__law_octets ?b__law_octets ?k__law_octets ?a__law_number ?l__law_number ?b__law_number ?k__law_number ?a__law_groups ?l__law_groups ?b__law_groups ?k__law_groups ?a__law_number_at ?l__law_number_at ?b__law_number_at ?k__law_number_at ?a__law_row_at ?l__law_row_at ?b__law_row_at ?k__law_row_at ?a__law_text_at ?l__law_text_at ?b__law_text_at ?k__law_text_at ?a__law_bits ?l__law_bits ?b__law_bits ?k__law_bits ?a__law_refused ?l__law_refused ?b__law_refused ?k__law_refused ?a_law ?l_law ?b_law ?k_law ?hT ?noTb ?hC ?z_isinstance ?z_int ?z_bool ?z_list ?z_tuple ?z_enumerate ?z_len ?z_range ?z_dict ?z_str ?z_repr ?c_MOST_NUMBER ?c_SIGNS ?ea_BadOctets ?ei_BadOctets ?lI ?bI ?kI ?tI ?lT ?ec_BadOctets ?er_BadOctets ?es_BadOctets ?ex_BadOctets ?ey_BadOctets ?ek_BadOctets ?en_BadOctets ?hn0 ?ht0 ?ga_BadOctets ?gg_BadOctets ?hd_BadOctets ?ha_BadOctets ?hm_BadOctets ?vv_BadOctets ?em_BadOctets_BadOctets ?kt_BadOctets_BadOctets
    (case a_is_integer => k_is)
    (case l_is_integer => k_is)
    (case b_is_integer => k_is)
    (case k_is_integer => k_is)
    (case a_is_within => k_is)
    (case l_is_within => k_is)
    (case b_is_within => k_is)
    (case k_is_within => k_is)
    (case a_is_octet => k_is)
    (case l_is_octet => k_is)
    (case b_is_octet => k_is)
    (case k_is_octet => k_is)
    (case a_is_row => k_is)
    (case l_is_row => k_is)
    (case b_is_row => k_is)
    (case k_is_row => k_is)
    (case a_checked_octets => k_is)
    (case l_checked_octets => k_is)
    (case b_checked_octets => k_is)
    (case k_checked_octets => k_is)
    (case a_number_from => k_is)
    (case l_number_from => k_is)
    (case b_number_from => k_is)
    (case k_number_from => k_is)
    (case a_row_from => k_is)
    (case l_row_from => k_is)
    (case b_row_from => k_is)
    (case k_row_from => k_is)
    (case a_sign_of => k_is)
    (case l_sign_of => k_is)
    (case b_sign_of => k_is)
    (case k_sign_of => k_is)
    (case a_text_from => k_is)
    (case l_text_from => k_is)
    (case b_text_from => k_is)
    (case k_text_from => k_is)
    (case a_check_index => k_is)
    (case l_check_index => k_is)
    (case b_check_index => k_is)
    (case k_check_index => k_is)
    (case a_read_number => k_is)
    (case l_read_number => k_is)
    (case b_read_number => k_is)
    (case k_read_number => k_is)
    (case a_read_row => k_is)
    (case l_read_row => k_is)
    (case b_read_row => k_is)
    (case k_read_row => k_is)
    (case a_read_text => k_is)
    (case l_read_text => k_is)
    (case b_read_text => k_is)
    (case k_read_text => k_is)
    (case a__law_taken => k_is)
    (case l__law_taken => k_is)
    (case b__law_taken => k_is)
    (case k__law_taken => k_is)
    (case a__law_pick => k_is)
    (case l__law_pick => k_is)
    (case b__law_pick => k_is)
    (case k__law_pick => k_is)
    (case a__law_alike => k_is)
    (case l__law_alike => k_is)
    (case b__law_alike => k_is)
    (case k__law_alike => k_is)
    (case a__law_octets => k_is)
    (case l__law_octets => k_is)
    (case b__law_octets => k_is)
    (case k__law_octets => k_is)
    (case a__law_number => k_is)
    (case l__law_number => k_is)
    (case b__law_number => k_is)
    (case k__law_number => k_is)
    (case a__law_groups => k_is)
    (case l__law_groups => k_is)
    (case b__law_groups => k_is)
    (case k__law_groups => k_is)
    (case a__law_number_at => k_is)
    (case l__law_number_at => k_is)
    (case b__law_number_at => k_is)
    (case k__law_number_at => k_is)
    (case a__law_row_at => k_is)
    (case l__law_row_at => k_is)
    (case b__law_row_at => k_is)
    (case k__law_row_at => k_is)
    (case a__law_text_at => k_is)
    (case l__law_text_at => k_is)
    (case b__law_text_at => k_is)
    (case k__law_text_at => k_is)
    (case a__law_bits => k_is)
    (case l__law_bits => k_is)
    (case b__law_bits => k_is)
    (case k__law_bits => k_is)
    (case a__law_refused => k_is)
    (case l__law_refused => k_is)
    (case b__law_refused => k_is)
    (case k__law_refused => k_is)
    (case a_law => k_is)
    (case l_law => k_is)
    (case b_law => k_is)
    (case k_law => k_is)
    (case hT => exact PySem.W.km_tabs_of Y _ (List.mem_cons_self ..))
    (case noTb => kernel_rfl)
    (case hC => kernel_rfl)
    (case z_isinstance => k_is)
    (case z_int => k_is)
    (case z_bool => k_is)
    (case z_list => k_is)
    (case z_tuple => k_is)
    (case z_enumerate => k_is)
    (case z_len => k_is)
    (case z_range => k_is)
    (case z_dict => k_is)
    (case z_str => k_is)
    (case z_repr => k_is)
    (case c_MOST_NUMBER => k_is)
    (case c_SIGNS => k_is)
    (case ea_BadOctets => k_is)
    (case ei_BadOctets => k_is)
    (case lI => k_is)
    (case bI => k_is)
    (case kI => k_is)
    (case tI => k_is)
    (case lT => k_is)
    (case ec_BadOctets => k_is)
    (case er_BadOctets => decide +kernel)
    (case es_BadOctets => k_is)
    (case ex_BadOctets => k_is)
    (case ey_BadOctets => k_is)
    (case ek_BadOctets => k_is)
    (case en_BadOctets => k_is)
    (case hn0 => k_is)
    (case ht0 => k_is)
    (case ga_BadOctets => k_is)
    (case gg_BadOctets => k_is)
    (case hd_BadOctets => k_is)
    (case ha_BadOctets => k_is)
    (case hm_BadOctets => k_is)
    (case vv_BadOctets => kit_is)
    (case em_BadOctets_BadOctets => kts_exm)
    (case kt_BadOctets_BadOctets => kit_is)
