import PyProof.Rows.All
import Wide.All
import OpenK.AllK
import Wide.FinOn
import KE.KStateDown
import HandS.ForMost
import HandS.Exc
import HandS.TryOnly
import HandS.ExcOwn
import HandS.WordsExc
import HandS.Deep
import HandS.IsInst
import HandS.Conv
import HandS.TupAny
import HandS.TupMul
import HandS.Zip
import HandS.Strs
import HandS.Style
import PyProof.P3In
import HandS.ExcSuper
import HandS.ExcInit
import HandS.ExcIs
import KE.KExcSuper
import HandS.Ends
import PyProof.ReprRoads
import PyProof.ReprBulk
import HandS.Zip0
import KE.KDictZip
import HandS.DictComp
import KE.GoesMore
import PyProof.EnumMake
import HandS.TupSets
import HandS.Head0
import HandS.Head1
import HandS.Head2
import HandS.HeadEnd
import HandS.HeadHook1
import HandS.HeadHook2
import HandS.HeadNt
import PySem.Challenge.RW_patchrooms_k12_whole_patches_judged
set_option Elab.async false
set_option linter.all false
set_option maxRecDepth 100000
set_option maxHeartbeats 4000000
/-! Data of plain Lean (PyData) that values stand for, over a part G of the heap that never changes; readings by meaning (wE, wT, ..); one step a construct. -/
namespace Pk
open PySem PySem.Spec L2
open PyProof.Rows hiding St
/-! ### values and data -/
/-- data whose tuple is tracked with its very object: those that begin with a tuple -/
def isPs : List PyData → Bool
  | .tuple _ :: _ => true
  | _ => false
/-- how a tuple of these is tracked -/
def TupO (b : Bool) (vs : List V) (o : HO) : Prop := match b with
  | false => o = .tup vs
  | true => ∃ ob : Obj, o = .frz ob (.tup vs) ∧ ob.dict = none ∧ ob.cls = .type "tuple"
mutual
inductive Rp (K : PySem.W.Frag) (G : Hp) : V → PyData → Prop
  | non : Rp K G .non .none
  | bl (b : Bool) : Rp K G (.bl b) (.bool b)
  | int (i : Int) : Rp K G (.int i) (.int i)
  | str (x : Str) : Rp K G (.str x) (.str x)
  | lst {a : Addr} {vs : List V} {ds : List PyData} : G a = some (.lst vs) → RpL K G vs ds → Rp K G (.ref a) (.list ds)
  | tup {a : Addr} {vs : List V} {ds : List PyData} {o : HO} : G a = some o → TupO (isPs ds) vs o → RpL K G vs ds → Rp K G (.ref a) (.tuple ds)
  | dct {a : Addr} {kvs : List (Key × V)} : G a = some (.dK kvs) → Rp K G (.ref a) (.dict [])
inductive RpL (K : PySem.W.Frag) (G : Hp) : List V → List PyData → Prop
  | nil : RpL K G [] []
  | cons {v : V} {vs : List V} {d : PyData} {ds : List PyData} : Rp K G v d → RpL K G vs ds → RpL K G (v :: vs) (d :: ds)
end
/-- one abstract heap lies within another one -/
def Sub (G H : Hp) : Prop := ∀ a o, G a = some o → H a = some o
theorem Sub.rfl' {G : Hp} : Sub G G := fun _ _ h => h
theorem Sub.tr {A B C : Hp} (h : Sub A B) (k : Sub B C) : Sub A C := fun a o e => k a o (h a o e)
theorem Sub.l {K : PySem.W.Frag} {G H : Hp} {a : Addr} {xs : List V} (e : Sub G H) (h : SqL K G a xs) : SqL K H a xs := by
  rcases h with (h | ⟨o, h⟩) | h
  · exact .inl (.inl (e _ _ h))
  · exact .inl (.inr ⟨o, e _ _ h⟩)
  · exact .inr h
theorem Sub.t {K : PySem.W.Frag} {G H : Hp} {a : Addr} {xs : List V} (e : Sub G H) (h : SqT K G a xs) : SqT K H a xs := by
  rcases h with (h | ⟨o, h⟩) | h
  · exact .inl (.inl (e _ _ h))
  · exact .inl (.inr ⟨o, e _ _ h⟩)
  · exact .inr h
theorem TupO.sq {K : PySem.W.Frag} {G : Hp} {a : Addr} {b : Bool} {vs : List V} {o : HO} (e : G a = some o) (h : TupO b vs o) : SqT K G a vs := by
  cases b with
  | false =>
    have h' : o = .tup vs := h
    rw [h'] at e
    exact .inl (.inl e)
  | true =>
    obtain ⟨ob, h1, _⟩ := h
    rw [h1] at e
    exact .inl (.inr ⟨ob, e⟩)
theorem Sub.new {G : Hp} {p : Addr} {o : HO} (h : G p = none) : Sub G (upd G p o) := fun a u e => by
  rw [upd_ne (ne_of_none e h)]; exact e
mutual
theorem Rp.up {K : PySem.W.Frag} {G H : Hp} (e : Sub G H) : ∀ {v : V} {d : PyData}, Rp K G v d → Rp K H v d
  | _, _, .non => .non
  | _, _, .bl b => .bl b
  | _, _, .int i => .int i
  | _, _, .str x => .str x
  | _, _, .lst h k => .lst (e _ _ h) (RpL.up e k)
  | _, _, .tup h t k => .tup (e _ _ h) t (RpL.up e k)
  | _, _, .dct h => .dct (e _ _ h)
theorem RpL.up {K : PySem.W.Frag} {G H : Hp} (e : Sub G H) : ∀ {vs : List V} {ds : List PyData}, RpL K G vs ds → RpL K H vs ds
  | _, _, .nil => .nil
  | _, _, .cons h k => .cons (Rp.up e h) (RpL.up e k)
end
section
variable {K : PySem.W.Frag} {G : Hp}
theorem RpL.len : ∀ {vs : List V} {ds : List PyData}, RpL K G vs ds → vs.length = ds.length
  | _, _, .nil => rfl
  | _, _, .cons _ k => by rw [List.length_cons, List.length_cons, RpL.len k]
theorem RpL.at : ∀ {vs : List V} {ds : List PyData} {i : Nat} {d : PyData}, RpL K G vs ds → ds[i]? = some d → ∃ v, vs[i]? = some v ∧ Rp K G v d
  | _, _, _, _, .nil, e => by simp at e
  | _, _, 0, _, .cons h _, e => by
    simp at e; subst e; exact ⟨_, rfl, h⟩
  | _, _, i + 1, d, .cons _ k, e => by
    obtain ⟨v, h1, h2⟩ := RpL.at (i := i) (d := d) k (by simpa using e)
    exact ⟨v, by simpa using h1, h2⟩
theorem RpL.at' : ∀ {vs : List V} {ds : List PyData} {i : Nat} {v : V}, RpL K G vs ds → vs[i]? = some v → ∃ d, ds[i]? = some d ∧ Rp K G v d
  | _, _, _, _, .nil, e => by simp at e
  | _, _, 0, _, .cons h _, e => by
    simp at e; subst e; exact ⟨_, rfl, h⟩
  | _, _, i + 1, v, .cons _ k, e => by
    obtain ⟨d, h1, h2⟩ := RpL.at' (i := i) (v := v) k (by simpa using e)
    exact ⟨d, by simpa using h1, h2⟩
theorem RpL.app : ∀ {vs ws : List V} {ds es : List PyData}, RpL K G vs ds → RpL K G ws es → RpL K G (vs ++ ws) (ds ++ es)
  | _, _, _, _, .nil, k => k
  | _, _, _, _, .cons h r, k => .cons h (RpL.app r k)
theorem RpL.take : ∀ (n : Nat) {vs : List V} {ds : List PyData}, RpL K G vs ds → RpL K G (vs.take n) (ds.take n)
  | 0, _, _, _ => .nil
  | _ + 1, _, _, .nil => .nil
  | n + 1, _, _, .cons h k => .cons h (RpL.take n k)
theorem RpL.drop : ∀ (n : Nat) {vs : List V} {ds : List PyData}, RpL K G vs ds → RpL K G (vs.drop n) (ds.drop n)
  | 0, _, _, k => k
  | _ + 1, _, _, .nil => .nil
  | n + 1, _, _, .cons _ k => RpL.drop n k
theorem RpL.one {v : V} {d : PyData} (h : Rp K G v d) : RpL K G [v] [d] := .cons h .nil
theorem Rp.int_inv {v : V} {i : Int} (h : Rp K G v (.int i)) : v = .int i := by cases h; rfl
theorem Rp.bool_inv {v : V} {b : Bool} (h : Rp K G v (.bool b)) : v = .bl b := by cases h; rfl
theorem Rp.str_inv {v : V} {b : Str} (h : Rp K G v (.str b)) : v = .str b := by cases h; rfl
theorem Rp.none_inv {v : V} (h : Rp K G v .none) : v = .non := by cases h; rfl
theorem Rp.tup_inv {v : V} {ds : List PyData} (h : Rp K G v (.tuple ds)) : ∃ a vs, v = .ref a ∧ SqT K G a vs ∧ RpL K G vs ds := by
  cases h with
  | tup h t k => exact ⟨_, _, rfl, t.sq h, k⟩
theorem Rp.lst_inv {v : V} {ds : List PyData} (h : Rp K G v (.list ds)) : ∃ a vs, v = .ref a ∧ SqL K G a vs ∧ RpL K G vs ds := by
  cases h with
  | lst h k => exact ⟨_, _, rfl, .inl (.inl h), k⟩
theorem Rp.lst_raw {v : V} {ds : List PyData} (h : Rp K G v (.list ds)) : ∃ a vs, v = .ref a ∧ G a = some (.lst vs) ∧ RpL K G vs ds := by
  cases h with
  | lst h k => exact ⟨_, _, rfl, h, k⟩
theorem RpL.ints : ∀ {vs : List V} {is : List Int}, RpL K G vs (is.map PyData.int) → vs = is.map V.int
  | _, [], h => by cases h; rfl
  | _, i :: is, h => by
    cases h with
    | cons h k =>
      cases h
      rw [List.map_cons, ← RpL.ints (is := is) k]
theorem RpL.of_ints : ∀ (is : List Int), RpL K G (is.map V.int) (is.map PyData.int)
  | [] => .nil
  | i :: is => .cons (.int i) (RpL.of_ints is)
theorem RpL.bools : ∀ {vs : List V} {bs : List Bool}, RpL K G vs (bs.map PyData.bool) → vs = bs.map V.bl
  | _, [], h => by cases h; rfl
  | _, i :: is, h => by
    cases h with
    | cons h k =>
      cases h
      rw [List.map_cons, ← RpL.bools (bs := is) k]
end
/-! data without dicts: the kit's Dp -/
mutual
def noD : PyData → Bool
  | .dict _ => false
  | .list xs => noDs xs
  | .tuple xs => noDs xs
  | _ => true
def noDs : List PyData → Bool
  | [] => true
  | x :: xs => noD x && noDs xs
end
mutual
theorem Rp.dp {K : PySem.W.Frag} {G : Hp} : ∀ {d : PyData} {v : V}, Rp K G v d → noD d = true → Dp K G v d
  | .none, _, h, _ => by cases h; exact .non
  | .bool b, _, h, _ => by cases h; exact .bl b
  | .int i, _, h, _ => by cases h; exact .int i
  | .str x, _, h, _ => by cases h; exact .str x
  | .list ds, _, h, n => by
    cases h with
    | lst h k => exact .lst (.inl (.inl h)) (RpL.dps k (by simpa [noD] using n))
  | .tuple ds, _, h, n => by
    cases h with
    | tup h t k => exact .tup (t.sq h) (RpL.dps k (by simpa [noD] using n))
  | .dict _, _, _, n => by simp [noD] at n
theorem RpL.dps {K : PySem.W.Frag} {G : Hp} : ∀ {ds : List PyData} {vs : List V}, RpL K G vs ds → noDs ds = true → DpAll K G vs ds
  | [], _, h, _ => by cases h; exact .nil
  | d :: ds, _, h, n => by
    have n' : noD d = true ∧ noDs ds = true := by simpa [noDs] using n
    cases h with
    | cons h k => exact .cons (Rp.dp h n'.1) (RpL.dps k n'.2)
end
mutual
theorem dp_up {K : PySem.W.Frag} {G H : Hp} (e : Sub G H) : ∀ {d : PyData} {v : V}, Dp K G v d → Dp K H v d
  | .none, _, h => by cases h; exact .non
  | .bool b, _, h => by cases h; exact .bl b
  | .int i, _, h => by cases h; exact .int i
  | .str x, _, h => by cases h; exact .str x
  | .list ds, _, h => by
    cases h with
    | lst h k => exact .lst (e.l h) (dps_up e k)
  | .tuple ds, _, h => by
    cases h with
    | tup h k => exact .tup (e.t h) (dps_up e k)
  | .dict _, _, h => by cases h
theorem dps_up {K : PySem.W.Frag} {G H : Hp} (e : Sub G H) : ∀ {ds : List PyData} {vs : List V}, DpAll K G vs ds → DpAll K H vs ds
  | [], _, h => by cases h; exact .nil
  | d :: ds, _, h => by
    cases h with
    | cons h k => exact .cons (dp_up e h) (dps_up e k)
end
/-! ### worlds: what is tracked, and the part that never changes -/
structure Wd where
  G : Hp
  H : Hp
  ex : Sub G H
/-- a step that changes nothing that stood -/
structure Le (W U : Wd) : Prop where
  g : Sub W.G U.G
  h : Sub W.H U.H
  fr : ∀ a, W.H a ≠ none → W.G a = none → U.G a = none
/-- a step that changes at most the object at m -/
structure Dr (m : Addr) (W U : Wd) : Prop where
  g : Sub W.G U.G
  h : ∀ a o, a ≠ m → W.H a = some o → U.H a = some o
  fr : ∀ a, W.H a ≠ none → W.G a = none → U.G a = none
  mm : W.H m ≠ none → U.H m ≠ none
theorem Le.refl (W : Wd) : Le W W := ⟨Sub.rfl', Sub.rfl', fun _ _ h => h⟩
theorem Sub.some {G H : Hp} (e : Sub G H) {a : Addr} (h : G a ≠ none) : H a ≠ none := by
  cases q : G a with
  | none => exact absurd q h
  | some o => rw [e a o q]; simp
theorem Le.tr {A B C : Wd} (h : Le A B) (k : Le B C) : Le A C := ⟨h.g.tr k.g, h.h.tr k.h, fun a h1 h2 => k.fr a (h.h.some h1) (h.fr a h1 h2)⟩
theorem Le.dr {W U : Wd} (h : Le W U) (m : Addr) : Dr m W U := ⟨h.g, fun a o _ e => h.h a o e, h.fr, h.h.some⟩
theorem Dr.some {m : Addr} {W U : Wd} (h : Dr m W U) {a : Addr} (q : W.H a ≠ none) : U.H a ≠ none := by
  by_cases e : a = m
  · rw [e] at q ⊢; exact h.mm q
  · cases r : W.H a with
    | none => exact absurd r q
    | some o => rw [h.h a o e r]; simp
theorem Dr.tr {m : Addr} {A B C : Wd} (h : Dr m A B) (k : Dr m B C) : Dr m A C :=
  ⟨h.g.tr k.g, fun a o e q => k.h a o e (h.h a o e q), fun a h1 h2 => k.fr a (h.some h1) (h.fr a h1 h2), fun q => k.mm (h.mm q)⟩
/-- a new object that never changes -/
def Wd.add (W : Wd) (p : Addr) (o : HO) (hp : W.H p = none) : Wd := ⟨upd W.G p o, upd W.H p o, fun a u e => by
  by_cases h : a = p
  · subst h; rw [upd_same] at e ⊢; exact e
  · rw [upd_ne h] at e ⊢; exact W.ex a u e⟩
theorem Wd.gnone (W : Wd) {p : Addr} (hp : W.H p = none) : W.G p = none := by
  cases q : W.G p with
  | none => rfl
  | some o => rw [W.ex p o q] at hp; cases hp
theorem Wd.add_le (W : Wd) {p : Addr} {o : HO} (hp : W.H p = none) : Le W (W.add p o hp) :=
  ⟨Sub.new (W.gnone hp), Sub.new hp, fun a h1 h2 => by
    show upd W.G p o a = none
    rw [upd_ne (fun e => h1 (by rw [e]; exact hp))]; exact h2⟩
/-- an object that may change -/
def Wd.put (W : Wd) (p : Addr) (o : HO) (hg : W.G p = none) : Wd := ⟨W.G, upd W.H p o, fun a u e => by
  rw [upd_ne (ne_of_none e hg)]; exact W.ex a u e⟩
/-- from now on it never changes -/
def Wd.frz (W : Wd) (p : Addr) (o : HO) (hh : W.H p = some o) : Wd := ⟨upd W.G p o, W.H, fun a u e => by
  by_cases h : a = p
  · subst h; rw [upd_same] at e; rw [hh]; exact e
  · rw [upd_ne h] at e; exact W.ex a u e⟩
theorem Wd.put_le {W U : Wd} {p : Addr} {o : HO} {hg : U.G p = none} (h : Le W U) (hp : W.H p = none) : Le W (U.put p o hg) :=
  ⟨h.g, fun a u e => by
    show upd U.H p o a = some u
    rw [upd_ne (ne_of_none e hp)]; exact h.h a u e, h.fr⟩
theorem Wd.put_dr {m : Addr} {W U : Wd} {p : Addr} {o : HO} {hg : U.G p = none} (h : Dr m W U) (hp : W.H p = none) : Dr m W (U.put p o hg) :=
  ⟨h.g, fun a u n e => by
    show upd U.H p o a = some u
    rw [upd_ne (ne_of_none e hp)]; exact h.h a u n e, h.fr, fun q => by
    show upd U.H p o m ≠ none
    by_cases e : m = p
    · rw [e] at q; exact absurd hp q
    · rw [upd_ne e]; exact h.mm q⟩
theorem Wd.frz_le {W U : Wd} {p : Addr} {o : HO} {hh : U.H p = some o} (h : Le W U) (hp : W.H p = none) (hg : U.G p = none) : Le W (U.frz p o hh) :=
  ⟨h.g.tr (Sub.new hg), h.h, fun a h1 h2 => by
    show upd U.G p o a = none
    rw [upd_ne (fun e => h1 (by rw [e]; exact hp))]; exact h.fr a h1 h2⟩
theorem Wd.frz_dr {m : Addr} {W U : Wd} {p : Addr} {o : HO} {hh : U.H p = some o} (h : Dr m W U) (hp : W.H p = none) (hg : U.G p = none) : Dr m W (U.frz p o hh) :=
  ⟨h.g.tr (Sub.new hg), h.h, fun a h1 h2 => by
    show upd U.G p o a = none
    rw [upd_ne (fun e => h1 (by rw [e]; exact hp))]; exact h.fr a h1 h2, h.mm⟩
theorem Wd.frz_g {W : Wd} {p : Addr} {o : HO} {hh : W.H p = some o} (hg : W.G p = none) : Sub W.G (W.frz p o hh).G := Sub.new hg
/-! ### slots -/
/-- what a name holds: data, or the very value -/
inductive Sl where
  | d (x : PyData) | v (x : V)
abbrev Sd := List (Option Sl)
def SlOk (K : PySem.W.Frag) (G : Hp) (v : V) : Sl → Prop
  | .d x => Rp K G v x
  | .v w => v = w
structure SRep (K : PySem.W.Frag) (G : Hp) (σ : St) (δ : Sd) : Prop where
  len : σ.length = δ.length
  at_ : ∀ (i : Nat) s, δ[i]? = some (some s) → ∃ v, σ[i]? = some (some v) ∧ SlOk K G v s
section
variable {K : PySem.W.Frag} {G H : Hp} {σ : St} {δ : Sd}
theorem SlOk.up (e : Sub G H) {v : V} {s : Sl} (h : SlOk K G v s) : SlOk K H v s := by
  cases s with
  | d x => exact Rp.up e h
  | v w => exact h
theorem SRep.up (e : Sub G H) (h : SRep K G σ δ) : SRep K H σ δ := ⟨h.len, fun i s q => by
  obtain ⟨v, a, b⟩ := h.at_ i s q
  exact ⟨v, a, b.up e⟩⟩
theorem SRep.set (h : SRep K G σ δ) {v : V} {s : Sl} (k : SlOk K G v s) (i : Nat) : SRep K G (σ.set i (some v)) (δ.set i (some s)) := ⟨by rw [List.length_set, List.length_set, h.len], fun j t q => by
  by_cases e : i = j
  · subst e
    by_cases hi : i < δ.length
    · rw [List.getElem?_set_self hi] at q
      have e2 : s = t := Option.some.inj (Option.some.inj q)
      subst e2
      exact ⟨v, List.getElem?_set_self (by rw [h.len]; exact hi), k⟩
    · rw [List.getElem?_eq_none (by rw [List.length_set]; omega)] at q
      cases q
  · rw [List.getElem?_set_ne e] at q
    obtain ⟨u, a, b⟩ := h.at_ j t q
    exact ⟨u, by rw [List.getElem?_set_ne e]; exact a, b⟩⟩
def wipeD (δ : Sd) : List Nat → Sd
  | [] => δ
  | v :: vs => (wipeD δ vs).set v none
theorem SRep.wipe (h : SRep K G σ δ) : ∀ vs : List Nat, SRep K G (L2.wipe σ vs) (wipeD δ vs)
  | [] => h
  | v :: vs => by
    have ih := SRep.wipe h vs
    refine ⟨?_, fun j t q => ?_⟩
    · show (List.set _ _ _).length = (List.set _ _ _).length
      rw [List.length_set, List.length_set, ih.len]
    · have q' : ((wipeD δ vs).set v none)[j]? = some (some t) := q
      by_cases e : v = j
      · subst e
        by_cases hi : v < (wipeD δ vs).length
        · rw [List.getElem?_set_self hi] at q'; cases q'
        · rw [List.getElem?_eq_none (by rw [List.length_set]; omega)] at q'; cases q'
      · rw [List.getElem?_set_ne e] at q'
        obtain ⟨u, a, b⟩ := ih.at_ j t q'
        refine ⟨u, ?_, b⟩
        show ((L2.wipe σ vs).set v none)[j]? = some (some u)
        rw [List.getElem?_set_ne e]; exact a
/-- forgetting -/
theorem SRep.weak {δ' : Sd} (h : SRep K G σ δ) (hl : δ'.length = δ.length) (k : ∀ (i : Nat) (s : Sl), δ'[i]? = some (some s) → δ[i]? = some (some s)) : SRep K G σ δ' :=
  ⟨h.len.trans hl.symm, fun i s q => h.at_ i s (k i s q)⟩
end
/-! ### readings by meaning -/
section
variable (X : Cx)
@[irreducible] def wE (e : Expr) : TE := fun σ H Q => ∀ (pins : List (Addr × Obj)) (s : Shared), Inv X pins σ H s → wpAny (model X.prog X.w) X.A (eval e X.env) (EP X pins σ Q) X.xe s
@[irreducible] def wT (e : Expr) : TT := fun σ H Q => ∀ (pins : List (Addr × Obj)) (s : Shared), Inv X pins σ H s → wpAny (model X.prog X.w) X.A (isTrue e X.env (eval e X.env)) (TP X pins σ Q) X.xe s
@[irreducible] def wA (es : List Expr) : TA := fun σ H Q => ∀ (pos : Pos) (pins : List (Addr × Obj)) (s : Shared), Inv X pins σ H s → wpAny (model X.prog X.w) X.A (spliced (backTo pos (starEach es X.env))) (AP X pins σ Q) X.xe s
@[irreducible] def wS (st : Stmt) : TS := fun D σ H => ∀ (pins : List (Addr × Obj)) (s : Shared), Inv X pins σ H s → wpAny (model X.prog X.w) X.A (exec st X.env) (SP X pins D) X.xe s
@[irreducible] def wB (st : List Stmt) : TS := fun D σ H => ∀ (pins : List (Addr × Obj)) (s : Shared), Inv X pins σ H s → wpAny (model X.prog X.w) X.A (execs st X.env) (SP X pins D) X.xe s
theorem wE.run {e : Expr} {σ : St} {H : Hp} {Q : VK} (h : wE X e σ H Q) : ∀ (pins : List (Addr × Obj)) (s : Shared), Inv X pins σ H s → wpAny (model X.prog X.w) X.A (eval e X.env) (EP X pins σ Q) X.xe s := by unfold wE at h; exact h
theorem wE.mk {e : Expr} {σ : St} {H : Hp} {Q : VK} (h : ∀ (pins : List (Addr × Obj)) (s : Shared), Inv X pins σ H s → wpAny (model X.prog X.w) X.A (eval e X.env) (EP X pins σ Q) X.xe s) : wE X e σ H Q := by unfold wE; exact h
theorem wT.run {e : Expr} {σ : St} {H : Hp} {Q : Bool → Hp → Prop} (h : wT X e σ H Q) : ∀ (pins : List (Addr × Obj)) (s : Shared), Inv X pins σ H s → wpAny (model X.prog X.w) X.A (isTrue e X.env (eval e X.env)) (TP X pins σ Q) X.xe s := by unfold wT at h; exact h
theorem wT.mk {e : Expr} {σ : St} {H : Hp} {Q : Bool → Hp → Prop} (h : ∀ (pins : List (Addr × Obj)) (s : Shared), Inv X pins σ H s → wpAny (model X.prog X.w) X.A (isTrue e X.env (eval e X.env)) (TP X pins σ Q) X.xe s) : wT X e σ H Q := by unfold wT; exact h
theorem wA.run {es : List Expr} {σ : St} {H : Hp} {Q : List V → Hp → Prop} (h : wA X es σ H Q) : ∀ (pos : Pos) (pins : List (Addr × Obj)) (s : Shared), Inv X pins σ H s → wpAny (model X.prog X.w) X.A (spliced (backTo pos (starEach es X.env))) (AP X pins σ Q) X.xe s := by unfold wA at h; exact h
theorem wA.mk {es : List Expr} {σ : St} {H : Hp} {Q : List V → Hp → Prop} (h : ∀ (pos : Pos) (pins : List (Addr × Obj)) (s : Shared), Inv X pins σ H s → wpAny (model X.prog X.w) X.A (spliced (backTo pos (starEach es X.env))) (AP X pins σ Q) X.xe s) : wA X es σ H Q := by unfold wA; exact h
theorem wS.run {st : Stmt} {D : Ends} {σ : St} {H : Hp} (h : wS X st D σ H) : ∀ (pins : List (Addr × Obj)) (s : Shared), Inv X pins σ H s → wpAny (model X.prog X.w) X.A (exec st X.env) (SP X pins D) X.xe s := by unfold wS at h; exact h
theorem wS.mk {st : Stmt} {D : Ends} {σ : St} {H : Hp} (h : ∀ (pins : List (Addr × Obj)) (s : Shared), Inv X pins σ H s → wpAny (model X.prog X.w) X.A (exec st X.env) (SP X pins D) X.xe s) : wS X st D σ H := by unfold wS; exact h
theorem wB.run {st : List Stmt} {D : Ends} {σ : St} {H : Hp} (h : wB X st D σ H) : ∀ (pins : List (Addr × Obj)) (s : Shared), Inv X pins σ H s → wpAny (model X.prog X.w) X.A (execs st X.env) (SP X pins D) X.xe s := by unfold wB at h; exact h
theorem wB.mk {st : List Stmt} {D : Ends} {σ : St} {H : Hp} (h : ∀ (pins : List (Addr × Obj)) (s : Shared), Inv X pins σ H s → wpAny (model X.prog X.w) X.A (execs st X.env) (SP X pins D) X.xe s) : wB X st D σ H := by unfold wB; exact h
theorem pe_w (e : Expr) : PE X e (wE X e) := ⟨fun pins s _ _ _ I h => h.run X pins s I⟩
theorem pt_w (e : Expr) : PT X e (wT X e) := ⟨fun pins s _ _ _ I h => h.run X pins s I⟩
theorem pa_w (e : List Expr) : PA X e (wA X e) := ⟨fun pos pins s _ _ _ I h => h.run X pos pins s I⟩
theorem ps_w (e : Stmt) : PS X e (wS X e) := ⟨fun pins s _ _ _ I h => h.run X pins s I⟩
theorem pb_w (e : List Stmt) : PSs X e (wB X e) := ⟨fun pins s _ _ _ I h => h.run X pins s I⟩
end
section
variable {X : Cx}
theorem _root_.L2.PE.w {e : Expr} {t : TE} (p : PE X e t) {σ : St} {H : Hp} {Q : VK} (h : t σ H Q) : wE X e σ H Q := wE.mk X fun pins s I => p.run pins s σ H Q I h
theorem _root_.L2.PT.w {e : Expr} {t : TT} (p : PT X e t) {σ : St} {H : Hp} {Q : Bool → Hp → Prop} (h : t σ H Q) : wT X e σ H Q := wT.mk X fun pins s I => p.run pins s σ H Q I h
theorem _root_.L2.PA.w {e : List Expr} {t : TA} (p : PA X e t) {σ : St} {H : Hp} {Q : List V → Hp → Prop} (h : t σ H Q) : wA X e σ H Q := wA.mk X fun pos pins s I => p.run pos pins s σ H Q I h
theorem _root_.L2.PS.w {e : Stmt} {t : TS} (p : PS X e t) {D : Ends} {σ : St} {H : Hp} (h : t D σ H) : wS X e D σ H := wS.mk X fun pins s I => p.run pins s σ H D I h
theorem _root_.L2.PSs.w {e : List Stmt} {t : TS} (p : PSs X e t) {D : Ends} {σ : St} {H : Hp} (h : t D σ H) : wB X e D σ H := wB.mk X fun pins s I => p.run pins s σ H D I h
theorem wE.imp {e : Expr} {σ : St} {H : Hp} {Q Q' : VK} (h : wE X e σ H Q) (k : ∀ v H', Q v H' → Q' v H') : wE X e σ H Q' := wE.mk X fun pins s I =>
  thn (h.run X pins s I) fun _ _ ⟨v, H', a, b, c⟩ => ⟨v, H', a, b, k v H' c⟩
end
/-! ### the judgements over data -/
/-- the facts of a context that every rule may use -/
class Good (K : outParam PySem.W.Frag) (X : Cx) : Prop where
  hK : X.K = K
  calm : X.calm = true
  nd : X.N.Nodup
  room : Room 0 X.A
  bn : ∀ x ∈ (["isinstance", "int", "bool", "tuple", "all", "zip", "range", "len", "sum", "enumerate", "dict", "list", "repr", "sorted", "set", "max", "min"] : List Str), X.mg x = none
section
variable (K : PySem.W.Frag) (X : Cx) (δ : Sd)
/-- the expression gives d, and changes nothing -/
def EvE (e : Expr) (W : Wd) (d : PyData) : Prop := ∀ U, Le W U → ∀ σ, SRep K U.G σ δ → ∀ Q : VK, (∀ v Z, Le U Z → Rp K Z.G v d → Q v Z.H) → wE X e σ U.H Q
def EvT (e : Expr) (W : Wd) (b : Bool) : Prop := ∀ U, Le W U → ∀ σ, SRep K U.G σ δ → ∀ Q : Bool → Hp → Prop, (∀ Z, Le U Z → Q b Z.H) → wT X e σ U.H Q
def EvA (es : List Expr) (W : Wd) (ds : List PyData) : Prop := ∀ U, Le W U → ∀ σ, SRep K U.G σ δ → ∀ Q : List V → Hp → Prop, (∀ vs Z, Le U Z → RpL K Z.G vs ds → Q vs Z.H) → wA X es σ U.H Q
/-- the expression is run; Post of what it gives and the world behind it -/
def WE (e : Expr) (W : Wd) (Post : PyData → Wd → Prop) : Prop := ∀ σ, SRep K W.G σ δ → ∀ Q : VK, (∀ v d Z, Sub W.G Z.G → Rp K Z.G v d → Post d Z → Q v Z.H) → wE X e σ W.H Q
def WT (e : Expr) (W : Wd) (Post : Bool → Wd → Prop) : Prop := ∀ σ, SRep K W.G σ δ → ∀ Q : Bool → Hp → Prop, (∀ b Z, Sub W.G Z.G → Post b Z → Q b Z.H) → wT X e σ W.H Q
def WA (es : List Expr) (W : Wd) (Post : List PyData → Wd → Prop) : Prop := ∀ σ, SRep K W.G σ δ → ∀ Q : List V → Hp → Prop, (∀ vs ds Z, Sub W.G Z.G → RpL K Z.G vs ds → Post ds Z → Q vs Z.H) → wA X es σ W.H Q
end
structure Po where
  nx : Sd → Wd → Prop
  rt : PyData → Wd → Prop
  bk : Sd → Wd → Prop := fun _ _ => False
  ct : Sd → Wd → Prop := fun _ _ => False
def Po.ends (K : PySem.W.Frag) (P : Po) : Ends where
  nx := fun σ H => ∃ δ W, H = W.H ∧ SRep K W.G σ δ ∧ P.nx δ W
  rt := fun v H => ∃ d W, H = W.H ∧ Rp K W.G v d ∧ P.rt d W
  bk := fun σ H => ∃ δ W, H = W.H ∧ SRep K W.G σ δ ∧ P.bk δ W
  ct := fun σ H => ∃ δ W, H = W.H ∧ SRep K W.G σ δ ∧ P.ct δ W
def WB (K : PySem.W.Frag) (X : Cx) (δ : Sd) (ss : List Stmt) (W : Wd) (P : Po) : Prop := ∀ σ, SRep K W.G σ δ → wB X ss (P.ends K) σ W.H
def WS (K : PySem.W.Frag) (X : Cx) (δ : Sd) (st : Stmt) (W : Wd) (P : Po) : Prop := ∀ σ, SRep K W.G σ δ → wS X st (P.ends K) σ W.H
section
variable {K : PySem.W.Frag} {X : Cx} {δ : Sd} {W U : Wd}
theorem EvE.up {e : Expr} {d : PyData} (h : EvE K X δ e W d) (k : Le W U) : EvE K X δ e U d := fun Z l => h Z (k.tr l)
theorem EvT.up {e : Expr} {b : Bool} (h : EvT K X δ e W b) (k : Le W U) : EvT K X δ e U b := fun Z l => h Z (k.tr l)
theorem EvA.up {e : List Expr} {d : List PyData} (h : EvA K X δ e W d) (k : Le W U) : EvA K X δ e U d := fun Z l => h Z (k.tr l)
theorem EvE.cast {e : Expr} {d d' : PyData} (h : EvE K X δ e W d) (q : d = d') : EvE K X δ e W d' := q ▸ h
theorem EvT.cast {e : Expr} {d d' : Bool} (h : EvT K X δ e W d) (q : d = d') : EvT K X δ e W d' := q ▸ h
theorem we_ev {e : Expr} {d : PyData} {Post : PyData → Wd → Prop} (h : EvE K X δ e W d) (k : ∀ U, Le W U → Post d U) : WE K X δ e W Post :=
  fun σ r Q q => h W (Le.refl W) σ r Q fun v Z l rp => q v d Z l.g rp (k Z l)
theorem wt_ev {e : Expr} {b : Bool} {Post : Bool → Wd → Prop} (h : EvT K X δ e W b) (k : ∀ U, Le W U → Post b U) : WT K X δ e W Post :=
  fun σ r Q q => h W (Le.refl W) σ r Q fun Z l => q b Z l.g (k Z l)
theorem wa_ev {e : List Expr} {b : List PyData} {Post : List PyData → Wd → Prop} (h : EvA K X δ e W b) (k : ∀ U, Le W U → Post b U) : WA K X δ e W Post :=
  fun σ r Q q => h W (Le.refl W) σ r Q fun vs Z l rp => q vs b Z l.g rp (k Z l)
theorem WE.imp {e : Expr} {P Q : PyData → Wd → Prop} (h : WE K X δ e W P) (k : ∀ d U, Sub W.G U.G → P d U → Q d U) : WE K X δ e W Q :=
  fun σ r R q => h σ r R fun v d Z g rp p => q v d Z g rp (k d Z g p)
/-- a run whose end is known, as an evaluation -/
theorem ev_of {e : Expr} {d : PyData} (h : ∀ U, Le W U → WE K X δ e U fun d' Z => d' = d ∧ Le U Z) : EvE K X δ e W d :=
  fun U l σ r Q q => h U l σ r Q fun v d' Z _ rp ⟨e1, l2⟩ => q v Z l2 (e1 ▸ rp)
end
end Pk
set_option Elab.async false
set_option linter.all false
set_option maxRecDepth 100000
set_option maxHeartbeats 4000000
namespace Pk
open PySem PySem.Spec L2
open PyProof.Rows hiding St
section
variable {K : PySem.W.Frag} {X : Cx} [g : Good K X] {δ : Sd} {W U : Wd} {a b c e : Expr} {es : List Expr} {pos : Pos} {d d1 d2 d3 : PyData}
/-! ### names, constants -/
theorem ev_v (i : Nat) {x : Str} {p : Pos} (h : δ[i]? = some (some (.d d)) := by rfl) (hN : X.N[i]? = some x := by rfl) (hv : Vis X.env.scope x := by first | exact Or.inl rfl | exact Or.inr (Or.inl rfl) | exact Or.inr (Or.inr rfl))
    (hd : (x == ("__debug__" : Str)) = false := by decide) (hcd : (x == ("__classdict__" : Str)) = false := by decide) : EvE K X δ (.Name x p) W d := fun U l σ r Q q => by
  obtain ⟨v, e1, e2⟩ := r.at_ i _ h
  exact (pe_var hN hv hd hcd).w ⟨v, e1, q v U (Le.refl U) e2⟩
theorem ev_int {i : Int} {j} {p : Pos} : EvE K X δ (.Constant (.int i) j p) W (.int i) := fun U l σ r Q q => pe_int.w (q _ U (Le.refl U) (.int i))
theorem ev_str {i : Str} {j} {p : Pos} : EvE K X δ (.Constant (.str i) j p) W (.str i) := fun U l σ r Q q => pe_str.w (q _ U (Le.refl U) (.str i))
theorem ev_bl {i : Bool} {j} {p : Pos} : EvE K X δ (.Constant (.bool i) j p) W (.bool i) := fun U l σ r Q q => pe_bl.w (q _ U (Le.refl U) (.bl i))
theorem ev_non {j} {p : Pos} : EvE K X δ (.Constant .none j p) W .none := fun U l σ r Q q => pe_non.w (q _ U (Le.refl U) .non)
/-- an int that the module's top has named -/
theorem ev_gint {x : Str} {p : Pos} {i : Int} (hm : ∃ t, X.mg x = some (.int i t)) (hg : Gl X x := by rfl) (hd : (x == ("__debug__" : Str)) = false := by decide) : EvE K X δ (.Name x p) W (.int i) := fun U l σ r Q q => by
  obtain ⟨t, h⟩ := hm
  exact (pe_glob (v := .int i) hg h ⟨t, rfl⟩ hd).w (q _ U (Le.refl U) (.int i))
theorem ev_gref {x : Str} {p : Pos} {q0 : Addr} (hm : X.mg x = some (.ref q0)) (hr : ∀ G, Rp K G (.ref q0) d) (hg : Gl X x := by rfl) (hd : (x == ("__debug__" : Str)) = false := by decide) : EvE K X δ (.Name x p) W d := fun U l σ r Q q =>
  (pe_glob (v := .ref q0) hg hm rfl hd).w (q _ U (Le.refl U) (hr _))
/-! ### operators -/
theorem ev_un {op : UnaryOp} {r : V → Hp → VK → Prop} (ho : UnR X (unaryOp op) r) (ha : EvE K X δ a W d1)
    (h : ∀ U x, Le W U → Rp K U.G x d1 → ∀ Q : VK, (∀ v Z, Le U Z → Rp K Z.G v d → Q v Z.H) → r x U.H Q) : EvE K X δ (.UnaryOp op a pos) W d := fun U l σ s Q q =>
  (pe_un ho (pe_w X a)).w (ha U l σ s _ fun x Z l2 rx => h Z x (l.tr l2) rx Q fun v Y l3 rv => q v Y (l2.tr l3) rv)
theorem ev_op {op : Operator} {r : R2} (ho : OpR X (binaryOp op) r) (ha : EvE K X δ a W d1) (hb : EvE K X δ b W d2)
    (h : ∀ U x y, Le W U → Rp K U.G x d1 → Rp K U.G y d2 → ∀ Q : VK, (∀ v Z, Le U Z → Rp K Z.G v d → Q v Z.H) → r x y U.H Q) : EvE K X δ (.BinOp a op b pos) W d := fun U l σ s Q q =>
  (pe_op ho (pe_w X a) (pe_w X b)).w (ha U l σ s _ fun x Z l2 rx => hb Z (l.tr l2) σ (s.up l2.g) _ fun y Y l3 ry =>
    h Y x y ((l.tr l2).tr l3) (rx.up l3.g) ry Q fun v Y2 l4 rv => q v Y2 ((l2.tr l3).tr l4) rv)
theorem ev_cmp {op : CmpOp} {r : R2} (ho : OpR X (compareOp op) r) (ha : EvE K X δ a W d1) (hb : EvE K X δ b W d2) (hm : behindInMarks op b = false)
    (h : ∀ U x y, Le W U → Rp K U.G x d1 → Rp K U.G y d2 → ∀ Q : VK, (∀ v Z, Le U Z → Rp K Z.G v d → Q v Z.H) → r x y U.H Q) : EvE K X δ (.Compare a [op] [b] pos) W d := fun U l σ s Q q =>
  (pe_cmpR ho (pe_w X a) (pe_w X b) hm).w (ha U l σ s _ fun x Z l2 rx => hb Z (l.tr l2) σ (s.up l2.g) _ fun y Y l3 ry =>
    h Y x y ((l.tr l2).tr l3) (rx.up l3.g) ry Q fun v Y2 l4 rv => q v Y2 ((l2.tr l3).tr l4) rv)
theorem et_cmp {op : CmpOp} {r : R2} {t : Bool} (ho : OpR X (compareOp op) r) (ha : EvE K X δ a W d1) (hb : EvE K X δ b W d2) (hm : behindInMarks op b = false)
    (h : ∀ U x y, Le W U → Rp K U.G x d1 → Rp K U.G y d2 → ∀ Q : VK, (∀ v Z, Le U Z → Rp K Z.G v (.bool t) → Q v Z.H) → r x y U.H Q) : EvT K X δ (.Compare a [op] [b] pos) W t := fun U l σ s Q q =>
  (pt_cmpR ho (pe_w X a) (pe_w X b) hm).w (ha U l σ s _ fun x Z l2 rx => hb Z (l.tr l2) σ (s.up l2.g) _ fun y Y l3 ry =>
    h Y x y ((l.tr l2).tr l3) (rx.up l3.g) ry _ fun v Y2 l4 rv => ⟨t, rv.bool_inv, q Y2 ((l2.tr l3).tr l4)⟩)
theorem ev_chain {op op' : CmpOp} {r r' : R2} {t u : Bool} (ho : OpR X (compareOp op) r) (ho' : OpR X (compareOp op') r') (ha : EvE K X δ a W d1) (hb : EvE K X δ b W d2) (hc : t = true → EvE K X δ c W d3)
    (h : ∀ U x y, Le W U → Rp K U.G x d1 → Rp K U.G y d2 → ∀ Q : VK, (∀ v Z, Le U Z → Rp K Z.G v (.bool t) → Q v Z.H) → r x y U.H Q)
    (h' : t = true → ∀ U x y, Le W U → Rp K U.G x d2 → Rp K U.G y d3 → ∀ Q : VK, (∀ v Z, Le U Z → Rp K Z.G v (.bool u) → Q v Z.H) → r' x y U.H Q)
    (hm : lastMarks [op, op'] [b, c] = false := by with_unfolding_all rfl) : EvE K X δ (.Compare a [op, op'] [b, c] pos) W (.bool (t && u)) := fun U l σ s Q q =>
  (pe_chain ho ho' (pe_w X a) (pe_w X b) (pe_w X c) hm).w (ha U l σ s _ fun x Z l2 rx => hb Z (l.tr l2) σ (s.up l2.g) _ fun y Y l3 ry =>
    h Y x y ((l.tr l2).tr l3) (rx.up l3.g) ry _ fun v Y2 l4 rv => ⟨t, rv.bool_inv, by
      have l5 := (l2.tr l3).tr l4
      cases t with
      | true =>
        rw [if_pos rfl]
        exact hc rfl Y2 (l.tr l5) σ (s.up l5.g) _ fun z Y3 l6 rz => h' rfl Y3 y z ((l.tr l5).tr l6) (ry.up (l4.tr l6).g) rz Q fun w Y4 l7 rw' => q w Y4 ((l5.tr l6).tr l7) rw'
      | false =>
        rw [if_neg (by decide)]
        exact q _ Y2 l5 (.bl false)⟩)
theorem et_chain {op op' : CmpOp} {r r' : R2} {t u : Bool} (ho : OpR X (compareOp op) r) (ho' : OpR X (compareOp op') r') (ha : EvE K X δ a W d1) (hb : EvE K X δ b W d2) (hc : t = true → EvE K X δ c W d3)
    (h : ∀ U x y, Le W U → Rp K U.G x d1 → Rp K U.G y d2 → ∀ Q : VK, (∀ v Z, Le U Z → Rp K Z.G v (.bool t) → Q v Z.H) → r x y U.H Q)
    (h' : t = true → ∀ U x y, Le W U → Rp K U.G x d2 → Rp K U.G y d3 → ∀ Q : VK, (∀ v Z, Le U Z → Rp K Z.G v (.bool u) → Q v Z.H) → r' x y U.H Q)
    (hm : lastMarks [op, op'] [b, c] = false := by with_unfolding_all rfl) : EvT K X δ (.Compare a [op, op'] [b, c] pos) W (t && u) := fun U l σ s Q q =>
  (pt_chain ho ho' (pe_w X a) (pe_w X b) (pe_w X c) hm).w (ha U l σ s _ fun x Z l2 rx => hb Z (l.tr l2) σ (s.up l2.g) _ fun y Y l3 ry =>
    h Y x y ((l.tr l2).tr l3) (rx.up l3.g) ry _ fun v Y2 l4 rv => ⟨t, rv.bool_inv, by
      have l5 := (l2.tr l3).tr l4
      cases t with
      | true =>
        rw [if_pos rfl]
        exact hc rfl Y2 (l.tr l5) σ (s.up l5.g) _ fun z Y3 l6 rz => h' rfl Y3 y z ((l.tr l5).tr l6) (ry.up (l4.tr l6).g) rz _ fun w Y4 l7 rw' => ⟨u, rw'.bool_inv, q Y4 ((l5.tr l6).tr l7)⟩
      | false =>
        rw [if_neg (by decide)]
        exact ⟨false, rfl, q Y2 l5⟩⟩)
theorem rI0_go {f : Int → Int → V} {i j : Int} {U : Wd} {x y : V} (rx : Rp K U.G x (.int i)) (ry : Rp K U.G y (.int j)) {d : PyData} (hf : ∀ G, Rp K G (f i j) d) (Q : VK) (q : ∀ v Z, Le U Z → Rp K Z.G v d → Q v Z.H) : rI0 f x y U.H Q :=
  ⟨i, j, rx.int_inv, ry.int_inv, q _ U (Le.refl U) (hf _)⟩
theorem rI_go {C : Int → Int → Prop} {f : Int → Int → V} {i j : Int} {U : Wd} {x y : V} (hC : C i j) (rx : Rp K U.G x (.int i)) (ry : Rp K U.G y (.int j)) {d : PyData} (hf : ∀ G, Rp K G (f i j) d) (Q : VK) (q : ∀ v Z, Le U Z → Rp K Z.G v d → Q v Z.H) : rI C f x y U.H Q :=
  ⟨i, j, rx.int_inv, ry.int_inv, hC, q _ U (Le.refl U) (hf _)⟩
theorem ev_neg {i : Int} (ha : EvE K X δ a W (.int i)) : EvE K X δ (.UnaryOp .USub a pos) W (.int (-i)) := ev_un un_neg ha fun U x l rx Q q => ⟨i, rx.int_inv, q _ U (Le.refl U) (.int _)⟩
theorem ev_add {i j : Int} (ha : EvE K X δ a W (.int i)) (hb : EvE K X δ b W (.int j)) : EvE K X δ (.BinOp a .Add b pos) W (.int (i + j)) := ev_op op_add ha hb fun U x y l rx ry => rI0_go rx ry fun _ => .int _
theorem ev_sub {i j : Int} (ha : EvE K X δ a W (.int i)) (hb : EvE K X δ b W (.int j)) : EvE K X δ (.BinOp a .Sub b pos) W (.int (i - j)) := ev_op op_sub ha hb fun U x y l rx ry => rI0_go rx ry fun _ => .int _
theorem ev_mul {i j : Int} (ha : EvE K X δ a W (.int i)) (hb : EvE K X δ b W (.int j)) (h : CMul i j) : EvE K X δ (.BinOp a .Mult b pos) W (.int (i * j)) := ev_op op_mul ha hb fun U x y l rx ry => rI_go h rx ry fun _ => .int _
theorem ev_mod {i j : Int} (ha : EvE K X δ a W (.int i)) (hb : EvE K X δ b W (.int j)) (h : 0 < j) : EvE K X δ (.BinOp a .Mod b pos) W (.int (i % j)) := ev_op op_mod ha hb fun U x y l rx ry => rI_go (C := fun _ j => 0 < j) (f := fun i j => .int (i % j)) h rx ry fun _ => .int _
theorem ev_div {i j : Int} (ha : EvE K X δ a W (.int i)) (hb : EvE K X δ b W (.int j)) (h : 0 < j ∧ j < 1073741824) : EvE K X δ (.BinOp a .FloorDiv b pos) W (.int (i / j)) := ev_op op_fdiv ha hb fun U x y l rx ry => rI_go h rx ry fun _ => .int _
theorem ev_pow {i j : Int} (ha : EvE K X δ a W (.int i)) (hb : EvE K X δ b W (.int j)) (h : 0 ≤ j ∧ j ≤ 1000000 ∧ i.natAbs < 2 ^ 64) : EvE K X δ (.BinOp a .Pow b pos) W (.int (i ^ j.toNat)) := ev_op op_pow ha hb fun U x y l rx ry => rI_go h rx ry fun _ => .int _
theorem ev_lt {i j : Int} (ha : EvE K X δ a W (.int i)) (hb : EvE K X δ b W (.int j)) : EvE K X δ (.Compare a [.Lt] [b] pos) W (.bool (decide (i < j))) := ev_cmp op_lt ha hb (nomark _) fun U x y l rx ry => rI0_go rx ry fun _ => .bl _
theorem ev_le {i j : Int} (ha : EvE K X δ a W (.int i)) (hb : EvE K X δ b W (.int j)) : EvE K X δ (.Compare a [.LtE] [b] pos) W (.bool (decide (i ≤ j))) := ev_cmp op_le ha hb (nomark _) fun U x y l rx ry => rI0_go rx ry fun _ => .bl _
theorem et_lt {i j : Int} (ha : EvE K X δ a W (.int i)) (hb : EvE K X δ b W (.int j)) : EvT K X δ (.Compare a [.Lt] [b] pos) W (decide (i < j)) := et_cmp op_lt ha hb (nomark _) fun U x y l rx ry => rI0_go rx ry fun _ => .bl _
theorem et_le {i j : Int} (ha : EvE K X δ a W (.int i)) (hb : EvE K X δ b W (.int j)) : EvT K X δ (.Compare a [.LtE] [b] pos) W (decide (i ≤ j)) := et_cmp op_le ha hb (nomark _) fun U x y l rx ry => rI0_go rx ry fun _ => .bl _
theorem et_gt {i j : Int} (ha : EvE K X δ a W (.int i)) (hb : EvE K X δ b W (.int j)) : EvT K X δ (.Compare a [.Gt] [b] pos) W (decide (j < i)) := et_cmp op_gt ha hb (nomark _) fun U x y l rx ry => rI0_go rx ry fun _ => .bl _
theorem et_ge {i j : Int} (ha : EvE K X δ a W (.int i)) (hb : EvE K X δ b W (.int j)) : EvT K X δ (.Compare a [.GtE] [b] pos) W (decide (j ≤ i)) := et_cmp op_ge ha hb (nomark _) fun U x y l rx ry => rI0_go rx ry fun _ => .bl _
theorem dec_int {i j : Int} : decide (V.int i = V.int j) = decide (i = j) := by
  by_cases h : i = j
  · rw [h, decide_eq_true rfl, decide_eq_true rfl]
  · rw [decide_eq_false h, decide_eq_false fun q => h (V.int.inj q)]
theorem eqI_go {i j : Int} {U : Wd} {x y : V} (rx : Rp K U.G x (.int i)) (ry : Rp K U.G y (.int j)) (Q : VK) (q : ∀ v Z, Le U Z → Rp K Z.G v (.bool (decide (i = j))) → Q v Z.H) : rEq x y U.H Q := by
  obtain rfl := rx.int_inv
  obtain rfl := ry.int_inv
  exact ⟨rfl, by rw [dec_int]; exact q _ U (Le.refl U) (.bl _)⟩
theorem neI_go {i j : Int} {U : Wd} {x y : V} (rx : Rp K U.G x (.int i)) (ry : Rp K U.G y (.int j)) (Q : VK) (q : ∀ v Z, Le U Z → Rp K Z.G v (.bool (!decide (i = j))) → Q v Z.H) : rNe x y U.H Q := by
  obtain rfl := rx.int_inv
  obtain rfl := ry.int_inv
  exact ⟨rfl, by rw [dec_int]; exact q _ U (Le.refl U) (.bl _)⟩
theorem ev_eqI {i j : Int} (ha : EvE K X δ a W (.int i)) (hb : EvE K X δ b W (.int j)) : EvE K X δ (.Compare a [.Eq] [b] pos) W (.bool (decide (i = j))) := ev_cmp op_eq ha hb (nomark _) fun U x y l rx ry => eqI_go rx ry
theorem et_eqI {i j : Int} (ha : EvE K X δ a W (.int i)) (hb : EvE K X δ b W (.int j)) : EvT K X δ (.Compare a [.Eq] [b] pos) W (decide (i = j)) := et_cmp op_eq ha hb (nomark _) fun U x y l rx ry => eqI_go rx ry
theorem ev_neI {i j : Int} (ha : EvE K X δ a W (.int i)) (hb : EvE K X δ b W (.int j)) : EvE K X δ (.Compare a [.NotEq] [b] pos) W (.bool (!decide (i = j))) := ev_cmp op_ne ha hb (nomark _) fun U x y l rx ry => neI_go rx ry
theorem et_neI {i j : Int} (ha : EvE K X δ a W (.int i)) (hb : EvE K X δ b W (.int j)) : EvT K X δ (.Compare a [.NotEq] [b] pos) W (!decide (i = j)) := et_cmp op_ne ha hb (nomark _) fun U x y l rx ry => neI_go rx ry
/-- data of any depth, without dicts -/
structure Plain (d : PyData) : Prop where
  nd : noD d = true
  sh : SeqAt.shaped d = true
theorem eqD_go {U : Wd} {x y : V} (n1 : Plain d1) (n2 : Plain d2) (hK : X.K = K) (rx : Rp K U.G x d1) (ry : Rp K U.G y d2) (Q : VK) (q : ∀ v Z, Le U Z → Rp K Z.G v (.bool (PyData.eqv d1 d2)) → Q v Z.H) : rEqD X.K x y U.H Q := by
  rw [hK]
  exact ⟨d1, d2, dp_up U.ex (rx.dp n1.nd), dp_up U.ex (ry.dp n2.nd), n1.sh, n2.sh, q _ U (Le.refl U) (.bl _)⟩
theorem neD_go {U : Wd} {x y : V} (n1 : Plain d1) (n2 : Plain d2) (hK : X.K = K) (rx : Rp K U.G x d1) (ry : Rp K U.G y d2) (Q : VK) (q : ∀ v Z, Le U Z → Rp K Z.G v (.bool (!PyData.eqv d1 d2)) → Q v Z.H) : rNeD X.K x y U.H Q := by
  rw [hK]
  exact ⟨d1, d2, dp_up U.ex (rx.dp n1.nd), dp_up U.ex (ry.dp n2.nd), n1.sh, n2.sh, q _ U (Le.refl U) (.bl _)⟩
theorem ev_eqD (ha : EvE K X δ a W d1) (hb : EvE K X δ b W d2) (n1 : Plain d1) (n2 : Plain d2) : EvE K X δ (.Compare a [.Eq] [b] pos) W (.bool (PyData.eqv d1 d2)) := ev_cmp (op_eqD g.room.units) ha hb (nomark _) fun U x y l rx ry => eqD_go n1 n2 g.hK rx ry
theorem et_eqD (ha : EvE K X δ a W d1) (hb : EvE K X δ b W d2) (n1 : Plain d1) (n2 : Plain d2) : EvT K X δ (.Compare a [.Eq] [b] pos) W (PyData.eqv d1 d2) := et_cmp (op_eqD g.room.units) ha hb (nomark _) fun U x y l rx ry => eqD_go n1 n2 g.hK rx ry
theorem ev_neD (ha : EvE K X δ a W d1) (hb : EvE K X δ b W d2) (n1 : Plain d1) (n2 : Plain d2) : EvE K X δ (.Compare a [.NotEq] [b] pos) W (.bool (!PyData.eqv d1 d2)) := ev_cmp (op_neD g.room.units) ha hb (nomark _) fun U x y l rx ry => neD_go n1 n2 g.hK rx ry
theorem et_neD (ha : EvE K X δ a W d1) (hb : EvE K X δ b W d2) (n1 : Plain d1) (n2 : Plain d2) : EvT K X δ (.Compare a [.NotEq] [b] pos) W (!PyData.eqv d1 d2) := et_cmp (op_neD g.room.units) ha hb (nomark _) fun U x y l rx ry => neD_go n1 n2 g.hK rx ry
/-- 0 <= v < n, 0 <= v <= n -/
theorem ev_lelt {i j m : Int} (ha : EvE K X δ a W (.int i)) (hb : EvE K X δ b W (.int j)) (hc : EvE K X δ c W (.int m)) (hm : lastMarks [.LtE, .Lt] [b, c] = false := by with_unfolding_all rfl) :
    EvE K X δ (.Compare a [.LtE, .Lt] [b, c] pos) W (.bool (decide (i ≤ j) && decide (j < m))) := ev_chain op_le op_lt ha hb (fun _ => hc) (fun U x y l rx ry => rI0_go rx ry fun _ => .bl _) (fun _ U x y l rx ry => rI0_go rx ry fun _ => .bl _) hm
theorem ev_lele {i j m : Int} (ha : EvE K X δ a W (.int i)) (hb : EvE K X δ b W (.int j)) (hc : EvE K X δ c W (.int m)) (hm : lastMarks [.LtE, .LtE] [b, c] = false := by with_unfolding_all rfl) :
    EvE K X δ (.Compare a [.LtE, .LtE] [b, c] pos) W (.bool (decide (i ≤ j) && decide (j ≤ m))) := ev_chain op_le op_le ha hb (fun _ => hc) (fun U x y l rx ry => rI0_go rx ry fun _ => .bl _) (fun _ U x y l rx ry => rI0_go rx ry fun _ => .bl _) hm
theorem et_lele {i j m : Int} (ha : EvE K X δ a W (.int i)) (hb : EvE K X δ b W (.int j)) (hc : EvE K X δ c W (.int m)) (hm : lastMarks [.LtE, .LtE] [b, c] = false := by with_unfolding_all rfl) :
    EvT K X δ (.Compare a [.LtE, .LtE] [b, c] pos) W (decide (i ≤ j) && decide (j ≤ m)) := et_chain op_le op_le ha hb (fun _ => hc) (fun U x y l rx ry => rI0_go rx ry fun _ => .bl _) (fun _ U x y l rx ry => rI0_go rx ry fun _ => .bl _) hm
def isN : PyData → Bool
  | .none => true
  | _ => false
theorem Rp.isN {G : Hp} {v : V} (h : Rp K G v d) : decide (v = .non) = Pk.isN d := by cases h <;> rfl
theorem et_isN {j p} (ha : EvE K X δ a W d1) : EvT K X δ (.Compare a [.Is] [.Constant .none j p] pos) W (isN d1) := et_cmp (d2 := .none) op_isN ha ev_non (nomark _) fun U x y l rx ry Q q => ⟨ry.none_inv, by rw [rx.isN]; exact q _ U (Le.refl U) (.bl _)⟩
theorem et_notN {j p} (ha : EvE K X δ a W d1) : EvT K X δ (.Compare a [.IsNot] [.Constant .none j p] pos) W (!isN d1) := et_cmp (d2 := .none) op_notN ha ev_non (nomark _) fun U x y l rx ry Q q => ⟨ry.none_inv, by rw [rx.isN]; exact q _ U (Le.refl U) (.bl _)⟩
theorem ev_notN {j p} (ha : EvE K X δ a W d1) : EvE K X δ (.Compare a [.IsNot] [.Constant .none j p] pos) W (.bool (!isN d1)) := ev_cmp (d2 := .none) op_notN ha ev_non (nomark _) fun U x y l rx ry Q q => ⟨ry.none_inv, by rw [rx.isN]; exact q _ U (Le.refl U) (.bl _)⟩
/-! ### and, or, not -/
theorem ev_one {op} (h : EvE K X δ a W d) : EvE K X δ (.BoolOp op [a] pos) W d := fun U l σ s Q q => (pe_one (pe_w X a)).w (h U l σ s Q q)
theorem ev_and {t u : Bool} (ha : EvE K X δ a W (.bool t)) (hb : t = true → EvE K X δ (.BoolOp .And (b :: es) pos) W (.bool u)) : EvE K X δ (.BoolOp .And (a :: b :: es) pos) W (.bool (t && u)) := fun U l σ s Q q =>
  (pe_and (pe_w X a) (pe_w X _)).w (ha U l σ s _ fun x Z l2 rx => ⟨t, rx.bool_inv, by
    cases t with
    | true =>
      rw [if_pos rfl]
      exact hb rfl Z (l.tr l2) σ (s.up l2.g) Q fun v Y l3 rv => q v Y (l2.tr l3) rv
    | false =>
      rw [if_neg (by decide)]
      exact q _ Z l2 (.bl false)⟩)
theorem ev_or {t u : Bool} (ha : EvE K X δ a W (.bool t)) (hb : t = false → EvE K X δ (.BoolOp .Or (b :: es) pos) W (.bool u)) : EvE K X δ (.BoolOp .Or (a :: b :: es) pos) W (.bool (t || u)) := fun U l σ s Q q =>
  (pe_or (pe_w X a) (pe_w X _)).w (ha U l σ s _ fun x Z l2 rx => ⟨t, rx.bool_inv, by
    cases t with
    | false =>
      rw [if_neg (by decide)]
      exact hb rfl Z (l.tr l2) σ (s.up l2.g) Q fun v Y l3 rv => q v Y (l2.tr l3) rv
    | true =>
      rw [if_pos rfl]
      exact q _ Z l2 (.bl true)⟩)
theorem ev_not {t : Bool} (ha : EvE K X δ a W (.bool t)) : EvE K X δ (.UnaryOp .Not a pos) W (.bool (!t)) := fun U l σ s Q q =>
  (pe_not (pe_w X a)).w (ha U l σ s _ fun x Z l2 rx => ⟨t, rx.bool_inv, q _ Z l2 (.bl _)⟩)
theorem et_val {t : Bool} (h : EvE K X δ a W (.bool t)) (he : ∀ whole, isTrue a X.env whole = (do let v ← whole; standAt a.pos; holding [v] (truthy v)) := by intro _; rfl) : EvT K X δ a W t := fun U l σ s Q q =>
  (pt_val (pe_w X a) he).w (h U l σ s _ fun x Z l2 rx => ⟨t, rx.bool_inv, q Z l2⟩)
theorem et_not {t : Bool} (ha : EvT K X δ a W t) : EvT K X δ (.UnaryOp .Not a pos) W (!t) := fun U l σ s Q q =>
  (pt_not (pt_w X a)).w (ha U l σ s _ fun Z l2 => q Z l2)
/-- a part of a chain of and, or -/
@[irreducible] def wW (X : Cx) (e : Expr) : TT := fun σ H Q => ∀ (whole : Sem Value) (pins : List (Addr × Obj)) (s : Shared), Inv X pins σ H s → wpAny (model X.prog X.w) X.A (isTrue e X.env whole) (TP X pins σ Q) X.xe s
theorem wW.run {X : Cx} {e : Expr} {σ : St} {H : Hp} {Q : Bool → Hp → Prop} (h : wW X e σ H Q) : ∀ (whole : Sem Value) (pins : List (Addr × Obj)) (s : Shared), Inv X pins σ H s → wpAny (model X.prog X.w) X.A (isTrue e X.env whole) (TP X pins σ Q) X.xe s := by unfold wW at h; exact h
theorem wW.mk {X : Cx} {e : Expr} {σ : St} {H : Hp} {Q : Bool → Hp → Prop} (h : ∀ (whole : Sem Value) (pins : List (Addr × Obj)) (s : Shared), Inv X pins σ H s → wpAny (model X.prog X.w) X.A (isTrue e X.env whole) (TP X pins σ Q) X.xe s) : wW X e σ H Q := by unfold wW; exact h
theorem pw_w (X : Cx) (e : Expr) : PW X e (wW X e) := ⟨fun wh pins s _ _ _ I h => h.run wh pins s I⟩
theorem _root_.L2.PW.w {e : Expr} {t : TT} (p : PW X e t) {σ : St} {H : Hp} {Q : Bool → Hp → Prop} (h : t σ H Q) : wW X e σ H Q := wW.mk fun wh pins s I => p.run wh pins s σ H Q I h
def EvW (K : PySem.W.Frag) (X : Cx) (δ : Sd) (e : Expr) (W : Wd) (b : Bool) : Prop := ∀ U, Le W U → ∀ σ, SRep K U.G σ δ → ∀ Q : Bool → Hp → Prop, (∀ Z, Le U Z → Q b Z.H) → wW X e σ U.H Q
theorem et_w {t : Bool} (h : EvW K X δ a W t) : EvT K X δ a W t := fun U l σ s Q q => (PW.pt (pw_w X a)).w (h U l σ s Q q)
theorem ew_and1 {t : Bool} (h : EvT K X δ a W t) : EvW K X δ (.BoolOp .And [a] pos) W t := fun U l σ s Q q => PW.w (pw_and1 (pt_w X a)) (h U l σ s Q q)
theorem ew_or1 {t : Bool} (h : EvT K X δ a W t) : EvW K X δ (.BoolOp .Or [a] pos) W t := fun U l σ s Q q => PW.w (pw_or1 (pt_w X a)) (h U l σ s Q q)
theorem ew_and {t u : Bool} (ha : EvT K X δ a W t) (hb : t = true → EvW K X δ (.BoolOp .And (b :: es) pos) W u) : EvW K X δ (.BoolOp .And (a :: b :: es) pos) W (t && u) := fun U l σ s Q q =>
  PW.w (pw_and (pt_w X a) (pw_w X _)) (ha U l σ s _ fun Z l2 => by
    cases t with
    | true =>
      rw [if_pos rfl]
      exact hb rfl Z (l.tr l2) σ (s.up l2.g) Q fun Y l3 => q Y (l2.tr l3)
    | false =>
      rw [if_neg (by decide)]
      exact q Z l2)
theorem ew_or {t u : Bool} (ha : EvT K X δ a W t) (hb : t = false → EvW K X δ (.BoolOp .Or (b :: es) pos) W u) : EvW K X δ (.BoolOp .Or (a :: b :: es) pos) W (t || u) := fun U l σ s Q q =>
  PW.w (pw_or (pt_w X a) (pw_w X _)) (ha U l σ s _ fun Z l2 => by
    cases t with
    | false =>
      rw [if_neg (by decide)]
      exact hb rfl Z (l.tr l2) σ (s.up l2.g) Q fun Y l3 => q Y (l2.tr l3)
    | true =>
      rw [if_pos rfl]
      exact q Z l2)
theorem ev_if {t : Bool} (hc : EvT K X δ c W t) (ha : t = true → EvE K X δ a W d) (hb : t = false → EvE K X δ b W d) : EvE K X δ (.IfExp c a b pos) W d := fun U l σ s Q q =>
  (pe_ifExp (pt_w X c) (pe_w X a) (pe_w X b)).w (hc U l σ s _ fun Z l2 => by
    cases t with
    | true =>
      rw [if_pos rfl]
      exact ha rfl Z (l.tr l2) σ (s.up l2.g) Q fun v Y l3 rv => q v Y (l2.tr l3) rv
    | false =>
      rw [if_neg (by decide)]
      exact hb rfl Z (l.tr l2) σ (s.up l2.g) Q fun v Y l3 rv => q v Y (l2.tr l3) rv)
/-! ### argument lists, displays -/
theorem ea_nil : EvA K X δ [] W [] := fun U l σ s Q q => (pa_nil (X := X)).w (q [] U (Le.refl U) .nil)
theorem ea_cons {ds : List PyData} (h : EvE K X δ e W d) (k : EvA K X δ es W ds) (he : starEach (e :: es) X.env = (false, eval e X.env) :: starEach es X.env := by rfl) : EvA K X δ (e :: es) W (d :: ds) := fun U l σ s Q q =>
  (pa_cons (pe_w X e) (pa_w X es) he).w (h U l σ s _ fun x Z l2 rx => k Z (l.tr l2) σ (s.up l2.g) _ fun vs Y l3 rs => q _ Y (l2.tr l3) (.cons (rx.up l3.g) rs))
theorem add_t {p : Addr} {vs : List V} {ds : List PyData} {o : HO} (hp : U.H p = none) (ho : TupO (isPs ds) vs o) (rs : RpL K U.G vs ds) : Rp K (U.add p o hp).G (.ref p) (.tuple ds) := .tup upd_same ho (rs.up (U.add_le hp).g)
/-- a tuple is laid -/
theorem laidT {pins : List (Addr × Obj)} {σ : St} {H : Hp} {s : Shared} {Q : VK} {vs : List V} {us : List Value} (b : Bool) (I : Inv X pins σ H s) (r : Vals vs us) (hz : vs.length ≤ sizeLine) (q : ∀ p o, H p = none → TupO b vs o → Q (.ref p) (upd H p o)) :
    EP X pins σ Q (.ref s.heap.objs.size) { s with heap := s.heap.push { cls := .type "tuple", data := .seq us.toArray } } := by
  have hn : H s.heap.objs.size = none := I.hok.fresh (Nat.le_refl _)
  have ok : ∀ H' : Hp, ObjOk X.prog X.w H' (s.heap.push { cls := .type "tuple", data := .seq us.toArray }) s.heap.objs.size (.tup vs) := fun _ => ⟨hz, us, r, IsTup.new _ _⟩
  cases b with
  | false => exact ⟨.ref s.heap.objs.size, _, I.laid (o := .tup vs) (t' := s.toks) (fun c u e => Heap.get?_push_of_some _ e) (Nat.le_refl _) (ok _), rfl, q _ _ hn rfl⟩
  | true => exact ⟨.ref s.heap.objs.size, _, I.laid (o := .frz { cls := .type "tuple", data := .seq us.toArray } (.tup vs)) (t' := s.toks) (fun c u e => Heap.get?_push_of_some _ e) (Nat.le_refl _) ⟨Heap.get?_push_size _ rfl, ok _⟩, rfl, q _ _ hn ⟨_, rfl, rfl, rfl⟩⟩
/-- the display of a tuple, tracked as b says -/
def tTupB (b : Bool) (t : TA) : TE := fun σ H Q => t σ H fun xs H1 => xs.length ≤ sizeLine ∧ ∀ p o, H1 p = none → TupO b xs o → Q (.ref p) (upd H1 p o)
theorem pe_tupB {x1} {t : TA} (b : Bool) (h : PA X es t) : PE X (.Tuple es x1 pos) (tTupB b t) := by
  refine ⟨fun pins s σ H Q I hq => wpAny_Tuple_spliced (thn (h.run pos pins s σ H _ I hq) fun us s1 hh => ?_)⟩
  obtain ⟨xs, H1, I1, r, z, q⟩ := hh
  exact ⟨by rw [← r.length]; exact z, laidT b I1 r z q⟩
theorem add_l {p : Addr} {vs : List V} {ds : List PyData} (hp : U.H p = none) (rs : RpL K U.G vs ds) : Rp K (U.add p (.lst vs) hp).G (.ref p) (.list ds) := .lst upd_same (rs.up (U.add_le hp).g)
theorem sz {n : Nat} (h : n ≤ 1000000) : n ≤ sizeLine := Nat.le_trans h (by decide)
theorem szl {n : Nat} (h : n < 1000000) : n < sizeLine := Nat.lt_of_lt_of_le h (by decide)
theorem ev_tup {x1} {ds : List PyData} (h : EvA K X δ es W ds) (hl : ds.length ≤ 1000000 := by first | decide | (simp; done)) : EvE K X δ (.Tuple es x1 pos) W (.tuple ds) := fun U l σ s Q q =>
  (pe_tupB (isPs ds) (pa_w X es)).w (h U l σ s _ fun vs Z l2 rs => ⟨by rw [rs.len]; exact sz hl, fun p o hp ho => q _ (Z.add p _ hp) (l2.tr (Z.add_le hp)) (add_t hp ho rs)⟩)
theorem ev_lst {ds : List PyData} (h : EvA K X δ es W ds) (hl : ds.length ≤ 1000000 := by first | decide | (simp; done)) : EvE K X δ (.List es pos) W (.list ds) := fun U l σ s Q q =>
  (pe_lst (pa_w X es)).w (h U l σ s _ fun vs Z l2 rs => ⟨by rw [rs.len]; exact sz hl, fun p hp => q _ (Z.add p _ hp) (l2.tr (Z.add_le hp)) (add_l hp rs)⟩)
/-! ### subscripts -/
/-- a list or a tuple of these -/
inductive SeqD : PyData → List PyData → Prop
  | l (ds : List PyData) : SeqD (.list ds) ds
  | t (ds : List PyData) : SeqD (.tuple ds) ds
theorem SeqD.sq {G : Hp} {v : V} {ds : List PyData} (q : SeqD d ds) (h : Rp K G v d) : ∃ p vs, v = .ref p ∧ (SqL K G p vs ∨ SqT K G p vs) ∧ RpL K G vs ds := by
  cases q with
  | l =>
    obtain ⟨p, vs, e1, e2, e3⟩ := h.lst_inv
    exact ⟨p, vs, e1, .inl e2, e3⟩
  | t =>
    obtain ⟨p, vs, e1, e2, e3⟩ := h.tup_inv
    exact ⟨p, vs, e1, .inr e2, e3⟩
theorem ev_ix {ds : List PyData} {i : Nat} (q : SeqD d1 ds) (ha : EvE K X δ a W d1) (hb : EvE K X δ b W (.int (i : Int))) (h : ds[i]? = some d) (hs : PlainIx b := by exact fun _ _ => rfl) : EvE K X δ (.Subscript a b pos) W d := fun U l σ s Q k =>
  (pe_ix ix_seq (pe_w X a) (pe_w X b) hs).w (ha U l σ s _ fun x Z l2 rx => hb Z (l.tr l2) σ (s.up l2.g) _ fun y Y l3 ry => by
    obtain ⟨p, vs, e1, e2, e3⟩ := q.sq (rx.up l3.g)
    obtain ⟨v, hv, rv⟩ := e3.at h
    have hat : atI vs (i : Int) = some v := atI_nat hv
    show rIx X.K x y Y.H Q
    rw [g.hK]
    rcases e2 with e2 | e2
    · exact .inl ⟨p, vs, i, v, e1, ry.int_inv, Y.ex.l e2, hat, k v Y (l2.tr l3) rv⟩
    · exact .inr (.inl ⟨p, vs, i, v, e1, ry.int_inv, Y.ex.t e2, hat, k v Y (l2.tr l3) rv⟩))
end
end Pk
set_option Elab.async false
set_option linter.all false
set_option maxRecDepth 100000
set_option maxHeartbeats 4000000
namespace Pk
open PySem PySem.Spec L2
open PyProof.Rows hiding St
/-! ### targets -/
@[irreducible] def wG (X : Cx) (tg : Expr) : TG := fun v σ H Q => ∀ (pins : List (Addr × Obj)) (s : Shared) (u : Value), Inv X pins σ H s → RelV v u → wpAny (model X.prog X.w) X.A (assign tg X.env u) (fun _ s' => ∃ σ' H', Inv X pins σ' H' s' ∧ Q σ' H') X.xe s
theorem wG.run {X : Cx} {tg : Expr} {v : V} {σ : St} {H : Hp} {Q : St → Hp → Prop} (h : wG X tg v σ H Q) : ∀ (pins : List (Addr × Obj)) (s : Shared) (u : Value), Inv X pins σ H s → RelV v u → wpAny (model X.prog X.w) X.A (assign tg X.env u) (fun _ s' => ∃ σ' H', Inv X pins σ' H' s' ∧ Q σ' H') X.xe s := by unfold wG at h; exact h
theorem wG.mk {X : Cx} {tg : Expr} {v : V} {σ : St} {H : Hp} {Q : St → Hp → Prop} (h : ∀ (pins : List (Addr × Obj)) (s : Shared) (u : Value), Inv X pins σ H s → RelV v u → wpAny (model X.prog X.w) X.A (assign tg X.env u) (fun _ s' => ∃ σ' H', Inv X pins σ' H' s' ∧ Q σ' H') X.xe s) : wG X tg v σ H Q := by unfold wG; exact h
theorem pg_w (X : Cx) (tg : Expr) : PG X tg (wG X tg) := ⟨fun pins s _ _ _ u _ I r h => h.run pins s u I r⟩
theorem _root_.L2.PG.w {X : Cx} {tg : Expr} {t : TG} (p : PG X tg t) {v : V} {σ : St} {H : Hp} {Q : St → Hp → Prop} (h : t v σ H Q) : wG X tg v σ H Q := wG.mk fun pins s u I r => p.run pins s σ H v u Q I r h
@[irreducible] def wGs (X : Cx) (ts : List Expr) : TGs := fun vs σ H Q => ∀ (pins : List (Addr × Obj)) (s : Shared) (us : List Value), Inv X pins σ H s → Vals vs us → wpAny (model X.prog X.w) X.A (assignInOrder ((assignEach ts X.env).map (·.2)) us) (fun _ s' => ∃ σ' H', Inv X pins σ' H' s' ∧ Q σ' H') X.xe s
theorem wGs.run {X : Cx} {ts : List Expr} {vs : List V} {σ : St} {H : Hp} {Q : St → Hp → Prop} (h : wGs X ts vs σ H Q) : ∀ (pins : List (Addr × Obj)) (s : Shared) (us : List Value), Inv X pins σ H s → Vals vs us → wpAny (model X.prog X.w) X.A (assignInOrder ((assignEach ts X.env).map (·.2)) us) (fun _ s' => ∃ σ' H', Inv X pins σ' H' s' ∧ Q σ' H') X.xe s := by unfold wGs at h; exact h
theorem wGs.mk {X : Cx} {ts : List Expr} {vs : List V} {σ : St} {H : Hp} {Q : St → Hp → Prop} (h : ∀ (pins : List (Addr × Obj)) (s : Shared) (us : List Value), Inv X pins σ H s → Vals vs us → wpAny (model X.prog X.w) X.A (assignInOrder ((assignEach ts X.env).map (·.2)) us) (fun _ s' => ∃ σ' H', Inv X pins σ' H' s' ∧ Q σ' H') X.xe s) : wGs X ts vs σ H Q := by unfold wGs; exact h
theorem pgs_w (X : Cx) (ts : List Expr) : PGs X ts (wGs X ts) := ⟨fun pins s _ _ _ us _ I r h => h.run pins s us I r⟩
theorem _root_.L2.PGs.w {X : Cx} {ts : List Expr} {t : TGs} (p : PGs X ts t) {vs : List V} {σ : St} {H : Hp} {Q : St → Hp → Prop} (h : t vs σ H Q) : wGs X ts vs σ H Q := wGs.mk fun pins s us I r => p.run pins s σ H vs us Q I r h
/-- an item of a walk; kd: it may be a tuple just laid, of which only its items are known -/
def Rk (kd : Bool) (K : PySem.W.Frag) (G : Hp) (v : V) (d : PyData) : Prop := Rp K G v d ∨ (kd = true ∧ ∃ (a : Addr) (vs : List V) (ds : List PyData), v = .ref a ∧ d = .tuple ds ∧ G a = some (.tup vs) ∧ RpL K G vs ds)
theorem Rk.rp {K : PySem.W.Frag} {G : Hp} {v : V} {d : PyData} (h : Rk false K G v d) : Rp K G v d := by
  rcases h with h | ⟨h, _⟩
  · exact h
  · cases h
theorem Rk.up {kd : Bool} {K : PySem.W.Frag} {G H : Hp} {v : V} {d : PyData} (e : Sub G H) (h : Rk kd K G v d) : Rk kd K H v d := by
  rcases h with h | ⟨h, a, vs, ds, h1, h2, h3, h4⟩
  · exact .inl (h.up e)
  · exact .inr ⟨h, a, vs, ds, h1, h2, e _ _ h3, h4.up e⟩
theorem Rk.tup {kd : Bool} {K : PySem.W.Frag} {G : Hp} {v : V} {ds : List PyData} (h : Rk kd K G v (.tuple ds)) : ∃ a vs, v = .ref a ∧ SqT K G a vs ∧ RpL K G vs ds := by
  rcases h with h | ⟨h, a, vs, ds', h1, h2, h3, h4⟩
  · exact h.tup_inv
  · cases h2
    exact ⟨a, vs, h1, .inl (.inl h3), h4⟩
/-- storing d into the target makes δ' of δ; only the slots is are stored -/
def TgD (kd : Bool) (K : PySem.W.Frag) (X : Cx) (δ : Sd) (tg : Expr) (d : PyData) (δ' : Sd) (is : List Nat) : Prop :=
  ∀ (G H : Hp) σ v, Sub G H → SRep K G σ δ → Rk kd K G v d → ∀ Q : St → Hp → Prop, (∀ σ', SRep K G σ' δ' → (∀ vs : List Nat, (∀ i ∈ is, i ∈ vs) → L2.wipe σ' vs = L2.wipe σ vs) → Q σ' H) → wG X tg v σ H Q
def TgsD (K : PySem.W.Frag) (X : Cx) (δ : Sd) (ts : List Expr) (ds : List PyData) (δ' : Sd) (is : List Nat) : Prop :=
  ∀ (G H : Hp) σ vs, Sub G H → SRep K G σ δ → RpL K G vs ds → ∀ Q : St → Hp → Prop, (∀ σ', SRep K G σ' δ' → (∀ vs : List Nat, (∀ i ∈ is, i ∈ vs) → L2.wipe σ' vs = L2.wipe σ vs) → Q σ' H) → wGs X ts vs σ H Q
theorem wipe_at {σ : St} {i : Nat} {x : Option V} : ∀ {vs : List Nat}, i ∈ vs → L2.wipe (σ.set i x) vs = L2.wipe σ vs
  | [], h => by simp at h
  | v :: vs, h => by
    show (L2.wipe (σ.set i x) vs).set v none = (L2.wipe σ vs).set v none
    by_cases hv : i ∈ vs
    · rw [wipe_at hv]
    · have e : i = v := by
        rcases List.mem_cons.mp h with h | h
        · exact h
        · exact absurd h hv
      subst e
      have key : ∀ (ws : List Nat), i ∉ ws → L2.wipe (σ.set i x) ws = (L2.wipe σ ws).set i x := by
        intro ws
        induction ws with
        | nil => intro _; rfl
        | cons w ws ih =>
          intro hw
          have h1 : i ≠ w := fun e => hw (by rw [e]; exact List.mem_cons_self)
          have h2 : i ∉ ws := fun e => hw (List.mem_cons_of_mem _ e)
          show (L2.wipe (σ.set i x) ws).set w none = ((L2.wipe σ ws).set w none).set i x
          rw [ih h2, List.set_comm _ _ h1]
      rw [key vs hv, List.set_set]
section
variable {K : PySem.W.Frag} {X : Cx} [g : Good K X] {δ δ' δ'' : Sd} {W U : Wd} {a b c e tg iter : Expr} {es : List Expr} {pos : Pos} {d d1 d2 d3 : PyData} {P : Po} {rest body : List Stmt} {st : Stmt} {is js : List Nat}
theorem tg_name (i : Nat) {x : Str} (hN : X.N[i]? = some x := by rfl) (hx : Loc X.env.scope x := by first | exact Or.inl rfl | exact Or.inr rfl) (hf : X.fn x = true ∨ X.env.scope.names.lookup x = some .local := by first | exact .inl rfl | exact .inr rfl) :
    TgD false K X δ (.Name x pos) d (δ.set i (some (.d d))) [i] := fun G H σ v s r rv Q q =>
  (pg_name g.nd hN hx hf).w (q _ (SRep.set (s := .d d) r rv.rp i) fun vs h => wipe_at (h i List.mem_cons_self))
theorem tgs_nil : TgsD K X δ [] [] δ [] := fun G H σ vs s r rv Q q => (pgs_nil (X := X)).w ⟨by cases rv; rfl, q σ r fun _ _ => rfl⟩
theorem tgs_cons {ds : List PyData} (h : TgD false K X δ e d δ' is) (k : TgsD K X δ' es ds δ'' js) (hs : (assignEach (e :: es) X.env).map (·.2) = assign e X.env :: (assignEach es X.env).map (·.2) := by rfl) : TgsD K X δ (e :: es) (d :: ds) δ'' (is ++ js) := fun G H σ vs s r rv Q q => by
  cases rv with
  | cons r1 r2 =>
    exact (pgs_cons (pg_w X e) (pgs_w X es) hs).w ⟨_, _, rfl, h G H σ _ s r (.inl r1) _ fun σ' r' w' => k G H σ' _ s r' r2 _ fun σ2 r2' w2 => q σ2 r2' fun vs hv => (w2 vs fun i hi => hv i (List.mem_append_right _ hi)).trans (w' vs fun i hi => hv i (List.mem_append_left _ hi))⟩
theorem tg_tup {kd : Bool} {ds : List PyData} {m : Nat} (h : TgsD K X δ es ds δ' is) (hl : ds.length = es.length) (hn : (assignEach es X.env).length = es.length := by rfl) (hst : (assignEach es X.env).findIdx? (·.1) = none := by rfl) : TgD kd K X δ (.Tuple es m pos) (.tuple ds) δ' is := fun G H σ v s r rv Q q => by
  obtain ⟨p, vs, e1, e2, e3⟩ := rv.tup
  refine (pg_tup g.calm (pgs_w X es) hn hst).w ⟨p, vs, e1, ?_, e3.len.trans hl, h G H σ vs s r e3 Q q⟩
  rw [g.hK]
  exact s.t e2
/-! ### statements -/
theorem wS_imp {st : Stmt} {D D' : Ends} {σ : St} {H : Hp} (h : wS X st D σ H) (n : ∀ σ H, D.nx σ H → D'.nx σ H) (r : ∀ v H, D.rt v H → D'.rt v H) (b : ∀ σ H, D.bk σ H → D'.bk σ H) (c : ∀ σ H, D.ct σ H → D'.ct σ H) : wS X st D' σ H := wS.mk X fun pins s I =>
  thn (h.run X pins s I) fun f s' q => by
    cases f with
    | next => obtain ⟨σ', H', I', q⟩ := q; exact ⟨σ', H', I', n _ _ q⟩
    | brk => obtain ⟨σ', H', I', q⟩ := q; exact ⟨σ', H', I', b _ _ q⟩
    | cont => obtain ⟨σ', H', I', q⟩ := q; exact ⟨σ', H', I', c _ _ q⟩
    | ret u => obtain ⟨v, σ', H', I', rv, q⟩ := q; exact ⟨v, σ', H', I', rv, r _ _ q⟩
theorem wB_imp {st : List Stmt} {D D' : Ends} {σ : St} {H : Hp} (h : wB X st D σ H) (n : ∀ σ H, D.nx σ H → D'.nx σ H) (r : ∀ v H, D.rt v H → D'.rt v H) (b : ∀ σ H, D.bk σ H → D'.bk σ H) (c : ∀ σ H, D.ct σ H → D'.ct σ H) : wB X st D' σ H := wB.mk X fun pins s I =>
  thn (h.run X pins s I) fun f s' q => by
    cases f with
    | next => obtain ⟨σ', H', I', q⟩ := q; exact ⟨σ', H', I', n _ _ q⟩
    | brk => obtain ⟨σ', H', I', q⟩ := q; exact ⟨σ', H', I', b _ _ q⟩
    | cont => obtain ⟨σ', H', I', q⟩ := q; exact ⟨σ', H', I', c _ _ q⟩
    | ret u => obtain ⟨v, σ', H', I', rv, q⟩ := q; exact ⟨v, σ', H', I', rv, r _ _ q⟩
theorem wb_nil (h : P.nx δ W) : WB K X δ [] W P := fun σ r => (pss_nil (X := X)).w ⟨δ, W, rfl, r, h⟩
theorem wb_cons (h : WS K X δ st W { P with nx := fun δ' U => WB K X δ' rest U P }) : WB K X δ (st :: rest) W P := fun σ r =>
  (pss_cons (ps_w X st) (pb_w X rest)).w (wS_imp (h σ r) (fun σ' H' ⟨δ', U, e1, r', q⟩ => by rw [e1]; exact q σ' r') (fun _ _ q => q) (fun _ _ q => q) fun _ _ q => q)
theorem ws_asg (i : Nat) {x : Str} {px : Pos} (he : WE K X δ e W fun d U => P.nx (δ.set i (some (.d d))) U) (hN : X.N[i]? = some x := by rfl) (hx : Loc X.env.scope x := by first | exact Or.inl rfl | exact Or.inr rfl)
    (hs : swapsWith e (some (.Name x px)) pos.line X.env = pure false := by rfl) (hf : X.fn x = true ∨ X.env.scope.names.lookup x = some .local := by first | exact .inl rfl | exact .inr rfl) : WS K X δ (.Assign [.Name x px] e pos) W P := fun σ r =>
  (ps_set g.nd hN hx (pe_w X e) hs hf).w (he σ r _ fun v d U gu rv q => ⟨_, U, rfl, SRep.set (s := .d d) (r.up gu) rv i, q⟩)
/-- x = e; rest -/
theorem wb_asg (i : Nat) {x : Str} {px : Pos} (he : EvE K X δ e W d) (h : ∀ U, Le W U → WB K X (δ.set i (some (.d d))) rest U P) (hN : X.N[i]? = some x := by rfl) (hx : Loc X.env.scope x := by first | exact Or.inl rfl | exact Or.inr rfl)
    (hs : swapsWith e (some (.Name x px)) pos.line X.env = pure false := by rfl) (hf : X.fn x = true ∨ X.env.scope.names.lookup x = some .local := by first | exact .inl rfl | exact .inr rfl) : WB K X δ (.Assign [.Name x px] e pos :: rest) W P :=
  wb_cons (ws_asg i (we_ev he h) hN hx hs hf)
/-- x = e, e with an effect -/
theorem wb_asgW (i : Nat) {x : Str} {px : Pos} (he : WE K X δ e W fun d U => WB K X (δ.set i (some (.d d))) rest U P) (hN : X.N[i]? = some x := by rfl) (hx : Loc X.env.scope x := by first | exact Or.inl rfl | exact Or.inr rfl)
    (hs : swapsWith e (some (.Name x px)) pos.line X.env = pure false := by rfl) (hf : X.fn x = true ∨ X.env.scope.names.lookup x = some .local := by first | exact .inl rfl | exact .inr rfl) : WB K X δ (.Assign [.Name x px] e pos :: rest) W P :=
  wb_cons (ws_asg i he hN hx hs hf)
/-- x = [], a list that may change -/
theorem wb_new (i : Nat) {x : Str} {px lp : Pos} (h : ∀ l (hl : W.H l = none), WB K X (δ.set i (some (.v (.ref l)))) rest (W.put l (.lst []) (W.gnone hl)) P) (hN : X.N[i]? = some x := by rfl) (hx : Loc X.env.scope x := by first | exact Or.inl rfl | exact Or.inr rfl)
    (hs : swapsWith (.List [] lp) (some (.Name x px)) pos.line X.env = pure false := by rfl) (hf : X.fn x = true ∨ X.env.scope.names.lookup x = some .local := by first | exact .inl rfl | exact .inr rfl) : WB K X δ (.Assign [.Name x px] (.List [] lp) pos :: rest) W P :=
  wb_cons fun σ r => (ps_set g.nd hN hx (pe_lst pa_nil) hs hf).w ⟨Nat.zero_le _, fun l hl => ⟨_, W.put l (.lst []) (W.gnone hl), rfl, SRep.set (s := .v (.ref l)) r rfl i, h l hl⟩⟩
/-- a, b = e (a tuple) -/
theorem wb_asgT {px : Pos} {n : Nat} (he : EvE K X δ e W d) (ht : TgD false K X δ (.Tuple es n px) d δ' is) (h : ∀ U, Le W U → WB K X δ' rest U P)
    (hs : swapsWithSole [.Tuple es n px] e pos.line X.env = pure false := by rfl) (hw : swappedStores [.Tuple es n px] e X.env = pure none := by rfl)
    (h1 : (assignEach [.Tuple es n px] X.env).map (·.2) = [assign (.Tuple es n px) X.env] := by rfl) : WB K X δ (.Assign [.Tuple es n px] e pos :: rest) W P :=
  wb_cons fun σ r => (ps_asg (pe_w X e) (pg_w X _) hs hw h1).w (he W (Le.refl W) σ r _ fun v U l rv => ht U.G U.H σ v U.ex (r.up l.g) (.inl rv) _ fun σ' r' _ => ⟨δ', U, rfl, r', h U l⟩)
theorem wb_asgTW {px : Pos} {n : Nat} (he : WE K X δ e W fun d U => ∃ δ' is, TgD false K X δ (.Tuple es n px) d δ' is ∧ WB K X δ' rest U P)
    (hs : swapsWithSole [.Tuple es n px] e pos.line X.env = pure false := by rfl) (hw : swappedStores [.Tuple es n px] e X.env = pure none := by rfl)
    (h1 : (assignEach [.Tuple es n px] X.env).map (·.2) = [assign (.Tuple es n px) X.env] := by rfl) : WB K X δ (.Assign [.Tuple es n px] e pos :: rest) W P :=
  wb_cons fun σ r => (ps_asg (pe_w X e) (pg_w X _) hs hw h1).w (he σ r _ fun v d U gu rv ⟨δ', is, ht, q⟩ => ht U.G U.H σ v U.ex (r.up gu) (.inl rv) _ fun σ' r' _ => ⟨δ', U, rfl, r', q⟩)
/-- a, b = e1, e2, both plain locals -/
theorem wb_par (i j : Nat) {x y : Str} {px py pt : Pos} {kt k2 : Nat} {pt2 : Pos} (he : WA K X δ [a, b] W fun ds U => ∃ d1 d2, ds = [d1, d2] ∧ WB K X ((δ.set i (some (.d d1))).set j (some (.d d2))) rest U P)
    (hi : X.N[i]? = some x := by rfl) (hj : X.N[j]? = some y := by rfl) (hij : i ≠ j := by decide) (hx : X.env.scope.names.lookup x = some .local := by rfl) (hy : X.env.scope.names.lookup y = some .local := by rfl)
    (hw : swappedStores [.Tuple [.Name x px, .Name y py] kt pt] (.Tuple [a, b] k2 pt2) X.env = pure (some [x, y]) := by rfl)
    (hs : swapsWithSole [.Tuple [.Name x px, .Name y py] kt pt] (.Tuple [a, b] k2 pt2) pos.line X.env = pure false := by rfl) : WB K X δ (.Assign [.Tuple [.Name x px, .Name y py] kt pt] (.Tuple [a, b] k2 pt2) pos :: rest) W P :=
  wb_cons fun σ r => (ps_par g.calm g.nd hi hj hij hx hy (pa_w X _) hw hs).w (he σ r _ fun vs ds U gu rs ⟨d1, d2, e1, q⟩ => by
    subst e1
    cases rs with
    | cons r1 r2 =>
      cases r2 with
      | cons r2 r3 =>
        cases r3
        exact ⟨_, _, rfl, _, U, rfl, SRep.set (s := .d d2) (SRep.set (s := .d d1) (r.up gu) r1 i) r2 j, q⟩)
theorem wb_ret (he : EvE K X δ e W d) (h : ∀ U, Le W U → P.rt d U) : WB K X δ (.Return (some e) pos :: rest) W P :=
  wb_cons fun σ r => (ps_ret (pe_w X e)).w (he W (Le.refl W) σ r _ fun v U l rv => ⟨d, U, rfl, rv, h U l⟩)
theorem wb_retW (he : WE K X δ e W P.rt) : WB K X δ (.Return (some e) pos :: rest) W P :=
  wb_cons fun σ r => (ps_ret (pe_w X e)).w (he σ r _ fun v d U _ rv q => ⟨d, U, rfl, rv, q⟩)
theorem ws_ifW {u v : List Stmt} (hc : WT K X δ c W fun t U => if t = true then WB K X δ u U P else WB K X δ v U P) : WS K X δ (.If c u v pos) W P := fun σ r =>
  (ps_if (pt_w X c) (pb_w X u) (pb_w X v)).w (hc σ r _ fun t U gu q => by
    cases t with
    | true =>
      rw [if_pos rfl] at q ⊢
      exact q σ (r.up gu)
    | false =>
      rw [if_neg (by decide)] at q ⊢
      exact q σ (r.up gu))
/-- if c: u; rest -/
theorem wb_if {u v : List Stmt} {t : Bool} (hc : EvT K X δ c W t) (h1 : t = true → ∀ U, Le W U → WB K X δ u U { P with nx := fun δ' Z => WB K X δ' rest Z P }) (h2 : t = false → ∀ U, Le W U → WB K X δ v U { P with nx := fun δ' Z => WB K X δ' rest Z P }) : WB K X δ (.If c u v pos :: rest) W P :=
  wb_cons (ws_ifW (wt_ev hc fun U l => by
    cases t with
    | true => rw [if_pos rfl]; exact h1 rfl U l
    | false => rw [if_neg (by decide)]; exact h2 rfl U l))
theorem wb_when {u : List Stmt} {t : Bool} (hc : EvT K X δ c W t) (h1 : t = true → ∀ U, Le W U → WB K X δ u U { P with nx := fun δ' Z => WB K X δ' rest Z P }) (h2 : t = false → ∀ U, Le W U → WB K X δ rest U P) : WB K X δ (.If c u [] pos :: rest) W P :=
  wb_if hc h1 fun e U l => wb_nil (h2 e U l)
theorem wb_whenW {u : List Stmt} (hc : WT K X δ c W fun t U => if t = true then WB K X δ u U { P with nx := fun δ' Z => WB K X δ' rest Z P } else WB K X δ rest U P) : WB K X δ (.If c u [] pos :: rest) W P :=
  wb_cons (ws_ifW fun σ r Q q => hc σ r Q fun t U gu p => q t U gu (by
    cases t with
    | true => rw [if_pos rfl] at p ⊢; exact p
    | false => rw [if_neg (by decide)] at p ⊢; exact wb_nil p))
/-- l.append(e), l a list that may change -/
theorem wb_app (i : Nat) {x : Str} {px apos cpos : Pos} {l : Addr} {vs : List V} (hl : W.H l = some (.lst vs)) (hg : W.G l = none) (hz : vs.length < 1000000) (he : EvE K X δ e W d)
    (h : ∀ U v, (l1 : Le W U) → (hg' : U.G l = none) → Rp K U.G v d → WB K X δ rest (U.put l (.lst (vs ++ [v])) hg') P) (hi : δ[i]? = some (some (.v (.ref l))) := by rfl)
    (hN : X.N[i]? = some x := by rfl) (hv : Vis X.env.scope x := by first | exact Or.inl rfl | exact Or.inr (Or.inl rfl) | exact Or.inr (Or.inr rfl))
    (hd : (x == ("__debug__" : Str)) = false := by decide) (hcd : (x == ("__classdict__" : Str)) = false := by decide)
    (hbase : attributeBase (.Name x px) "append" X.env (eval (.Name x px) X.env) = eval (.Name x px) X.env := by rfl)
    (hfew : ((backTo cpos (starEach [e] X.env)).all (fun x => !x.1) && (backToKw cpos (keywordEach [] X.env)).all (fun x => x.1.isSome)
      && decide ([e].length + ([] : List Keyword).length + (if ([] : List Keyword).isEmpty then 0 else 1) < 30)) = true := by rfl)
    (hline : (apos.endLine == cpos.line) = true := by rfl) (hs : starEach [e] X.env = (false, eval e X.env) :: starEach [] X.env := by rfl) (hplain : (backTo cpos (starEach [] X.env)).any (·.1) = false := by rfl)
    (hsw : swapsWith (.Call (.Attribute (.Name x px) "append" apos) [e] [] cpos) none pos.line X.env = pure false := by rfl) :
    WB K X δ (.Expr (.Call (.Attribute (.Name x px) "append" apos) [e] [] cpos) pos :: rest) W P :=
  wb_cons fun σ r => by
    obtain ⟨v, e1, e2⟩ := r.at_ i _ hi
    obtain rfl : v = .ref l := e2
    refine (ps_expr (pe_bm PySem.F.plainAttrs_list PySem.F.slot_list_append PySem.F.type_list_append mt_append (pe_var hN hv hd hcd) (pa_cons (pe_w X e) pa_nil hs) hbase hfew hline hs hplain) hsw).w ?_
    refine ⟨.ref l, e1, .inl ⟨rfl, vs, SqL.of hl⟩, he W (Le.refl W) σ r _ fun v U l1 rv => ?_⟩
    have hg' : U.G l = none := l1.fr l (by rw [hl]; simp) hg
    exact ⟨l, vs, v, rfl, rfl, l1.h l _ hl, szl hz, δ, U.put l (.lst (vs ++ [v])) hg', rfl, r.up l1.g, h U v l1 hg' rv⟩
/-! ### iterators -/
@[irreducible] def wI (X : Cx) (tg iter : Expr) : TI := fun σ H R => ∀ (pins : List (Addr × Obj)) (s : Shared), Inv X pins σ H s → wpAny (model X.prog X.w) X.A (eval iter X.env) (fun v s1 => wpAny (model X.prog X.w) X.A (pyIter v) (PIE X pins σ tg R) X.xe s1) X.xe s
theorem wI.run {X : Cx} {tg iter : Expr} {σ : St} {H : Hp} {R : It → Hp → Prop} (h : wI X tg iter σ H R) : ∀ (pins : List (Addr × Obj)) (s : Shared), Inv X pins σ H s → wpAny (model X.prog X.w) X.A (eval iter X.env) (fun v s1 => wpAny (model X.prog X.w) X.A (pyIter v) (PIE X pins σ tg R) X.xe s1) X.xe s := by unfold wI at h; exact h
theorem wI.mk {X : Cx} {tg iter : Expr} {σ : St} {H : Hp} {R : It → Hp → Prop} (h : ∀ (pins : List (Addr × Obj)) (s : Shared), Inv X pins σ H s → wpAny (model X.prog X.w) X.A (eval iter X.env) (fun v s1 => wpAny (model X.prog X.w) X.A (pyIter v) (PIE X pins σ tg R) X.xe s1) X.xe s) : wI X tg iter σ H R := by unfold wI; exact h
theorem pi_w (X : Cx) (tg iter : Expr) : PI X tg iter (wI X tg iter) := ⟨fun pins s _ _ _ I h => h.run pins s I⟩
theorem _root_.L2.PI.w {tg iter : Expr} {t : TI} (p : PI X tg iter t) {σ : St} {H : Hp} {R : It → Hp → Prop} (h : t σ H R) : wI X tg iter σ H R := wI.mk fun pins s I => p.run pins s σ H R I h
/-- the iterator gives these, one after another -/
def Walk (kd : Bool) (K : PySem.W.Frag) (J : It) (G0 : Hp) (ds : List PyData) : Prop := ∀ (i : Nat) (U : Wd), Sub G0 U.G →
  (∀ d, ds[i]? = some d → J.go i U.H ∧ ∀ x H', J.yld i U.H x H' → ∃ Z : Wd, Le U Z ∧ Z.H = H' ∧ Rk kd K Z.G x d) ∧ (ds.length ≤ i → J.stop i U.H)
def EvI (kd : Bool) (K : PySem.W.Frag) (X : Cx) (δ : Sd) (tg iter : Expr) (W : Wd) (ds : List PyData) : Prop := ∀ U, Le W U → ∀ σ, SRep K U.G σ δ → ∀ R : It → Hp → Prop, (∀ J Z, Le U Z → Walk kd K J Z.G ds → R J Z.H) → wI X tg iter σ U.H R
theorem walk_l {G : Hp} {p : Addr} {vs : List V} {ds : List PyData} (h : SqL K G p vs) (r : RpL K G vs ds) : Walk false K (Itl K p) G ds := fun i U s => by
  have h2 := U.ex.l (s.l h)
  refine ⟨fun d hd => ?_, fun hi => ⟨vs, h2, by rw [r.len]; exact hi⟩⟩
  obtain ⟨v, hv, rv⟩ := r.at hd
  refine ⟨⟨vs, v, h2, hv⟩, fun x H' hy => ⟨U, Le.refl U, hy.1.symm, ?_⟩⟩
  have e := hy.2 vs h2
  rw [hv] at e
  rw [← Option.some.inj e]
  exact .inl (rv.up s)
theorem walk_t {G : Hp} {p : Addr} {vs : List V} {ds : List PyData} (h : SqT K G p vs) (r : RpL K G vs ds) : Walk false K (Itt K p) G ds := fun i U s => by
  have h2 := U.ex.t (s.t h)
  refine ⟨fun d hd => ?_, fun hi => ⟨vs, h2, by rw [r.len]; exact hi⟩⟩
  obtain ⟨v, hv, rv⟩ := r.at hd
  refine ⟨⟨vs, v, h2, hv⟩, fun x H' hy => ⟨U, Le.refl U, hy.1.symm, ?_⟩⟩
  have e := hy.2 vs h2
  rw [hv] at e
  rw [← Option.some.inj e]
  exact .inl (rv.up s)
/-- lo, lo + 1, .. (n of them) -/
def rngD (lo : Int) (n : Nat) : List PyData := (List.range n).map fun i : Nat => PyData.int (lo + (i : Int))
theorem rngD_len (lo : Int) (n : Nat) : (rngD lo n).length = n := by unfold rngD; rw [List.length_map, List.length_range]
theorem rngD_at {lo : Int} {n i : Nat} {d : PyData} (h : (rngD lo n)[i]? = some d) : i < n ∧ d = .int (lo + (i : Int)) := by
  have hi : i < n := by
    have z := (List.getElem?_eq_some_iff.mp h).1
    rwa [rngD_len] at z
  unfold rngD at h
  rw [List.getElem?_map, List.getElem?_range hi] at h
  exact ⟨hi, (Option.some.inj h).symm⟩
theorem walk_r {G : Hp} (lo : Int) (n : Nat) : Walk false K (Itr lo n) G (rngD lo n) := fun i U s => by
  refine ⟨fun d hd => ?_, fun hi => by rw [rngD_len] at hi; exact hi⟩
  obtain ⟨h1, h2⟩ := rngD_at hd
  refine ⟨h1, fun x H' hy => ⟨U, Le.refl U, hy.1.symm, ?_⟩⟩
  obtain ⟨_, e⟩ := hy
  rw [e, h2]
  exact .inl (.int _)
/-- 0, 1, .. (n of them) -/
def rngN (n : Nat) : List PyData := (List.range n).map fun i : Nat => PyData.int (i : Int)
theorem rngN_eq (n : Nat) : rngN n = rngD 0 n := by
  unfold rngN rngD
  congr 1
  funext i
  rw [Int.zero_add]
theorem rngN_len (n : Nat) : (rngN n).length = n := by rw [rngN_eq, rngD_len]
theorem rngN_at {n i : Nat} {d : PyData} (h : (rngN n)[i]? = some d) : i < n ∧ d = .int (i : Int) := by
  rw [rngN_eq] at h
  obtain ⟨h1, h2⟩ := rngD_at h
  rw [Int.zero_add] at h2
  exact ⟨h1, h2⟩
theorem EvI.up {kd : Bool} {ds : List PyData} (h : EvI kd K X δ tg iter W ds) (k : Le W U) : EvI kd K X δ tg iter U ds := fun Z l => h Z (k.tr l)
theorem ei_l {ds : List PyData} (h : EvE K X δ iter W (.list ds)) : EvI false K X δ tg iter W ds := fun U l σ r R q =>
  (pi_list (pe_w X iter)).w (h U l σ r _ fun v Z l2 rv => by
    obtain ⟨p, vs, e1, e2, e3⟩ := rv.lst_inv
    rw [g.hK]
    exact ⟨p, e1, ⟨vs, Z.ex.l e2⟩, q _ Z l2 (walk_l e2 e3)⟩)
theorem ei_t {ds : List PyData} (h : EvE K X δ iter W (.tuple ds)) : EvI false K X δ tg iter W ds := fun U l σ r R q =>
  (pi_tup (pe_w X iter)).w (h U l σ r _ fun v Z l2 rv => by
    obtain ⟨p, vs, e1, e2, e3⟩ := rv.tup_inv
    rw [g.hK]
    exact ⟨p, e1, ⟨vs, Z.ex.t e2⟩, q _ Z l2 (walk_t e2 e3)⟩)
theorem ei_r1 {n : Int} {p : Pos} (h : EvE K X δ a W (.int n)) (hn : -1000000 ≤ n ∧ n ≤ 1000000) (hg : Gl X "range" := by rfl) (he : starEach [a] X.env = (false, eval a X.env) :: starEach [] X.env := by rfl) : EvI false K X δ tg (.Call (.Name "range" p) [a] [] pos) W (rngN n.toNat) := by
  rw [rngN_eq]
  exact fun U l σ r R q =>
  (pi_range1 hg (g.bn _ (by simp)) (pa_cons (pe_w X a) pa_nil he) he).w (h U l σ r _ fun v Z l2 rv => ⟨n, by rw [rv.int_inv], by omega, by omega, q _ Z l2 (walk_r 0 _)⟩)
theorem ei_r2 {m n : Int} {p : Pos} (h : EvE K X δ a W (.int m)) (k : EvE K X δ b W (.int n)) (hm : -1000000 ≤ m ∧ m ≤ 1000000) (hn : -1000000 ≤ n ∧ n ≤ 1000000) (hg : Gl X "range" := by rfl) (he : starEach [a, b] X.env = (false, eval a X.env) :: starEach [b] X.env := by rfl)
    (he2 : starEach [b] X.env = (false, eval b X.env) :: starEach [] X.env := by rfl) : EvI false K X δ tg (.Call (.Name "range" p) [a, b] [] pos) W (rngD m (n - m).toNat) := fun U l σ r R q =>
  (pi_range2 hg (g.bn _ (by simp)) (pa_cons (pe_w X a) (pa_cons (pe_w X b) pa_nil he2) he) (he.trans (by rw [he2] <;> rfl)) he2).w (h U l σ r _ fun v Z l2 rv => k Z (l.tr l2) σ (r.up l2.g) _ fun u Y l3 ru => ⟨m, n, by rw [rv.int_inv, ru.int_inv], by omega, q _ Y (l2.tr l3) (walk_r m _)⟩)
/-! ### for -/
theorem wb_for {kd : Bool} {ds : List PyData} (hi : EvI kd K X δ tg iter W ds) (J : Nat → Sd → Wd → Prop) (h0 : ∀ U, Le W U → J 0 δ U)
    (hs : ∀ i d δ1 U, ds[i]? = some d → J i δ1 U → ∀ Z, Le U Z → ∃ δ2 is, TgD kd K X δ1 tg d δ2 is ∧ WB K X δ2 body Z { P with nx := fun δ' Y => Sub Z.G Y.G ∧ J (i + 1) δ' Y, ct := fun δ' Y => Sub Z.G Y.G ∧ J (i + 1) δ' Y, bk := fun δ' Y => WB K X δ' rest Y P })
    (hd : ∀ δ1 U, J ds.length δ1 U → WB K X δ1 rest U P) (hp : PassesOwn (model X.prog X.w) X.A X.env X.xe := by exact PassesOwn.never) (hf : ∀ x, foldedSetIterable iter X.env x = pure x := by intro _; rfl) : WB K X δ (.For tg iter body [] pos :: rest) W P :=
  wb_cons fun σ r => by
    refine (ps_for hp g.calm (pi_w X tg iter) (pg_w X tg) (pb_w X body) hf).w (hi W (Le.refl W) σ r _ fun It0 Z0 l0 wk => ?_)
    refine ⟨fun i m σ1 H1 => m = ds.length - i ∧ i ≤ ds.length ∧ ∃ δ1 U, H1 = U.H ∧ SRep K U.G σ1 δ1 ∧ Sub Z0.G U.G ∧ J i δ1 U, ⟨ds.length, by simp, Nat.zero_le _, δ, Z0, rfl, r.up l0.g, Sub.rfl', h0 Z0 l0⟩, ?_⟩
    rintro i m σ1 H1 ⟨rfl, hle, δ1, U, rfl, r1, sg, j⟩
    obtain ⟨w1, w2⟩ := wk i U sg
    by_cases hlt : i < ds.length
    · obtain ⟨go, yl⟩ := w1 ds[i] (List.getElem?_eq_getElem hlt)
      refine .inr ⟨go, fun σ2 H2 => ∃ δ2 Y, H2 = Y.H ∧ SRep K Y.G σ2 δ2 ∧ Sub Z0.G Y.G ∧ J (i + 1) δ2 Y, fun σ2 H2 q => ⟨ds.length - (i + 1), by omega, rfl, hlt, q⟩, fun x H2 hy => ?_⟩
      obtain ⟨Z, lz, rfl, rx⟩ := yl x H2 hy
      obtain ⟨δ2, is, ht, hb⟩ := hs i ds[i] δ1 U (List.getElem?_eq_getElem hlt) j Z lz
      refine ht Z.G Z.H σ1 x Z.ex (r1.up lz.g) rx _ fun σ' r' _ => ?_
      refine wB_imp (hb σ' r') (fun σ3 H3 ⟨δ3, Y, e3, r3, s3, j3⟩ => ⟨δ3, Y, e3, r3, (sg.tr lz.g).tr s3, j3⟩) (fun _ _ q => q) (fun σ3 H3 ⟨δ3, Y, e3, r3, q⟩ => by rw [e3]; exact ⟨δ3, Y, rfl, r3, q⟩) fun σ3 H3 ⟨δ3, Y, e3, r3, s3, j3⟩ => ⟨δ3, Y, e3, r3, (sg.tr lz.g).tr s3, j3⟩
    · have e : i = ds.length := by omega
      subst e
      exact .inl ⟨w2 (Nat.le_refl _), δ1, U, rfl, r1, hd δ1 U j⟩
end
end Pk
set_option Elab.async false
set_option linter.all false
set_option maxRecDepth 100000
set_option maxHeartbeats 4000000
namespace Pk
open PySem PySem.Spec L2
open PyProof.Rows hiding St
/-- the context within a comprehension -/
def BX (X : Cx) (scope : Scope) (s : Shared) (H : Hp) (C : Addr) (cl : List (Str × Addr)) (fp : List Addr) : Cx := X.blk s H scope (compEnvC scope cl C X.env) fp
instance good_bx {K : PySem.W.Frag} {X : Cx} [g : Good K X] {scope : Scope} {s : Shared} {H : Hp} {C : Addr} {cl : List (Str × Addr)} {fp : List Addr} : Good K (BX X scope s H C cl fp) := ⟨g.hK, g.calm, g.nd, g.room, g.bn⟩
section
variable (X : Cx)
@[irreducible] def wTs (ifs : List Expr) : TT := fun σ H Q => ∀ (pins : List (Addr × Obj)) (s : Shared), Inv X pins σ H s → wpAny (model X.prog X.w) X.A (forIn ifs true fun c r => if r = true then do let ok ← isTrue c X.env (eval c X.env); pure (ForInStep.yield ok) else pure (ForInStep.yield r)) (TP X pins σ Q) X.xe s
theorem wTs.run {X : Cx} {ifs : List Expr} {σ : St} {H : Hp} {Q : Bool → Hp → Prop} (h : wTs X ifs σ H Q) : ∀ (pins : List (Addr × Obj)) (s : Shared), Inv X pins σ H s → wpAny (model X.prog X.w) X.A (forIn ifs true fun c r => if r = true then do let ok ← isTrue c X.env (eval c X.env); pure (ForInStep.yield ok) else pure (ForInStep.yield r)) (TP X pins σ Q) X.xe s := by unfold wTs at h; exact h
theorem wTs.mk {X : Cx} {ifs : List Expr} {σ : St} {H : Hp} {Q : Bool → Hp → Prop} (h : ∀ (pins : List (Addr × Obj)) (s : Shared), Inv X pins σ H s → wpAny (model X.prog X.w) X.A (forIn ifs true fun c r => if r = true then do let ok ← isTrue c X.env (eval c X.env); pure (ForInStep.yield ok) else pure (ForInStep.yield r)) (TP X pins σ Q) X.xe s) : wTs X ifs σ H Q := by unfold wTs; exact h
theorem pts_w (ifs : List Expr) : PTs X ifs (wTs X ifs) := ⟨fun pins s _ _ _ I h => h.run pins s I⟩
end
theorem _root_.L2.PTs.w {X : Cx} {ifs : List Expr} {t : TT} (p : PTs X ifs t) {σ : St} {H : Hp} {Q : Bool → Hp → Prop} (h : t σ H Q) : wTs X ifs σ H Q := wTs.mk fun pins s I => p.run pins s σ H Q I h
section
variable (X : Cx) (scope : Scope)
def bG (tg : Expr) : TG := fun v σ H Q => ∀ s H0 C cl fp, wG (BX X scope s H0 C cl fp) tg v σ H Q
def bTs (ifs : List Expr) : TT := fun σ H Q => ∀ s H0 C cl fp, wTs (BX X scope s H0 C cl fp) ifs σ H Q
def bE (e : Expr) : TE := fun σ H Q => ∀ s H0 C cl fp, wE (BX X scope s H0 C cl fp) e σ H Q
end
/-- tests in a row: run, evaluated -/
def WTs (K : PySem.W.Frag) (X : Cx) (δ : Sd) (ifs : List Expr) (W : Wd) (Post : Bool → Wd → Prop) : Prop := ∀ σ, SRep K W.G σ δ → ∀ Q : Bool → Hp → Prop, (∀ b Z, Sub W.G Z.G → Post b Z → Q b Z.H) → wTs X ifs σ W.H Q
section
variable {K : PySem.W.Frag} {X : Cx} {δ : Sd} {W : Wd} {c : Expr} {P Q : Bool → Wd → Prop}
theorem wts_nil (h : P true W) : WTs K X δ [] W P := fun σ r Q q => (pts_nil (X := X)).w (q true W Sub.rfl' h)
theorem wts_one (h : WT K X δ c W P) : WTs K X δ [c] W P := fun σ r Q q => (pts_one (pt_w X c)).w (h σ r Q q)
end
/-! ### kinds of steps -/
structure Stp (R : Wd → Wd → Prop) (ok : Addr → Prop) : Prop where
  le : ∀ {W U}, Le W U → R W U
  tr : ∀ {A B C}, R A B → R B C → R A C
  g : ∀ {W U}, R W U → Sub W.G U.G
  keep : ∀ {W U}, R W U → ∀ p o, ok p → W.H p = some o → U.H p = some o
  fr : ∀ {W U}, R W U → ∀ p, W.H p ≠ none → W.G p = none → U.G p = none
  put : ∀ {W U p o} {hg : U.G p = none}, R W U → W.H p = none → R W (U.put p o hg)
  frz : ∀ {W U p o} {hh : U.H p = some o}, R W U → W.H p = none → U.G p = none → R W (U.frz p o hh)
theorem stp_le : Stp Le fun _ => True := ⟨fun h => h, fun h k => h.tr k, fun h => h.g, fun h p o _ e => h.h p o e, fun h p a b => h.fr p a b, fun h hp => Wd.put_le h hp, fun h hp hg => Wd.frz_le h hp hg⟩
theorem stp_dr (m : Addr) : Stp (Dr m) fun p => p ≠ m := ⟨fun h => h.dr m, fun h k => h.tr k, fun h => h.g, fun h p o n e => h.h p o n e, fun h p a b => h.fr p a b, fun h hp => Wd.put_dr h hp, fun h hp hg => Wd.frz_dr h hp hg⟩
section
variable {K : PySem.W.Frag} {X : Cx} [g : Good K X] {δ : Sd} {W : Wd} {tg iter elt : Expr} {ifs : List Expr} {scope : Scope} {pos : Pos}
/-- one turn of a comprehension -/
def Turn1 (kd : Bool) (K : PySem.W.Frag) (X : Cx) (δ : Sd) (vs : List Nat) (scope : Scope) (tg elt : Expr) (ifs : List Expr) (R : Wd → Wd → Prop) (d : PyData) (U : Wd) (no : Wd → Prop) (yes : PyData → Wd → Prop) : Prop :=
  ∃ (δ2 : Sd) (is : List Nat), (∀ s H0 C cl fp, Good K (BX X scope s H0 C cl fp) → TgD kd K (BX X scope s H0 C cl fp) (wipeD δ vs) tg d δ2 is) ∧ (∀ i ∈ is, i ∈ vs) ∧
    (∀ s H0 C cl fp, Good K (BX X scope s H0 C cl fp) → WTs K (BX X scope s H0 C cl fp) δ2 ifs U fun b Z => R U Z ∧
      if b = true then ∀ s H0 C cl fp, Good K (BX X scope s H0 C cl fp) → WE K (BX X scope s H0 C cl fp) δ2 elt Z fun e Y => R Z Y ∧ yes e Y else no Z)
theorem wipe_wipe {σ : St} (vs : List Nat) : L2.wipe (L2.wipe σ vs) vs = L2.wipe σ vs := by
  have key : ∀ ws : List Nat, (∀ w ∈ ws, w ∈ vs) → L2.wipe (L2.wipe σ ws) vs = L2.wipe σ vs := by
    intro ws
    induction ws with
    | nil => intro _; rfl
    | cons w ws ih =>
      intro h
      show L2.wipe ((L2.wipe σ ws).set w none) vs = _
      rw [wipe_at (h w List.mem_cons_self), ih fun z hz => h z (List.mem_cons_of_mem _ hz)]
  exact key vs fun _ h => h
theorem lc_read {kd : Bool} {vs : List Nat} {ds : List PyData} {R : Wd → Wd → Prop} {ok : Addr → Prop} (S : Stp R ok) (hi : EvI kd K X δ tg iter W ds) (hfr : ∀ p, W.H p = none → ok p) (J : Nat → List PyData → Wd → Prop)
    (hput : ∀ i acc (U : Wd) p o (hg : U.G p = none), W.H p = none → J i acc U → J i acc (U.put p o hg)) (hfz : ∀ acc (U : Wd) p o (hh : U.H p = some o), W.H p = none → J ds.length acc U → J ds.length acc (U.frz p o hh)) (hup : ∀ i acc U Z, Le U Z → J i acc U → J i acc Z) (h0 : ∀ U, Le W U → J 0 [] U) (hsz : ds.length < 1000000)
    (hs : ∀ i d acc U, ds[i]? = some d → R W U → J i acc U → Turn1 kd K X δ vs scope tg elt ifs R d U (fun Z => J (i + 1) acc Z) fun e Y => J (i + 1) (acc ++ [e]) Y) :
    ∀ σ, SRep K W.G σ δ → ∀ Q : VK, (∀ v acc U, R W U → J ds.length acc U → Rp K U.G v (.list acc) → Q v U.H) → tLc (wI X tg iter) (bG X scope tg) (bTs X scope ifs) (bE X scope elt) vs σ W.H Q := fun σ r Q q => by
  refine hi W (Le.refl W) σ r _ fun It0 Z0 l0 wk => ?_
  intro D hD
  have hWD : W.H D = none := by
    cases z : W.H D with
    | none => rfl
    | some o => rw [l0.h D o z] at hD; cases hD
  -- between two turns: the list at D, outside of what never changes
  refine ⟨fun i m H1 => m = ds.length - i ∧ i ≤ ds.length ∧ ∃ (U : Wd) (us : List V) (acc : List PyData), H1 = U.H ∧ R W U ∧ Sub Z0.G U.G ∧ U.G D = none ∧ U.H D = some (.lst us) ∧ RpL K U.G us acc ∧ acc.length ≤ i ∧ J i acc U,
    ⟨ds.length, by simp, Nat.zero_le _, Z0.put D (.lst []) (Z0.gnone hD), [], [], rfl, S.put (S.le l0) hWD, Sub.rfl', Z0.gnone hD, upd_same, .nil, Nat.le_refl _, hput _ _ _ _ _ _ hWD (h0 Z0 l0)⟩, ?_⟩
  rintro i m H1 ⟨rfl, hle, U, us, acc, rfl, rU, sg, gD, hUD, ra, hacc, j⟩
  obtain ⟨w1, w2⟩ := wk i U sg
  by_cases hlt : i < ds.length
  · obtain ⟨go, yl⟩ := w1 ds[i] (List.getElem?_eq_getElem hlt)
    refine .inr ⟨go, fun H2 => ∃ (U : Wd) (us : List V) (acc : List PyData), H2 = U.H ∧ R W U ∧ Sub Z0.G U.G ∧ U.G D = none ∧ U.H D = some (.lst us) ∧ RpL K U.G us acc ∧ acc.length ≤ i + 1 ∧ J (i + 1) acc U, fun H2 z => ⟨ds.length - (i + 1), by omega, rfl, hlt, z⟩, fun x H2 hy => ?_⟩
    obtain ⟨Z, lz, rfl, rx⟩ := yl x H2 hy
    have sz : Sub W.G Z.G := S.g (S.tr rU (S.le lz))
    obtain ⟨δ2, is, ht, his, hb⟩ := hs i ds[i] acc Z (List.getElem?_eq_getElem hlt) (S.tr rU (S.le lz)) (hup _ _ _ _ lz j)
    have okD : ok D := hfr D hWD
    have hZD : Z.H D = some (.lst us) := lz.h D _ hUD
    have gZD : Z.G D = none := lz.fr D (by rw [hUD]; simp) gD
    intro s H0 C cl fp
    refine ht s H0 C cl fp good_bx Z.G Z.H _ x Z.ex ((r.up sz).wipe vs) rx _ fun σ' r' w' => ⟨(w' vs his).trans (wipe_wipe vs), ?_⟩
    intro s1 H1 C1 cl1 fp1
    refine hb s1 H1 C1 cl1 fp1 good_bx σ' r' _ fun b Z2 g2 ⟨rz, q2⟩ => ?_
    have k2 : Z2.H D = some (.lst us) := S.keep rz D _ okD hZD
    have n2 : Z2.G D = none := S.fr rz D (by rw [hZD]; simp) gZD
    have t2 := S.tr (S.tr rU (S.le lz)) rz
    cases b with
    | false =>
      rw [if_neg (by decide)] at q2 ⊢
      exact ⟨Z2, us, acc, rfl, t2, (sg.tr lz.g).tr g2, n2, k2, ra.up (lz.g.tr g2), by omega, q2⟩
    | true =>
      rw [if_pos rfl] at q2 ⊢
      intro s2 H2 C2 cl2 fp2
      refine q2 s2 H2 C2 cl2 fp2 good_bx σ' (r'.up g2) _ fun v e Y g3 rv ⟨ry, jy⟩ => ?_
      have k3 : Y.H D = some (.lst us) := S.keep ry D _ okD k2
      have n3 : Y.G D = none := S.fr ry D (by rw [k2]; simp) n2
      refine ⟨us, k3, szl (by rw [ra.len]; omega), Y.put D (.lst (us ++ [v])) n3, us ++ [v], acc ++ [e], rfl, S.put (S.tr t2 ry) hWD, ((sg.tr lz.g).tr g2).tr g3, n3, upd_same, (ra.up ((lz.g.tr g2).tr g3)).app (.one rv), by rw [List.length_append, List.length_singleton]; omega, hput _ _ _ _ _ _ hWD jy⟩
  · have e : i = ds.length := by omega
    subst e
    refine .inl ⟨w2 (Nat.le_refl _), ?_⟩
    exact q (.ref D) acc (U.frz D _ hUD) (S.frz rU hWD gD) (hfz _ _ _ _ _ hWD j) (.lst upd_same (ra.up (Wd.frz_g gD)))
theorem pg_b (tg : Expr) (s : Shared) (H0 : Hp) (C : Addr) (cl : List (Str × Addr)) (fp : List Addr) : PG (X.blk s H0 scope (compEnvC scope cl C X.env) fp) tg (bG X scope tg) := ⟨fun pins s1 σ H v u Q I r h => (h s H0 C cl fp).run pins s1 u I r⟩
theorem pts_b (ifs : List Expr) (s : Shared) (H0 : Hp) (C : Addr) (cl : List (Str × Addr)) (fp : List Addr) : PTs (X.blk s H0 scope (compEnvC scope cl C X.env) fp) ifs (bTs X scope ifs) := ⟨fun pins s1 σ H Q I h => (h s H0 C cl fp).run pins s1 I⟩
theorem pe_b (e : Expr) (s : Shared) (H0 : Hp) (C : Addr) (cl : List (Str × Addr)) (fp : List Addr) : PE (X.blk s H0 scope (compEnvC scope cl C X.env) fp) e (bE X scope e) := ⟨fun pins s1 σ H Q I h => (h s H0 C cl fp).run _ pins s1 I⟩
/-- what a comprehension gives, as a list that never changes; the way there a step of the kind R -/
def LcOut (K : PySem.W.Frag) (X : Cx) (δ : Sd) (W : Wd) (scope : Scope) (tg iter elt : Expr) (ifs : List Expr) (vs : List Nat) (Post : PyData → Wd → Prop) : Prop :=
  ∀ σ, SRep K W.G σ δ → ∀ Q : VK, (∀ v d U, Sub W.G U.G → Post d U → Rp K U.G v d → Q v U.H) → tLc (wI X tg iter) (bG X scope tg) (bTs X scope ifs) (bE X scope elt) vs σ W.H Q
theorem we_lc (own : List (Str × Nat)) {Post : PyData → Wd → Prop} (h : LcOut K X δ W scope tg iter elt ifs (own.map (·.2)) Post) (ok : BlkOk X.N X.env.scope scope own := by exact blkOk_by (by kernel_rfl)) (hs : ∀ x, foldedSetIterable iter X.env x = pure x := by intro _; rfl) :
    WE K X δ (.ListComp elt [⟨tg, iter, ifs, 0⟩] scope pos) W Post := fun σ r Q q =>
  (pe_lc g.calm g.nd (pi_w X tg iter) ok (pg_b tg) (pts_b ifs) (pe_b elt) hs).w (h σ r Q fun v d U gu p rv => q v d U gu rv p)
/-- y = [..] on one line, y a local that the comprehension does not read -/
theorem wb_setLc (i : Nat) (own : List (Str × Nat)) {y : Str} {py spos : Pos} {rest : List Stmt} {P : Po} (h : LcOut K X δ W scope tg iter elt ifs (own.map (·.2)) fun d U => WB K X (δ.set i (some (.d d))) rest U P) (hy : X.N[i]? = some y := by rfl) (hyl : X.env.scope.names.lookup y = some .local := by rfl)
    (hsw : swapsWith (.ListComp elt [⟨tg, iter, ifs, 0⟩] scope pos) (some (.Name y py)) spos.line X.env = pure true := by exact sw_true rfl rfl rfl (by kernel_rfl)) (ok : BlkOk X.N X.env.scope scope own := by exact blkOk_by (by kernel_rfl)) (hs : ∀ x, foldedSetIterable iter X.env x = pure x := by intro _; rfl) :
    WB K X δ (.Assign [.Name y py] (.ListComp elt [⟨tg, iter, ifs, 0⟩] scope pos) spos :: rest) W P :=
  wb_cons fun σ r => (ps_setLc g.calm g.nd hy hyl hsw (pi_w X tg iter) ok (pg_b tg) (pts_b ifs) (pe_b elt) hs).w (h σ r _ fun v d U gu p rv => ⟨_, U, rfl, SRep.set (s := .d d) (r.up gu) rv i, p⟩)
/-- pure, no tests -/
theorem lc_map {kd : Bool} {vs : List Nat} {ds : List PyData} (f : PyData → PyData) (hi : EvI kd K X δ tg iter W ds) (hsz : ds.length < 1000000)
    (hs : ∀ (i : Nat) d U, ds[i]? = some d → Le W U → ∃ (δ2 : Sd) (is : List Nat), (∀ s H0 C cl fp, Good K (BX X scope s H0 C cl fp) → TgD kd K (BX X scope s H0 C cl fp) (wipeD δ vs) tg d δ2 is) ∧ (∀ i ∈ is, i ∈ vs) ∧
      ∀ s H0 C cl fp, Good K (BX X scope s H0 C cl fp) → EvE K (BX X scope s H0 C cl fp) δ2 elt U (f d)) : LcOut K X δ W scope tg iter elt [] vs fun d U => d = .list (ds.map f) ∧ Le W U := fun σ r Q q => by
  refine lc_read stp_le hi (fun _ _ => trivial) (fun i acc _ => acc = (ds.take i).map f) (fun _ _ _ _ _ _ _ j => j) (fun _ _ _ _ _ _ j => j) (fun _ _ _ _ _ j => j) (fun _ _ => rfl) hsz (fun i d acc U hd l j => ?_) σ r Q fun v acc U l j rv => ?_
  · obtain ⟨δ2, is, h1, h2, h3⟩ := hs i d U hd l
    refine ⟨δ2, is, h1, h2, fun s H0 C cl fp gb => wts_nil ⟨Le.refl U, ?_⟩⟩
    rw [if_pos rfl]
    intro s H0 C cl fp gb
    refine we_ev (h3 s H0 C cl fp gb) fun Y l2 => ⟨l2, ?_⟩
    show acc ++ [f d] = (ds.take (i + 1)).map f
    rw [j, List.take_add_one, hd, List.map_append] <;> rfl
  · have e : acc = ds.map f := by
      have j' : acc = (ds.take ds.length).map f := j
      rw [List.take_length] at j'
      exact j'
    exact q v _ U l.g ⟨by rw [e], l⟩ rv
/-- pure, one test -/
theorem lc_filter {kd : Bool} {vs : List Nat} {ds : List PyData} {c : Expr} (p : PyData → Bool) (f : PyData → PyData) (hi : EvI kd K X δ tg iter W ds) (hsz : ds.length < 1000000)
    (hs : ∀ (i : Nat) d U, ds[i]? = some d → Le W U → ∃ (δ2 : Sd) (is : List Nat), (∀ s H0 C cl fp, Good K (BX X scope s H0 C cl fp) → TgD kd K (BX X scope s H0 C cl fp) (wipeD δ vs) tg d δ2 is) ∧ (∀ i ∈ is, i ∈ vs) ∧
      (∀ s H0 C cl fp, Good K (BX X scope s H0 C cl fp) → EvT K (BX X scope s H0 C cl fp) δ2 c U (p d)) ∧ ∀ s H0 C cl fp, Good K (BX X scope s H0 C cl fp) → p d = true → EvE K (BX X scope s H0 C cl fp) δ2 elt U (f d)) :
    LcOut K X δ W scope tg iter elt [c] vs fun d U => d = .list ((ds.filter p).map f) ∧ Le W U := fun σ r Q q => by
  refine lc_read stp_le hi (fun _ _ => trivial) (fun i acc _ => acc = ((ds.take i).filter p).map f) (fun _ _ _ _ _ _ _ j => j) (fun _ _ _ _ _ _ j => j) (fun _ _ _ _ _ j => j) (fun _ _ => rfl) hsz (fun i d acc U hd l j => ?_) σ r Q fun v acc U l j rv => ?_
  · obtain ⟨δ2, is, h1, h2, h3, h4⟩ := hs i d U hd l
    have e1 : ds.take (i + 1) = ds.take i ++ [d] := by rw [List.take_add_one, hd] <;> rfl
    refine ⟨δ2, is, h1, h2, fun s H0 C cl fp gb => wts_one (wt_ev (h3 s H0 C cl fp gb) fun Z l1 => ⟨l1, ?_⟩)⟩
    cases hp : p d with
    | true =>
      rw [if_pos rfl]
      intro s H0 C cl fp gb
      refine we_ev ((h4 s H0 C cl fp gb hp).up l1) fun Y l2 => ⟨l2, ?_⟩
      show acc ++ [f d] = ((ds.take (i + 1)).filter p).map f
      rw [e1, List.filter_append, List.map_append, List.filter_cons, if_pos hp, j] <;> rfl
    | false =>
      rw [if_neg (by decide)]
      show acc = ((ds.take (i + 1)).filter p).map f
      rw [e1, List.filter_append, List.map_append, List.filter_cons, if_neg (by rw [hp]; decide), j]
      show _ = _ ++ []
      rw [List.append_nil]
  · have e : acc = (ds.filter p).map f := by
      have j' : acc = ((ds.take ds.length).filter p).map f := j
      rw [List.take_length] at j'
      exact j'
    exact q v _ U l.g ⟨by rw [e], l⟩ rv
theorem ev_lc (own : List (Str × Nat)) {d : PyData} (h : ∀ U, Le W U → LcOut K X δ U scope tg iter elt ifs (own.map (·.2)) fun d' Z => d' = d ∧ Le U Z) (ok : BlkOk X.N X.env.scope scope own := by exact blkOk_by (by kernel_rfl)) (hs : ∀ x, foldedSetIterable iter X.env x = pure x := by intro _; rfl) :
    EvE K X δ (.ListComp elt [⟨tg, iter, ifs, 0⟩] scope pos) W d := ev_of fun U l => we_lc own (h U l) ok hs
/-- pure, no tests, by place -/
theorem lc_mapI {kd : Bool} {vs : List Nat} {ds : List PyData} (f : Nat → PyData) (hi : EvI kd K X δ tg iter W ds) (hsz : ds.length < 1000000)
    (hs : ∀ (i : Nat) d U, ds[i]? = some d → Le W U → ∃ (δ2 : Sd) (is : List Nat), (∀ s H0 C cl fp, Good K (BX X scope s H0 C cl fp) → TgD kd K (BX X scope s H0 C cl fp) (wipeD δ vs) tg d δ2 is) ∧ (∀ i ∈ is, i ∈ vs) ∧
      ∀ s H0 C cl fp, Good K (BX X scope s H0 C cl fp) → EvE K (BX X scope s H0 C cl fp) δ2 elt U (f i)) : LcOut K X δ W scope tg iter elt [] vs fun d U => d = .list ((List.range ds.length).map f) ∧ Le W U := fun σ r Q q => by
  refine lc_read stp_le hi (fun _ _ => trivial) (fun i acc _ => acc = (List.range i).map f) (fun _ _ _ _ _ _ _ j => j) (fun _ _ _ _ _ _ j => j) (fun _ _ _ _ _ j => j) (fun _ _ => rfl) hsz (fun i d acc U hd l j => ?_) σ r Q fun v acc U l j rv => ?_
  · obtain ⟨δ2, is, h1, h2, h3⟩ := hs i d U hd l
    refine ⟨δ2, is, h1, h2, fun s H0 C cl fp gb => wts_nil ⟨Le.refl U, ?_⟩⟩
    rw [if_pos rfl]
    intro s H0 C cl fp gb
    refine we_ev (h3 s H0 C cl fp gb) fun Y l2 => ⟨l2, ?_⟩
    show acc ++ [f i] = (List.range (i + 1)).map f
    rw [j, List.range_succ, List.map_append] <;> rfl
  · exact q v _ U l.g ⟨by rw [j], l⟩ rv
/-- pure, one test, by place -/
theorem lc_filterI {kd : Bool} {vs : List Nat} {ds : List PyData} {c : Expr} (p : Nat → Bool) (f : Nat → PyData) (hi : EvI kd K X δ tg iter W ds) (hsz : ds.length < 1000000)
    (hs : ∀ (i : Nat) d U, ds[i]? = some d → Le W U → ∃ (δ2 : Sd) (is : List Nat), (∀ s H0 C cl fp, Good K (BX X scope s H0 C cl fp) → TgD kd K (BX X scope s H0 C cl fp) (wipeD δ vs) tg d δ2 is) ∧ (∀ i ∈ is, i ∈ vs) ∧
      (∀ s H0 C cl fp, Good K (BX X scope s H0 C cl fp) → EvT K (BX X scope s H0 C cl fp) δ2 c U (p i)) ∧ ∀ s H0 C cl fp, Good K (BX X scope s H0 C cl fp) → p i = true → EvE K (BX X scope s H0 C cl fp) δ2 elt U (f i)) :
    LcOut K X δ W scope tg iter elt [c] vs fun d U => d = .list (((List.range ds.length).filter p).map f) ∧ Le W U := fun σ r Q q => by
  refine lc_read stp_le hi (fun _ _ => trivial) (fun i acc _ => acc = ((List.range i).filter p).map f) (fun _ _ _ _ _ _ _ j => j) (fun _ _ _ _ _ _ j => j) (fun _ _ _ _ _ j => j) (fun _ _ => rfl) hsz (fun i d acc U hd l j => ?_) σ r Q fun v acc U l j rv => ?_
  · obtain ⟨δ2, is, h1, h2, h3, h4⟩ := hs i d U hd l
    refine ⟨δ2, is, h1, h2, fun s H0 C cl fp gb => wts_one (wt_ev (h3 s H0 C cl fp gb) fun Z l1 => ⟨l1, ?_⟩)⟩
    cases hp : p i with
    | true =>
      rw [if_pos rfl]
      intro s H0 C cl fp gb
      refine we_ev ((h4 s H0 C cl fp gb hp).up l1) fun Y l2 => ⟨l2, ?_⟩
      show acc ++ [f i] = ((List.range (i + 1)).filter p).map f
      rw [List.range_succ, List.filter_append, List.map_append, List.filter_cons, if_pos hp, j] <;> rfl
    | false =>
      rw [if_neg (by decide)]
      show acc = ((List.range (i + 1)).filter p).map f
      rw [List.range_succ, List.filter_append, List.map_append, List.filter_cons, if_neg (by rw [hp]; decide), j]
      show _ = _ ++ []
      rw [List.append_nil]
  · exact q v _ U l.g ⟨by rw [j], l⟩ rv
/-! the target one name, in slot j -/
abbrev Tg1 (K : PySem.W.Frag) (X : Cx) (δ : Sd) (scope : Scope) (tg : Expr) (own : List (Str × Nat)) (j : Nat) : Prop := ∀ d s H0 C cl fp, Good K (BX X scope s H0 C cl fp) → TgD false K (BX X scope s H0 C cl fp) (wipeD δ (own.map (·.2))) tg d ((wipeD δ (own.map (·.2))).set j (some (.d d))) [j]
theorem lcN (own : List (Str × Nat)) (j : Nat) {ds : List PyData} (f : Nat → PyData) (hi : EvI false K X δ tg iter W ds) (hsz : ds.length < 1000000)
    (hs : ∀ (i : Nat) d U, ds[i]? = some d → Le W U → ∀ s H0 C cl fp, Good K (BX X scope s H0 C cl fp) → EvE K (BX X scope s H0 C cl fp) ((wipeD δ (own.map (·.2))).set j (some (.d d))) elt U (f i))
    (ht : Tg1 K X δ scope tg own j := by exact fun _ _ _ _ _ _ _ => tg_name _) (hj : j ∈ own.map (·.2) := by decide) :
    LcOut K X δ W scope tg iter elt [] (own.map (·.2)) fun d U => d = .list ((List.range ds.length).map f) ∧ Le W U :=
  lc_mapI f hi hsz fun i d U hd l => ⟨_, [j], ht d, fun i h => by rw [List.mem_singleton.mp h]; exact hj, hs i d U hd l⟩
theorem lcNF (own : List (Str × Nat)) (j : Nat) {ds : List PyData} {c : Expr} (p : Nat → Bool) (f : Nat → PyData) (hi : EvI false K X δ tg iter W ds) (hsz : ds.length < 1000000)
    (hc : ∀ (i : Nat) d U, ds[i]? = some d → Le W U → ∀ s H0 C cl fp, Good K (BX X scope s H0 C cl fp) → EvT K (BX X scope s H0 C cl fp) ((wipeD δ (own.map (·.2))).set j (some (.d d))) c U (p i))
    (hs : ∀ (i : Nat) d U, ds[i]? = some d → Le W U → ∀ s H0 C cl fp, Good K (BX X scope s H0 C cl fp) → p i = true → EvE K (BX X scope s H0 C cl fp) ((wipeD δ (own.map (·.2))).set j (some (.d d))) elt U (f i))
    (ht : Tg1 K X δ scope tg own j := by exact fun _ _ _ _ _ _ _ => tg_name _) (hj : j ∈ own.map (·.2) := by decide) :
    LcOut K X δ W scope tg iter elt [c] (own.map (·.2)) fun d U => d = .list (((List.range ds.length).filter p).map f) ∧ Le W U :=
  lc_filterI p f hi hsz fun i d U hd l => ⟨_, [j], ht d, fun i h => by rw [List.mem_singleton.mp h]; exact hj, hc i d U hd l, hs i d U hd l⟩
theorem ev_lcN (own : List (Str × Nat)) (j : Nat) {ds : List PyData} (f : Nat → PyData) (hi : EvI false K X δ tg iter W ds) (hsz : ds.length < 1000000)
    (hs : ∀ (i : Nat) d U, ds[i]? = some d → Le W U → ∀ s H0 C cl fp, Good K (BX X scope s H0 C cl fp) → EvE K (BX X scope s H0 C cl fp) ((wipeD δ (own.map (·.2))).set j (some (.d d))) elt U (f i))
    (ht : Tg1 K X δ scope tg own j := by exact fun _ _ _ _ _ _ _ => tg_name _) (hj : j ∈ own.map (·.2) := by decide)
    (ok : BlkOk X.N X.env.scope scope own := by exact blkOk_by (by kernel_rfl)) (hf : ∀ x, foldedSetIterable iter X.env x = pure x := by intro _; rfl) :
    EvE K X δ (.ListComp elt [⟨tg, iter, [], 0⟩] scope pos) W (.list ((List.range ds.length).map f)) :=
  ev_lc own (fun U l => lcN own j f (hi.up l) hsz (fun i d Z hd l2 => hs i d Z hd (l.tr l2)) ht hj) ok hf
theorem ev_lcNF (own : List (Str × Nat)) (j : Nat) {ds : List PyData} {c : Expr} (p : Nat → Bool) (f : Nat → PyData) (hi : EvI false K X δ tg iter W ds) (hsz : ds.length < 1000000)
    (hc : ∀ (i : Nat) d U, ds[i]? = some d → Le W U → ∀ s H0 C cl fp, Good K (BX X scope s H0 C cl fp) → EvT K (BX X scope s H0 C cl fp) ((wipeD δ (own.map (·.2))).set j (some (.d d))) c U (p i))
    (hs : ∀ (i : Nat) d U, ds[i]? = some d → Le W U → ∀ s H0 C cl fp, Good K (BX X scope s H0 C cl fp) → p i = true → EvE K (BX X scope s H0 C cl fp) ((wipeD δ (own.map (·.2))).set j (some (.d d))) elt U (f i))
    (ht : Tg1 K X δ scope tg own j := by exact fun _ _ _ _ _ _ _ => tg_name _) (hj : j ∈ own.map (·.2) := by decide)
    (ok : BlkOk X.N X.env.scope scope own := by exact blkOk_by (by kernel_rfl)) (hf : ∀ x, foldedSetIterable iter X.env x = pure x := by intro _; rfl) :
    EvE K X δ (.ListComp elt [⟨tg, iter, [c], 0⟩] scope pos) W (.list (((List.range ds.length).filter p).map f)) :=
  ev_lc own (fun U l => lcNF own j p f (hi.up l) hsz (fun i d Z hd l2 => hc i d Z hd (l.tr l2)) (fun i d Z hd l2 => hs i d Z hd (l.tr l2)) ht hj) ok hf
end
end Pk
set_option Elab.async false
set_option linter.all false
set_option maxRecDepth 100000
set_option maxHeartbeats 4000000
namespace Pk
open PySem PySem.Spec L2
open PyProof.Rows hiding St
/-! ### what a def promises -/
/-- a def that changes nothing: R says of the arguments' data what is wanted of the answer's -/
def SpP (K : PySem.W.Frag) (R : List PyData → PyData → Prop) : Sp := fun vs H Q _ => ∃ (W : Wd) (ds : List PyData) (d : PyData), W.H = H ∧ RpL K W.G vs ds ∧ R ds d ∧ ∀ v U, Le W U → Rp K U.G v d → Q v U.H
/-- where a def of the module stands, and what it promises -/
def Cal (P : Program) (w : World) (K : PySem.W.Frag) (mg : Str → Option Value) (base : Heap) (CX : CXT) (j : Nat) (x : Str) (ps : List Str) (sp : Sp) : Prop :=
  ∃ (f : Addr) (fd : FuncData), mg x = some (.ref f) ∧ PySem.W.keepIn K (.ref f) = true ∧ Binds K fd ps [] ∧ FnOk P w K mg base CX j f fd ps sp
section
variable {K : PySem.W.Frag} {X : Cx} [g : Good K X] {δ : Sd} {W : Wd} {e : Expr} {es : List Expr} {pos : Pos} {d : PyData} {j : Nat} {x : Str} {ps : List Str}
theorem ev_call {R : List PyData → PyData → Prop} {ds : List PyData} {p : Pos} (C : Cal X.prog X.w X.K X.mg X.base CX0 j x ps (SpP K R)) (hr : Room j X.A) (ha : EvA K X δ (e :: es) W ds) (h : R ds d) (hg : Gl X x := by rfl)
    (hdb : (x == ("__debug__" : Str)) = false := by decide) (he : starEach (e :: es) X.env = (false, eval e X.env) :: starEach es X.env := by rfl) (hpl : (backTo pos (starEach es X.env)).any (·.1) = false := by rfl) :
    EvE K X δ (.Call (.Name x p) (e :: es) [] pos) W d := fun U l σ r Q q => by
  obtain ⟨f, fd, h1, h2, h3, h4⟩ := C
  exact (pe_call h4 hr hg h1 h2 h3 .nil pass0 (pa_w X _) hdb he hpl).w (ha U l σ r _ fun vs Z l2 rs => ⟨Z, ds, d, rfl, by rw [List.append_nil]; exact rs, h, fun v Y l3 rv => q v Y (l2.tr l3) rv⟩)
/-! ### built-in functions and types, by a rule of the kit -/
theorem ev_blt {r : List V → Hp → VK → Prop} {id : String} {ds : List PyData} {p : Pos} (hc : CallR X (.builtin id) r) (hb : x ∈ (["isinstance", "int", "bool", "tuple", "all", "zip", "range", "len", "sum", "enumerate", "dict", "list", "repr", "sorted", "set", "max", "min"] : List Str)) (hv : bootBuiltins x = some (.builtin id))
    (ha : EvA K X δ (e :: es) W ds) (h : ∀ U vs, Le W U → RpL K U.G vs ds → ∀ Q : VK, (∀ v Z, Le U Z → Rp K Z.G v d → Q v Z.H) → r vs U.H Q) (hg : Gl X x := by rfl) (hn : x ≠ "__name__" := by decide) (hdb : (x == ("__debug__" : Str)) = false := by decide)
    (he : starEach (e :: es) X.env = (false, eval e X.env) :: starEach es X.env := by rfl) (hpl : (backTo pos (starEach es X.env)).any (·.1) = false := by rfl) : EvE K X δ (.Call (.Name x p) (e :: es) [] pos) W d := fun U l σ s Q q =>
  (pe_callB hc hg (g.bn x hb) hv (pa_w X _) hn hdb he hpl).w (ha U l σ s _ fun vs Z l2 rs => h Z vs (l.tr l2) rs Q fun v Y l3 rv => q v Y (l2.tr l3) rv)
theorem ev_bty {r : List V → Hp → VK → Prop} {T : String} {ds : List PyData} {p : Pos} (hc : CallR X (.type T) r) (hb : x ∈ (["isinstance", "int", "bool", "tuple", "all", "zip", "range", "len", "sum", "enumerate", "dict", "list", "repr", "sorted", "set", "max", "min"] : List Str)) (hv : bootBuiltins x = some (.type T))
    (ha : EvA K X δ (e :: es) W ds) (h : ∀ U vs, Le W U → RpL K U.G vs ds → ∀ Q : VK, (∀ v Z, Le U Z → Rp K Z.G v d → Q v Z.H) → r vs U.H Q) (hg : Gl X x := by rfl) (hn : x ≠ "__name__" := by decide) (hdb : (x == ("__debug__" : Str)) = false := by decide)
    (he : starEach (e :: es) X.env = (false, eval e X.env) :: starEach es X.env := by rfl) (hpl : (backTo pos (starEach es X.env)).any (·.1) = false := by rfl) : EvE K X δ (.Call (.Name x p) (e :: es) [] pos) W d := fun U l σ s Q q =>
  (pe_callTy hc hg (g.bn x hb) hv (pa_w X _) hn hdb he hpl).w (ha U l σ s _ fun vs Z l2 rs => h Z vs (l.tr l2) rs Q fun v Y l3 rv => q v Y (l2.tr l3) rv)
theorem RpL.one_inv {G : Hp} {vs : List V} (h : RpL K G vs [d]) : ∃ v, vs = [v] ∧ Rp K G v d := by
  cases h with
  | cons h k => cases k; exact ⟨_, rfl, h⟩
theorem RpL.two_inv {G : Hp} {vs : List V} {d1 d2 : PyData} (h : RpL K G vs [d1, d2]) : ∃ v u, vs = [v, u] ∧ Rp K G v d1 ∧ Rp K G u d2 := by
  cases h with
  | cons h k =>
    obtain ⟨u, rfl, k2⟩ := RpL.one_inv k
    exact ⟨_, _, rfl, h, k2⟩
abbrev eaOne (X : Cx) (e : Expr) (es : List Expr) : Prop := starEach (e :: es) X.env = (false, eval e X.env) :: starEach es X.env
theorem ev_len {ds : List PyData} {p : Pos} (q : SeqD d ds) (ha : EvE K X δ e W d) (hg : Gl X "len" := by rfl) (he : starEach [e] X.env = (false, eval e X.env) :: starEach [] X.env := by rfl) : EvE K X δ (.Call (.Name "len" p) [e] [] pos) W (.int ds.length) :=
  ev_blt call_len_seq (by simp) PySem.boot_len (ea_cons ha ea_nil he) (fun U vs l rs Q k => by
    obtain ⟨v, rfl, rv⟩ := rs.one_inv
    obtain ⟨a, us, rfl, e2, e3⟩ := q.sq rv
    refine ⟨a, us, rfl, ?_, ?_⟩
    · rw [g.hK]
      exact e2.elim (fun z => .inl (U.ex.l z)) fun z => .inr (U.ex.t z)
    · rw [e3.len]; exact k _ U (Le.refl U) (.int _)) hg (by decide) (by decide) he rfl
/-- tuple(xs) of a list, tracked as b says; of a tuple: itself -/
def rTupB (K : PySem.W.Frag) (b : Bool) : List V → Hp → VK → Prop := fun xs H Q => ∃ p ys, xs = [.ref p] ∧ ((SqL K H p ys ∧ ∀ l o, H l = none → TupO b ys o → Q (.ref l) (upd H l o)) ∨ (SqT K H p ys ∧ Q (.ref p) H))
theorem cr_tupB (b : Bool) : CallR X (.type "tuple") (rTupB X.K b) := by
  intro pins s σ H xs us Q I r h
  obtain ⟨p, ys, rfl, h⟩ := h
  obtain ⟨u, rfl, rx⟩ := vals1 r
  cases rx
  rcases h with ⟨hq, q⟩ | ⟨hq, q⟩
  · obtain ⟨its, r', pl, hz⟩ := I.list hq
    have hlen := r'.length
    refine call_tuple_list pl.isList (fun h' kp => ?_) (by rw [List.size_toArray, ← hlen]; exact hz)
    exact laidT b (I.kept (h' := h') (t' := s.toks) kp) r' hz q
  · obtain ⟨its, r', pl, hz⟩ := I.tuple hq
    exact call_tuple_same pl ⟨.ref p, H, I, rfl, q⟩
theorem ev_toTup {ds : List PyData} {p : Pos} (q : SeqD d ds) (ha : EvE K X δ e W d) (hg : Gl X "tuple" := by rfl) (he : starEach [e] X.env = (false, eval e X.env) :: starEach [] X.env := by rfl) : EvE K X δ (.Call (.Name "tuple" p) [e] [] pos) W (.tuple ds) :=
  ev_bty (cr_tupB (isPs ds)) (by simp) (by decide +kernel) (ea_cons ha ea_nil he) (fun U vs l rs Q k => by
    obtain ⟨v, rfl, rv⟩ := rs.one_inv
    cases q with
    | l =>
      obtain ⟨a, us, rfl, e2, e3⟩ := rv.lst_inv
      refine ⟨a, us, rfl, .inl ⟨by rw [g.hK]; exact U.ex.l e2, fun t o ht ho => k _ (U.add t _ ht) (U.add_le ht) (add_t ht ho e3)⟩⟩
    | t =>
      obtain ⟨a, us, e1, e2, e3⟩ := rv.tup_inv
      subst e1
      exact ⟨a, us, rfl, .inr ⟨by rw [g.hK]; exact U.ex.t e2, k _ U (Le.refl U) rv⟩⟩) hg (by decide) (by decide) he rfl
theorem ev_toLst {ds : List PyData} {p : Pos} (q : SeqD d ds) (ha : EvE K X δ e W d) (hg : Gl X "list" := by rfl) (he : starEach [e] X.env = (false, eval e X.env) :: starEach [] X.env := by rfl) : EvE K X δ (.Call (.Name "list" p) [e] [] pos) W (.list ds) :=
  ev_bty call_list_of (by simp) (by decide +kernel) (ea_cons ha ea_nil he) (fun U vs l rs Q k => by
    obtain ⟨v, rfl, rv⟩ := rs.one_inv
    obtain ⟨a, us, rfl, e2, e3⟩ := q.sq rv
    refine ⟨a, us, rfl, ?_, fun t ht => k _ (U.add t _ ht) (U.add_le ht) (add_l ht e3)⟩
    rw [g.hK]
    exact e2.elim (fun z => .inl (U.ex.l z)) fun z => .inr (U.ex.t z)) hg (by decide) (by decide) he rfl
theorem ev_toInt {i : Int} {p : Pos} (ha : EvE K X δ e W (.int i)) (hg : Gl X "int" := by rfl) (he : starEach [e] X.env = (false, eval e X.env) :: starEach [] X.env := by rfl) : EvE K X δ (.Call (.Name "int" p) [e] [] pos) W (.int i) :=
  ev_bty call_int1 (by simp) (by decide +kernel) (ea_cons ha ea_nil he) (fun U vs l rs Q k => by
    obtain ⟨v, rfl, rv⟩ := rs.one_inv
    exact .inl ⟨i, by rw [rv.int_inv], k _ U (Le.refl U) (.int _)⟩) hg (by decide) (by decide) he rfl
theorem ev_sumL {is : List Int} {p : Pos} (ha : EvE K X δ e W (.list (is.map PyData.int))) (hg : Gl X "sum" := by rfl) (he : starEach [e] X.env = (false, eval e X.env) :: starEach [] X.env := by rfl) : EvE K X δ (.Call (.Name "sum" p) [e] [] pos) W (.int is.sum) :=
  ev_blt (cr_sum g.calm) (by simp) (by decide +kernel) (ea_cons ha ea_nil he) (fun U vs l rs Q k => by
    obtain ⟨v, rfl, rv⟩ := rs.one_inv
    obtain ⟨a, us, rfl, e2, e3⟩ := rv.lst_inv
    rw [e3.ints] at e2
    exact ⟨a, is, rfl, by rw [g.hK]; exact U.ex.l e2, k _ U (Le.refl U) (.int _)⟩) hg (by decide) (by decide) he rfl
theorem ev_allL {bs : List Bool} {p : Pos} (ha : EvE K X δ e W (.list (bs.map PyData.bool))) (hg : Gl X "all" := by rfl) (he : starEach [e] X.env = (false, eval e X.env) :: starEach [] X.env := by rfl) : EvE K X δ (.Call (.Name "all" p) [e] [] pos) W (.bool (bs.all id)) :=
  ev_blt (cr_all g.calm) (by simp) (by decide +kernel) (ea_cons ha ea_nil he) (fun U vs l rs Q k => by
    obtain ⟨v, rfl, rv⟩ := rs.one_inv
    obtain ⟨a, us, rfl, e2, e3⟩ := rv.lst_inv
    rw [e3.bools] at e2
    exact ⟨a, bs, rfl, by rw [g.hK]; exact U.ex.l e2, k _ U (Le.refl U) (.bl _)⟩) hg (by decide) (by decide) he rfl
end
/-! ### a def by its body -/
def startD (N : List Str) (ds : List PyData) : Sd := ds.map (fun d => some (.d d)) ++ List.replicate (N.length - ds.length) none
theorem srep_start {K : PySem.W.Frag} {G : Hp} {N : List Str} {vs : List V} {ds : List PyData} (r : RpL K G vs ds) : SRep K G (L2.start N vs) (startD N ds) := by
  have hl := r.len
  refine ⟨by unfold L2.start startD; simp [hl], fun i s h => ?_⟩
  unfold startD at h
  by_cases hi : i < ds.length
  · rw [List.getElem?_append_left (by simpa using hi), List.getElem?_map, List.getElem?_eq_getElem hi] at h
    have e : Sl.d ds[i] = s := Option.some.inj (Option.some.inj h)
    subst e
    obtain ⟨v, hv, rv⟩ := r.at (List.getElem?_eq_getElem hi)
    refine ⟨v, ?_, rv⟩
    unfold L2.start
    rw [List.getElem?_append_left (by rw [List.length_map, hl]; exact hi), List.getElem?_map, hv] <;> rfl
  · rw [List.getElem?_append_right (by simpa using hi), List.getElem?_replicate] at h
    split at h <;> cases h
/-- the context of a def's body -/
abbrev FX (P : Program) (w : World) (K : PySem.W.Frag) (mg : Str → Option Value) (base : Heap) (N : List Str) (x : Str) (st : Stmt) (f : Addr) (cdv : Value) (A : Around) (outer : List Env) (s : Shared) (H : Hp) (E : XK) : Cx :=
  (cxOf CX0 P w K mg base N x (defScope st) f cdv A outer s H E).nox
structure Bn (mg : Str → Option Value) : Prop where
  bn : ∀ x ∈ (["isinstance", "int", "bool", "tuple", "all", "zip", "range", "len", "sum", "enumerate", "dict", "list", "repr", "sorted", "set", "max", "min"] : List Str), mg x = none
section
variable {P : Program} {w : World} {K : PySem.W.Frag} {mg : Str → Option Value} {base : Heap} {N ps : List Str} {x : Str} {st : Stmt} {f : Addr} {fd : FuncData} {k : Nat}
theorem fn_pure {R : List PyData → PyData → Prop} (F : Fun K x x st f fd) (S : FnScope N ps (defScope st)) (B : Bn mg) (hl : ∀ ds d, R ds d → ds.length = ps.length)
    (body : ∀ cdv A outer s H E, let X := FX P w K mg base N x st f cdv A outer s H E; Good K X → Room k X.A → ∀ (W : Wd) ds d, R ds d →
      WB K X (startD N ds) (defBody st) W { nx := fun _ U => d = .none ∧ Le W U, rt := fun d' U => d' = d ∧ Le W U }) : FnOk P w K mg base CX0 (k + 1) f fd ps (SpP K R) := by
  refine F.ok S (fun vs H Q E h => ?_) (fun cdv A outer s H vs Q E hr h => ?_)
  · obtain ⟨W, ds, d, _, rs, hR, _⟩ := h
    rw [rs.len, hl ds d hR]
  · obtain ⟨W, ds, d, rfl, rs, hR, q⟩ := h
    refine ⟨_, pb_w _ _, ?_⟩
    refine wB_imp (body cdv A outer s W.H E ⟨rfl, rfl, S.nd, hr.mono (Nat.zero_le _), B.bn⟩ hr W ds d hR _ (srep_start rs)) (fun σ H' ⟨δ, U, e, _, hn⟩ => ?_) (fun v H' ⟨d', U, e, rv, hn⟩ => ?_) (fun _ _ ⟨_, _, _, _, z⟩ => z) fun _ _ ⟨_, _, _, _, z⟩ => z
    · obtain ⟨h1, h2⟩ := hn
      rw [e]
      exact q .non U h2 (by rw [h1]; exact .non)
    · obtain ⟨h1, h2⟩ := hn
      rw [e]
      exact q v U h2 (by rw [← h1]; exact rv)
end
/-- the def st of the text stands under the module's name x -/
def At (K : PySem.W.Frag) (mg : Str → Option Value) (x : Str) (st : Stmt) : Prop := ∃ (f : Addr) (fd : FuncData), mg x = some (.ref f) ∧ Fun K x x st f fd
section
variable {P : Program} {w : World} {K : PySem.W.Frag} {mg : Str → Option Value} {base : Heap} {N ps : List Str} {x : Str} {st : Stmt} {k : Nat}
theorem cal_pure {R : List PyData → PyData → Prop} (T : At K mg x st) (hb : ∀ {f : Addr} {fd : FuncData}, Fun K x x st f fd → Binds K fd ps []) (S : FnScope N ps (defScope st)) (B : Bn mg) (hl : ∀ ds d, R ds d → ds.length = ps.length)
    (body : ∀ f cdv A outer s H E, let X := FX P w K mg base N x st f cdv A outer s H E; Good K X → Room k X.A → ∀ (W : Wd) ds d, R ds d →
      WB K X (startD N ds) (defBody st) W { nx := fun _ U => d = .none ∧ Le W U, rt := fun d' U => d' = d ∧ Le W U }) : Cal P w K mg base CX0 (k + 1) x ps (SpP K R) := by
  obtain ⟨f, fd, h1, F⟩ := T
  exact ⟨f, fd, h1, F.kp, hb F, fn_pure F S B hl (body f)⟩
end
end Pk
set_option Elab.async false
set_option linter.all false
set_option maxRecDepth 100000
set_option maxHeartbeats 4000000
namespace Pk
open PySem PySem.Spec L2
open PyProof.Rows hiding St
/-! the defs of the text, their names by slot (parameters first; comprehensions' own names last) -/
def tp (i : Nat) : Stmt := PySem.Challenge.pw_patchrooms_k12_whole_patches_judged.main.body.getD i (.Pass default)
abbrev s_is_integer : Stmt := tp 7
abbrev n_is_integer : List Str := ["value"]
abbrev p_is_integer : List Str := ["value"]
theorem sc_is_integer : FnScope n_is_integer p_is_integer (defScope s_is_integer) := ⟨rfl, rfl, rfl, by decide +kernel, rfl, by decide +kernel, by decide +kernel⟩
theorem b_is_integer {K : PySem.W.Frag} {f : Addr} {fd : FuncData} (F : Fun K "is_integer" "is_integer" s_is_integer f fd) : Binds K fd p_is_integer [] := F.binds (ps := p_is_integer) fun _ _ _ _ _ _ us hl => match us, hl with | [_], _ => rfl
abbrev s_is_spot : Stmt := tp 8
abbrev n_is_spot : List Str := ["value", "n"]
abbrev p_is_spot : List Str := ["value", "n"]
theorem sc_is_spot : FnScope n_is_spot p_is_spot (defScope s_is_spot) := ⟨rfl, rfl, rfl, by decide +kernel, rfl, by decide +kernel, by decide +kernel⟩
theorem b_is_spot {K : PySem.W.Frag} {f : Addr} {fd : FuncData} (F : Fun K "is_spot" "is_spot" s_is_spot f fd) : Binds K fd p_is_spot [] := F.binds (ps := p_is_spot) fun _ _ _ _ _ _ us hl => match us, hl with | [_, _], _ => rfl
abbrev s_is_pair : Stmt := tp 9
abbrev n_is_pair : List Str := ["value", "n"]
abbrev p_is_pair : List Str := ["value", "n"]
theorem sc_is_pair : FnScope n_is_pair p_is_pair (defScope s_is_pair) := ⟨rfl, rfl, rfl, by decide +kernel, rfl, by decide +kernel, by decide +kernel⟩
theorem b_is_pair {K : PySem.W.Frag} {f : Addr} {fd : FuncData} (F : Fun K "is_pair" "is_pair" s_is_pair f fd) : Binds K fd p_is_pair [] := F.binds (ps := p_is_pair) fun _ _ _ _ _ _ us hl => match us, hl with | [_, _], _ => rfl
abbrev s_ascends : Stmt := tp 10
abbrev n_ascends : List Str := ["value", "one", "other"]
abbrev p_ascends : List Str := ["value"]
theorem sc_ascends : FnScope n_ascends p_ascends (defScope s_ascends) := ⟨rfl, rfl, rfl, by decide +kernel, rfl, by decide +kernel, by decide +kernel⟩
theorem b_ascends {K : PySem.W.Frag} {f : Addr} {fd : FuncData} (F : Fun K "ascends" "ascends" s_ascends f fd) : Binds K fd p_ascends [] := F.binds (ps := p_ascends) fun _ _ _ _ _ _ us hl => match us, hl with | [_], _ => rfl
abbrev s_has_form : Stmt := tp 11
abbrev n_has_form : List Str := ["value", "n", "pairs", "pair"]
abbrev p_has_form : List Str := ["value"]
theorem sc_has_form : FnScope n_has_form p_has_form (defScope s_has_form) := ⟨rfl, rfl, rfl, by decide +kernel, rfl, by decide +kernel, by decide +kernel⟩
theorem b_has_form {K : PySem.W.Frag} {f : Addr} {fd : FuncData} (F : Fun K "has_form" "has_form" s_has_form f fd) : Binds K fd p_has_form [] := F.binds (ps := p_has_form) fun _ _ _ _ _ _ us hl => match us, hl with | [_], _ => rfl
abbrev s_need_order : Stmt := tp 12
abbrev n_need_order : List Str := ["value", "known", "above", "x", "y", "pair", "z"]
abbrev p_need_order : List Str := ["value"]
theorem sc_need_order : FnScope n_need_order p_need_order (defScope s_need_order) := ⟨rfl, rfl, rfl, by decide +kernel, rfl, by decide +kernel, by decide +kernel⟩
theorem b_need_order {K : PySem.W.Frag} {f : Addr} {fd : FuncData} (F : Fun K "need_order" "need_order" s_need_order f fd) : Binds K fd p_need_order [] := F.binds (ps := p_need_order) fun _ _ _ _ _ _ us hl => match us, hl with | [_], _ => rfl
abbrev s_above_lists : Stmt := tp 13
abbrev n_above_lists : List Str := ["order", "x", "found", "y"]
abbrev p_above_lists : List Str := ["order"]
theorem sc_above_lists : FnScope n_above_lists p_above_lists (defScope s_above_lists) := ⟨rfl, rfl, rfl, by decide +kernel, rfl, by decide +kernel, by decide +kernel⟩
theorem b_above_lists {K : PySem.W.Frag} {f : Addr} {fd : FuncData} (F : Fun K "above_lists" "above_lists" s_above_lists f fd) : Binds K fd p_above_lists [] := F.binds (ps := p_above_lists) fun _ _ _ _ _ _ us hl => match us, hl with | [_], _ => rfl
abbrev s_behind_table : Stmt := tp 15
abbrev n_behind_table : List Str := ["prime", "one", "other", "size", "found", "line", "j", "k"]
abbrev p_behind_table : List Str := ["prime", "one", "other", "size"]
theorem sc_behind_table : FnScope n_behind_table p_behind_table (defScope s_behind_table) := ⟨rfl, rfl, rfl, by decide +kernel, rfl, by decide +kernel, by decide +kernel⟩
theorem b_behind_table {K : PySem.W.Frag} {f : Addr} {fd : FuncData} (F : Fun K "behind_table" "behind_table" s_behind_table f fd) : Binds K fd p_behind_table [] := F.binds (ps := p_behind_table) fun _ _ _ _ _ _ us hl => match us, hl with | [_, _, _, _], _ => rfl
abbrev s_is_number : Stmt := tp 20
abbrev n_is_number : List Str := ["value", "most"]
abbrev p_is_number : List Str := ["value", "most"]
theorem sc_is_number : FnScope n_is_number p_is_number (defScope s_is_number) := ⟨rfl, rfl, rfl, by decide +kernel, rfl, by decide +kernel, by decide +kernel⟩
theorem b_is_number {K : PySem.W.Frag} {f : Addr} {fd : FuncData} (F : Fun K "is_number" "is_number" s_is_number f fd) : Binds K fd p_is_number [] := F.binds (ps := p_is_number) fun _ _ _ _ _ _ us hl => match us, hl with | [_, _], _ => rfl
abbrev s_is_order : Stmt := tp 21
abbrev n_is_order : List Str := ["value"]
abbrev p_is_order : List Str := ["value"]
theorem sc_is_order : FnScope n_is_order p_is_order (defScope s_is_order) := ⟨rfl, rfl, rfl, by decide +kernel, rfl, by decide +kernel, by decide +kernel⟩
theorem b_is_order {K : PySem.W.Frag} {f : Addr} {fd : FuncData} (F : Fun K "is_order" "is_order" s_is_order f fd) : Binds K fd p_is_order [] := F.binds (ps := p_is_order) fun _ _ _ _ _ _ us hl => match us, hl with | [_], _ => rfl
abbrev s_are_sizes : Stmt := tp 22
abbrev n_are_sizes : List Str := ["value", "count", "size"]
abbrev p_are_sizes : List Str := ["value", "count"]
theorem sc_are_sizes : FnScope n_are_sizes p_are_sizes (defScope s_are_sizes) := ⟨rfl, rfl, rfl, by decide +kernel, rfl, by decide +kernel, by decide +kernel⟩
theorem b_are_sizes {K : PySem.W.Frag} {f : Addr} {fd : FuncData} (F : Fun K "are_sizes" "are_sizes" s_are_sizes f fd) : Binds K fd p_are_sizes [] := F.binds (ps := p_are_sizes) fun _ _ _ _ _ _ us hl => match us, hl with | [_, _], _ => rfl
abbrev s_is_table : Stmt := tp 23
abbrev n_is_table : List Str := ["value", "prime", "lines", "entries", "line", "entry"]
abbrev p_is_table : List Str := ["value", "prime", "lines", "entries"]
theorem sc_is_table : FnScope n_is_table p_is_table (defScope s_is_table) := ⟨rfl, rfl, rfl, by decide +kernel, rfl, by decide +kernel, by decide +kernel⟩
theorem b_is_table {K : PySem.W.Frag} {f : Addr} {fd : FuncData} (F : Fun K "is_table" "is_table" s_is_table f fd) : Binds K fd p_is_table [] := F.binds (ps := p_is_table) fun _ _ _ _ _ _ us hl => match us, hl with | [_, _, _, _], _ => rfl
abbrev s_table_place : Stmt := tp 24
abbrev n_table_place : List Str := ["prime", "order", "sizes", "tables", "place", "x", "y"]
abbrev p_table_place : List Str := ["prime", "order", "sizes", "tables"]
theorem sc_table_place : FnScope n_table_place p_table_place (defScope s_table_place) := ⟨rfl, rfl, rfl, by decide +kernel, rfl, by decide +kernel, by decide +kernel⟩
theorem b_table_place {K : PySem.W.Frag} {f : Addr} {fd : FuncData} (F : Fun K "table_place" "table_place" s_table_place f fd) : Binds K fd p_table_place [] := F.binds (ps := p_table_place) fun _ _ _ _ _ _ us hl => match us, hl with | [_, _, _, _], _ => rfl
abbrev s_ways_place : Stmt := tp 25
abbrev n_ways_place : List Str := ["prime", "order", "sizes", "tables", "known", "place", "x", "z", "y"]
abbrev p_ways_place : List Str := ["prime", "order", "sizes", "tables"]
theorem sc_ways_place : FnScope n_ways_place p_ways_place (defScope s_ways_place) := ⟨rfl, rfl, rfl, by decide +kernel, rfl, by decide +kernel, by decide +kernel⟩
theorem b_ways_place {K : PySem.W.Frag} {f : Addr} {fd : FuncData} (F : Fun K "ways_place" "ways_place" s_ways_place f fd) : Binds K fd p_ways_place [] := F.binds (ps := p_ways_place) fun _ _ _ _ _ _ us hl => match us, hl with | [_, _, _, _], _ => rfl
abbrev s_patch_breach : Stmt := tp 26
abbrev n_patch_breach : List Str := ["value", "prime", "order", "sizes", "tables", "place"]
abbrev p_patch_breach : List Str := ["value"]
theorem sc_patch_breach : FnScope n_patch_breach p_patch_breach (defScope s_patch_breach) := ⟨rfl, rfl, rfl, by decide +kernel, rfl, by decide +kernel, by decide +kernel⟩
theorem b_patch_breach {K : PySem.W.Frag} {f : Addr} {fd : FuncData} (F : Fun K "patch_breach" "patch_breach" s_patch_breach f fd) : Binds K fd p_patch_breach [] := F.binds (ps := p_patch_breach) fun _ _ _ _ _ _ us hl => match us, hl with | [_], _ => rfl
abbrev s_need_patch : Stmt := tp 27
abbrev n_need_patch : List Str := ["value", "found"]
abbrev p_need_patch : List Str := ["value"]
theorem sc_need_patch : FnScope n_need_patch p_need_patch (defScope s_need_patch) := ⟨rfl, rfl, rfl, by decide +kernel, rfl, by decide +kernel, by decide +kernel⟩
theorem b_need_patch {K : PySem.W.Frag} {f : Addr} {fd : FuncData} (F : Fun K "need_patch" "need_patch" s_need_patch f fd) : Binds K fd p_need_patch [] := F.binds (ps := p_need_patch) fun _ _ _ _ _ _ us hl => match us, hl with | [_], _ => rfl
abbrev s_L_begun : Stmt := tp 29
abbrev n_L_begun : List Str := ["_law_script", "_law_k", "_law_cells", "_law_cell", "_law_great", "_law_seed"]
abbrev p_L_begun : List Str := ["_law_script", "_law_k"]
theorem sc_L_begun : FnScope n_L_begun p_L_begun (defScope s_L_begun) := ⟨rfl, rfl, rfl, by decide +kernel, rfl, by decide +kernel, by decide +kernel⟩
theorem b_L_begun {K : PySem.W.Frag} {f : Addr} {fd : FuncData} (F : Fun K "_law_begun" "_law_begun" s_L_begun f fd) : Binds K fd p_L_begun [] := F.binds (ps := p_L_begun) fun _ _ _ _ _ _ us hl => match us, hl with | [_, _], _ => rfl
abbrev s_L_draw : Stmt := tp 30
abbrev n_L_draw : List Str := ["_law_m", "_law_bound", "_law_found", "_law_spot", "_law_cells", "_law_extra", "_law_cell", "_law_blend"]
abbrev p_L_draw : List Str := ["_law_m", "_law_bound"]
theorem sc_L_draw : FnScope n_L_draw p_L_draw (defScope s_L_draw) := ⟨rfl, rfl, rfl, by decide +kernel, rfl, by decide +kernel, by decide +kernel⟩
theorem b_L_draw {K : PySem.W.Frag} {f : Addr} {fd : FuncData} (F : Fun K "_law_draw" "_law_draw" s_L_draw f fd) : Binds K fd p_L_draw [] := F.binds (ps := p_L_draw) fun _ _ _ _ _ _ us hl => match us, hl with | [_, _], _ => rfl
abbrev s_L_of : Stmt := tp 31
abbrev n_L_of : List Str := ["_law_m", "_law_some"]
abbrev p_L_of : List Str := ["_law_m", "_law_some"]
theorem sc_L_of : FnScope n_L_of p_L_of (defScope s_L_of) := ⟨rfl, rfl, rfl, by decide +kernel, rfl, by decide +kernel, by decide +kernel⟩
theorem b_L_of {K : PySem.W.Frag} {f : Addr} {fd : FuncData} (F : Fun K "_law_of" "_law_of" s_L_of f fd) : Binds K fd p_L_of [] := F.binds (ps := p_L_of) fun _ _ _ _ _ _ us hl => match us, hl with | [_, _], _ => rfl
abbrev s_L_shuffled : Stmt := tp 32
abbrev n_L_shuffled : List Str := ["_law_m", "_law_count", "_law_left", "_law_found", "_law_k", "_law_one", "_law_other"]
abbrev p_L_shuffled : List Str := ["_law_m", "_law_count"]
theorem sc_L_shuffled : FnScope n_L_shuffled p_L_shuffled (defScope s_L_shuffled) := ⟨rfl, rfl, rfl, by decide +kernel, rfl, by decide +kernel, by decide +kernel⟩
theorem b_L_shuffled {K : PySem.W.Frag} {f : Addr} {fd : FuncData} (F : Fun K "_law_shuffled" "_law_shuffled" s_L_shuffled f fd) : Binds K fd p_L_shuffled [] := F.binds (ps := p_L_shuffled) fun _ _ _ _ _ _ us hl => match us, hl with | [_, _], _ => rfl
abbrev s_L_like : Stmt := tp 33
abbrev n_L_like : List Str := ["_law_got", "_law_due"]
abbrev p_L_like : List Str := ["_law_got", "_law_due"]
theorem sc_L_like : FnScope n_L_like p_L_like (defScope s_L_like) := ⟨rfl, rfl, rfl, by decide +kernel, rfl, by decide +kernel, by decide +kernel⟩
theorem b_L_like {K : PySem.W.Frag} {f : Addr} {fd : FuncData} (F : Fun K "_law_like" "_law_like" s_L_like f fd) : Binds K fd p_L_like [] := F.binds (ps := p_L_like) fun _ _ _ _ _ _ us hl => match us, hl with | [_, _], _ => rfl
abbrev s_L_back : Stmt := tp 34
abbrev n_L_back : List Str := ["_law_p", "_law_x", "_law_k"]
abbrev p_L_back : List Str := ["_law_p", "_law_x"]
theorem sc_L_back : FnScope n_L_back p_L_back (defScope s_L_back) := ⟨rfl, rfl, rfl, by decide +kernel, rfl, by decide +kernel, by decide +kernel⟩
theorem b_L_back {K : PySem.W.Frag} {f : Addr} {fd : FuncData} (F : Fun K "_law_back" "_law_back" s_L_back f fd) : Binds K fd p_L_back [] := F.binds (ps := p_L_back) fun _ _ _ _ _ _ us hl => match us, hl with | [_, _], _ => rfl
abbrev s_L_off : Stmt := tp 35
abbrev n_L_off : List Str := ["_law_p", "_law_row", "_law_first", "_law_spot", "_law_k", "_law_j"]
abbrev p_L_off : List Str := ["_law_p", "_law_row", "_law_first", "_law_spot"]
theorem sc_L_off : FnScope n_L_off p_L_off (defScope s_L_off) := ⟨rfl, rfl, rfl, by decide +kernel, rfl, by decide +kernel, by decide +kernel⟩
theorem b_L_off {K : PySem.W.Frag} {f : Addr} {fd : FuncData} (F : Fun K "_law_off" "_law_off" s_L_off f fd) : Binds K fd p_L_off [] := F.binds (ps := p_L_off) fun _ _ _ _ _ _ us hl => match us, hl with | [_, _, _, _], _ => rfl
abbrev s_L_reduced : Stmt := tp 36
abbrev n_L_reduced : List Str := ["_law_p", "_law_rows", "_law_size", "_law_left", "_law_found", "_law_spot", "_law_some", "_law_first", "_law_times", "_law_row", "_law_k", "_law_x"]
abbrev p_L_reduced : List Str := ["_law_p", "_law_rows", "_law_size"]
theorem sc_L_reduced : FnScope n_L_reduced p_L_reduced (defScope s_L_reduced) := ⟨rfl, rfl, rfl, by decide +kernel, rfl, by decide +kernel, by decide +kernel⟩
theorem b_L_reduced {K : PySem.W.Frag} {f : Addr} {fd : FuncData} (F : Fun K "_law_reduced" "_law_reduced" s_L_reduced f fd) : Binds K fd p_L_reduced [] := F.binds (ps := p_L_reduced) fun _ _ _ _ _ _ us hl => match us, hl with | [_, _, _], _ => rfl
abbrev s_L_leads : Stmt := tp 37
abbrev n_L_leads : List Str := ["_law_basis", "_law_row", "_law_k"]
abbrev p_L_leads : List Str := ["_law_basis"]
theorem sc_L_leads : FnScope n_L_leads p_L_leads (defScope s_L_leads) := ⟨rfl, rfl, rfl, by decide +kernel, rfl, by decide +kernel, by decide +kernel⟩
theorem b_L_leads {K : PySem.W.Frag} {f : Addr} {fd : FuncData} (F : Fun K "_law_leads" "_law_leads" s_L_leads f fd) : Binds K fd p_L_leads [] := F.binds (ps := p_L_leads) fun _ _ _ _ _ _ us hl => match us, hl with | [_], _ => rfl
abbrev s_L_rest : Stmt := tp 38
abbrev n_L_rest : List Str := ["_law_p", "_law_basis", "_law_column", "_law_size", "_law_leads_here", "_law_k"]
abbrev p_L_rest : List Str := ["_law_p", "_law_basis", "_law_column", "_law_size"]
theorem sc_L_rest : FnScope n_L_rest p_L_rest (defScope s_L_rest) := ⟨rfl, rfl, rfl, by decide +kernel, rfl, by decide +kernel, by decide +kernel⟩
theorem b_L_rest {K : PySem.W.Frag} {f : Addr} {fd : FuncData} (F : Fun K "_law_rest" "_law_rest" s_L_rest f fd) : Binds K fd p_L_rest [] := F.binds (ps := p_L_rest) fun _ _ _ _ _ _ us hl => match us, hl with | [_, _, _, _], _ => rfl
abbrev s_L_turned : Stmt := tp 39
abbrev n_L_turned : List Str := ["_law_table", "_law_rows", "_law_size", "_law_j", "_law_i"]
abbrev p_L_turned : List Str := ["_law_table", "_law_rows", "_law_size"]
theorem sc_L_turned : FnScope n_L_turned p_L_turned (defScope s_L_turned) := ⟨rfl, rfl, rfl, by decide +kernel, rfl, by decide +kernel, by decide +kernel⟩
theorem b_L_turned {K : PySem.W.Frag} {f : Addr} {fd : FuncData} (F : Fun K "_law_turned" "_law_turned" s_L_turned f fd) : Binds K fd p_L_turned [] := F.binds (ps := p_L_turned) fun _ _ _ _ _ _ us hl => match us, hl with | [_, _, _], _ => rfl
abbrev s_L_behind : Stmt := tp 40
abbrev n_L_behind : List Str := ["_law_p", "_law_one", "_law_other", "_law_size", "_law_found", "_law_row", "_law_j", "_law_k"]
abbrev p_L_behind : List Str := ["_law_p", "_law_one", "_law_other", "_law_size"]
theorem sc_L_behind : FnScope n_L_behind p_L_behind (defScope s_L_behind) := ⟨rfl, rfl, rfl, by decide +kernel, rfl, by decide +kernel, by decide +kernel⟩
theorem b_L_behind {K : PySem.W.Frag} {f : Addr} {fd : FuncData} (F : Fun K "_law_behind" "_law_behind" s_L_behind f fd) : Binds K fd p_L_behind [] := F.binds (ps := p_L_behind) fun _ _ _ _ _ _ us hl => match us, hl with | [_, _, _, _], _ => rfl
abbrev s_L_unit : Stmt := tp 41
abbrev n_L_unit : List Str := ["_law_size", "_law_i", "_law_j"]
abbrev p_L_unit : List Str := ["_law_size"]
theorem sc_L_unit : FnScope n_L_unit p_L_unit (defScope s_L_unit) := ⟨rfl, rfl, rfl, by decide +kernel, rfl, by decide +kernel, by decide +kernel⟩
theorem b_L_unit {K : PySem.W.Frag} {f : Addr} {fd : FuncData} (F : Fun K "_law_unit" "_law_unit" s_L_unit f fd) : Binds K fd p_L_unit [] := F.binds (ps := p_L_unit) fun _ _ _ _ _ _ us hl => match us, hl with | [_], _ => rfl
abbrev s_L_closed : Stmt := tp 42
abbrev n_L_closed : List Str := ["_law_n", "_law_pairs", "_law_found", "_law_z", "_law_x", "_law_y"]
abbrev p_L_closed : List Str := ["_law_n", "_law_pairs"]
theorem sc_L_closed : FnScope n_L_closed p_L_closed (defScope s_L_closed) := ⟨rfl, rfl, rfl, by decide +kernel, rfl, by decide +kernel, by decide +kernel⟩
theorem b_L_closed {K : PySem.W.Frag} {f : Addr} {fd : FuncData} (F : Fun K "_law_closed" "_law_closed" s_L_closed f fd) : Binds K fd p_L_closed [] := F.binds (ps := p_L_closed) fun _ _ _ _ _ _ us hl => match us, hl with | [_, _], _ => rfl
abbrev s_L_drawn_order : Stmt := tp 43
abbrev n_L_drawn_order : List Str := ["_law_m", "_law_most", "_law_n", "_law_line", "_law_thick", "_law_pairs", "_law_j", "_law_i"]
abbrev p_L_drawn_order : List Str := ["_law_m", "_law_most"]
theorem sc_L_drawn_order : FnScope n_L_drawn_order p_L_drawn_order (defScope s_L_drawn_order) := ⟨rfl, rfl, rfl, by decide +kernel, rfl, by decide +kernel, by decide +kernel⟩
theorem b_L_drawn_order {K : PySem.W.Frag} {f : Addr} {fd : FuncData} (F : Fun K "_law_drawn_order" "_law_drawn_order" s_L_drawn_order f fd) : Binds K fd p_L_drawn_order [] := F.binds (ps := p_L_drawn_order) fun _ _ _ _ _ _ us hl => match us, hl with | [_, _], _ => rfl
abbrev s_L_drawn_patch : Stmt := tp 44
abbrev n_L_drawn_patch : List Str := ["_law_m", "_law_p", "_law_order", "_law_gens", "_law_rules", "_law_n", "_law_starts", "_law_ends", "_law_y", "_law_x", "_law_drawn", "_law_here", "_law_known", "_law_z", "_law_i", "_law_rows", "_law_j", "_law_let", "_law_free", "_law_tables", "_law_columns", "_law_unit_here", "_law_turn", "_law_k", "_law_one", "_law_other"]
abbrev p_L_drawn_patch : List Str := ["_law_m", "_law_p", "_law_order", "_law_gens", "_law_rules"]
theorem sc_L_drawn_patch : FnScope n_L_drawn_patch p_L_drawn_patch (defScope s_L_drawn_patch) := ⟨rfl, rfl, rfl, by decide +kernel, rfl, by decide +kernel, by decide +kernel⟩
theorem b_L_drawn_patch {K : PySem.W.Frag} {f : Addr} {fd : FuncData} (F : Fun K "_law_drawn_patch" "_law_drawn_patch" s_L_drawn_patch f fd) : Binds K fd p_L_drawn_patch [] := F.binds (ps := p_L_drawn_patch) fun _ _ _ _ _ _ us hl => match us, hl with | [_, _, _, _, _], _ => rfl
abbrev s_L_lead : Stmt := tp 45
abbrev n_L_lead : List Str := ["_law_patch", "_law_x", "_law_y"]
abbrev p_L_lead : List Str := ["_law_patch", "_law_x", "_law_y"]
theorem sc_L_lead : FnScope n_L_lead p_L_lead (defScope s_L_lead) := ⟨rfl, rfl, rfl, by decide +kernel, rfl, by decide +kernel, by decide +kernel⟩
theorem b_L_lead {K : PySem.W.Frag} {f : Addr} {fd : FuncData} (F : Fun K "_law_lead" "_law_lead" s_L_lead f fd) : Binds K fd p_L_lead [] := F.binds (ps := p_L_lead) fun _ _ _ _ _ _ us hl => match us, hl with | [_, _, _], _ => rfl
abbrev s_L_prime : Stmt := tp 46
abbrev n_L_prime : List Str := ["_law_m"]
abbrev p_L_prime : List Str := ["_law_m"]
theorem sc_L_prime : FnScope n_L_prime p_L_prime (defScope s_L_prime) := ⟨rfl, rfl, rfl, by decide +kernel, rfl, by decide +kernel, by decide +kernel⟩
theorem b_L_prime {K : PySem.W.Frag} {f : Addr} {fd : FuncData} (F : Fun K "_law_prime" "_law_prime" s_L_prime f fd) : Binds K fd p_L_prime [] := F.binds (ps := p_L_prime) fun _ _ _ _ _ _ us hl => match us, hl with | [_], _ => rfl
abbrev s_L_whole : Stmt := tp 47
abbrev n_L_whole : List Str := ["_law_value", "_law_most"]
abbrev p_L_whole : List Str := ["_law_value", "_law_most"]
theorem sc_L_whole : FnScope n_L_whole p_L_whole (defScope s_L_whole) := ⟨rfl, rfl, rfl, by decide +kernel, rfl, by decide +kernel, by decide +kernel⟩
theorem b_L_whole {K : PySem.W.Frag} {f : Addr} {fd : FuncData} (F : Fun K "_law_whole" "_law_whole" s_L_whole f fd) : Binds K fd p_L_whole [] := F.binds (ps := p_L_whole) fun _ _ _ _ _ _ us hl => match us, hl with | [_, _], _ => rfl
abbrev s_L_is_pair : Stmt := tp 48
abbrev n_L_is_pair : List Str := ["_law_value", "_law_n"]
abbrev p_L_is_pair : List Str := ["_law_value", "_law_n"]
theorem sc_L_is_pair : FnScope n_L_is_pair p_L_is_pair (defScope s_L_is_pair) := ⟨rfl, rfl, rfl, by decide +kernel, rfl, by decide +kernel, by decide +kernel⟩
theorem b_L_is_pair {K : PySem.W.Frag} {f : Addr} {fd : FuncData} (F : Fun K "_law_is_pair" "_law_is_pair" s_L_is_pair f fd) : Binds K fd p_L_is_pair [] := F.binds (ps := p_L_is_pair) fun _ _ _ _ _ _ us hl => match us, hl with | [_, _], _ => rfl
abbrev s_L_is_order : Stmt := tp 49
abbrev n_L_is_order : List Str := ["_law_value", "_law_n", "_law_pairs", "_law_x", "_law_y", "_law_pair", "_law_k", "_law_z"]
abbrev p_L_is_order : List Str := ["_law_value"]
theorem sc_L_is_order : FnScope n_L_is_order p_L_is_order (defScope s_L_is_order) := ⟨rfl, rfl, rfl, by decide +kernel, rfl, by decide +kernel, by decide +kernel⟩
theorem b_L_is_order {K : PySem.W.Frag} {f : Addr} {fd : FuncData} (F : Fun K "_law_is_order" "_law_is_order" s_L_is_order f fd) : Binds K fd p_L_is_order [] := F.binds (ps := p_L_is_order) fun _ _ _ _ _ _ us hl => match us, hl with | [_], _ => rfl
abbrev s_L_is_table : Stmt := tp 50
abbrev n_L_is_table : List Str := ["_law_value", "_law_p", "_law_lines", "_law_size", "_law_line", "_law_x"]
abbrev p_L_is_table : List Str := ["_law_value", "_law_p", "_law_lines", "_law_size"]
theorem sc_L_is_table : FnScope n_L_is_table p_L_is_table (defScope s_L_is_table) := ⟨rfl, rfl, rfl, by decide +kernel, rfl, by decide +kernel, by decide +kernel⟩
theorem b_L_is_table {K : PySem.W.Frag} {f : Addr} {fd : FuncData} (F : Fun K "_law_is_table" "_law_is_table" s_L_is_table f fd) : Binds K fd p_L_is_table [] := F.binds (ps := p_L_is_table) fun _ _ _ _ _ _ us hl => match us, hl with | [_, _, _, _], _ => rfl
abbrev s_L_breach : Stmt := tp 51
abbrev n_L_breach : List Str := ["_law_value", "_law_p", "_law_order", "_law_sizes", "_law_tables", "_law_k", "_law_x", "_law_y", "_law_z", "_law_near", "_law_size"]
abbrev p_L_breach : List Str := ["_law_value"]
theorem sc_L_breach : FnScope n_L_breach p_L_breach (defScope s_L_breach) := ⟨rfl, rfl, rfl, by decide +kernel, rfl, by decide +kernel, by decide +kernel⟩
theorem b_L_breach {K : PySem.W.Frag} {f : Addr} {fd : FuncData} (F : Fun K "_law_breach" "_law_breach" s_L_breach f fd) : Binds K fd p_L_breach [] := F.binds (ps := p_L_breach) fun _ _ _ _ _ _ us hl => match us, hl with | [_], _ => rfl
abbrev s_L_put : Stmt := tp 52
abbrev n_L_put : List Str := ["_law_some", "_law_k", "_law_thing"]
abbrev p_L_put : List Str := ["_law_some", "_law_k", "_law_thing"]
theorem sc_L_put : FnScope n_L_put p_L_put (defScope s_L_put) := ⟨rfl, rfl, rfl, by decide +kernel, rfl, by decide +kernel, by decide +kernel⟩
theorem b_L_put {K : PySem.W.Frag} {f : Addr} {fd : FuncData} (F : Fun K "_law_put" "_law_put" s_L_put f fd) : Binds K fd p_L_put [] := F.binds (ps := p_L_put) fun _ _ _ _ _ _ us hl => match us, hl with | [_, _, _], _ => rfl
abbrev s_L_bent_table : Stmt := tp 53
abbrev n_L_bent_table : List Str := ["_law_m", "_law_p", "_law_table", "_law_odd", "_law_i", "_law_j", "_law_entry", "_law_line"]
abbrev p_L_bent_table : List Str := ["_law_m", "_law_p", "_law_table"]
theorem sc_L_bent_table : FnScope n_L_bent_table p_L_bent_table (defScope s_L_bent_table) := ⟨rfl, rfl, rfl, by decide +kernel, rfl, by decide +kernel, by decide +kernel⟩
theorem b_L_bent_table {K : PySem.W.Frag} {f : Addr} {fd : FuncData} (F : Fun K "_law_bent_table" "_law_bent_table" s_L_bent_table f fd) : Binds K fd p_L_bent_table [] := F.binds (ps := p_L_bent_table) fun _ _ _ _ _ _ us hl => match us, hl with | [_, _, _], _ => rfl
abbrev s_L_odd_prime : Stmt := tp 54
abbrev n_L_odd_prime : List Str := ["_law_m"]
abbrev p_L_odd_prime : List Str := ["_law_m"]
theorem sc_L_odd_prime : FnScope n_L_odd_prime p_L_odd_prime (defScope s_L_odd_prime) := ⟨rfl, rfl, rfl, by decide +kernel, rfl, by decide +kernel, by decide +kernel⟩
theorem b_L_odd_prime {K : PySem.W.Frag} {f : Addr} {fd : FuncData} (F : Fun K "_law_odd_prime" "_law_odd_prime" s_L_odd_prime f fd) : Binds K fd p_L_odd_prime [] := F.binds (ps := p_L_odd_prime) fun _ _ _ _ _ _ us hl => match us, hl with | [_], _ => rfl
abbrev s_L_odd_order : Stmt := tp 55
abbrev n_L_odd_order : List Str := ["_law_m", "_law_order", "_law_n", "_law_pairs", "_law_odd"]
abbrev p_L_odd_order : List Str := ["_law_m", "_law_order"]
theorem sc_L_odd_order : FnScope n_L_odd_order p_L_odd_order (defScope s_L_odd_order) := ⟨rfl, rfl, rfl, by decide +kernel, rfl, by decide +kernel, by decide +kernel⟩
theorem b_L_odd_order {K : PySem.W.Frag} {f : Addr} {fd : FuncData} (F : Fun K "_law_odd_order" "_law_odd_order" s_L_odd_order f fd) : Binds K fd p_L_odd_order [] := F.binds (ps := p_L_odd_order) fun _ _ _ _ _ _ us hl => match us, hl with | [_, _], _ => rfl
abbrev s_L_odd_sizes : Stmt := tp 56
abbrev n_L_odd_sizes : List Str := ["_law_m", "_law_sizes", "_law_n", "_law_k"]
abbrev p_L_odd_sizes : List Str := ["_law_m", "_law_sizes"]
theorem sc_L_odd_sizes : FnScope n_L_odd_sizes p_L_odd_sizes (defScope s_L_odd_sizes) := ⟨rfl, rfl, rfl, by decide +kernel, rfl, by decide +kernel, by decide +kernel⟩
theorem b_L_odd_sizes {K : PySem.W.Frag} {f : Addr} {fd : FuncData} (F : Fun K "_law_odd_sizes" "_law_odd_sizes" s_L_odd_sizes f fd) : Binds K fd p_L_odd_sizes [] := F.binds (ps := p_L_odd_sizes) fun _ _ _ _ _ _ us hl => match us, hl with | [_, _], _ => rfl
abbrev s_L_odd_tables : Stmt := tp 57
abbrev n_L_odd_tables : List Str := ["_law_m", "_law_p", "_law_tables", "_law_k", "_law_found", "_law_full", "_law_i", "_law_j", "_law_line"]
abbrev p_L_odd_tables : List Str := ["_law_m", "_law_p", "_law_tables"]
theorem sc_L_odd_tables : FnScope n_L_odd_tables p_L_odd_tables (defScope s_L_odd_tables) := ⟨rfl, rfl, rfl, by decide +kernel, rfl, by decide +kernel, by decide +kernel⟩
theorem b_L_odd_tables {K : PySem.W.Frag} {f : Addr} {fd : FuncData} (F : Fun K "_law_odd_tables" "_law_odd_tables" s_L_odd_tables f fd) : Binds K fd p_L_odd_tables [] := F.binds (ps := p_L_odd_tables) fun _ _ _ _ _ _ us hl => match us, hl with | [_, _, _], _ => rfl
abbrev s_L_bent : Stmt := tp 58
abbrev n_L_bent : List Str := ["_law_m", "_law_patch", "_law_p", "_law_order", "_law_sizes", "_law_tables", "_law_some"]
abbrev p_L_bent : List Str := ["_law_m", "_law_patch"]
theorem sc_L_bent : FnScope n_L_bent p_L_bent (defScope s_L_bent) := ⟨rfl, rfl, rfl, by decide +kernel, rfl, by decide +kernel, by decide +kernel⟩
theorem b_L_bent {K : PySem.W.Frag} {f : Addr} {fd : FuncData} (F : Fun K "_law_bent" "_law_bent" s_L_bent f fd) : Binds K fd p_L_bent [] := F.binds (ps := p_L_bent) fun _ _ _ _ _ _ us hl => match us, hl with | [_, _], _ => rfl
abbrev s_L_told_rightly : Stmt := tp 59
abbrev n_L_told_rightly : List Str := ["_law_value", "_law_due", "_law_told", "_law_found", "e"]
abbrev p_L_told_rightly : List Str := ["_law_value"]
theorem sc_L_told_rightly : FnScope n_L_told_rightly p_L_told_rightly (defScope s_L_told_rightly) := ⟨rfl, rfl, rfl, by decide +kernel, rfl, by decide +kernel, by decide +kernel⟩
theorem b_L_told_rightly {K : PySem.W.Frag} {f : Addr} {fd : FuncData} (F : Fun K "_law_told_rightly" "_law_told_rightly" s_L_told_rightly f fd) : Binds K fd p_L_told_rightly [] := F.binds (ps := p_L_told_rightly) fun _ _ _ _ _ _ us hl => match us, hl with | [_], _ => rfl
abbrev s_law : Stmt := tp 60
abbrev n_law : List Str := ["_law_script", "_law_turn", "_law_m", "_law_patch", "_law_step", "_law_wide", "_law_some", "_law_three", "_law_six", "_law_told", "_law_due"]
abbrev p_law : List Str := ["_law_script"]
theorem sc_law : FnScope n_law p_law (defScope s_law) := ⟨rfl, rfl, rfl, by decide +kernel, rfl, by decide +kernel, by decide +kernel⟩
theorem b_law {K : PySem.W.Frag} {f : Addr} {fd : FuncData} (F : Fun K "law" "law" s_law f fd) : Binds K fd p_law [] := F.binds (ps := p_law) fun _ _ _ _ _ _ us hl => match us, hl with | [_], _ => rfl
end Pk
set_option Elab.async false
set_option linter.all false
set_option maxRecDepth 100000
set_option maxHeartbeats 4000000
namespace Pk
open PySem PySem.Spec L2
open PyProof.Rows hiding St
/-! ### short words -/
abbrev iI (i : Int) : PyData := .int i
abbrev iT (is : List Int) : PyData := .tuple (is.map PyData.int)
abbrev iL (is : List Int) : PyData := .list (is.map PyData.int)
theorem ints_at {is : List Int} {i : Nat} (h : i < is.length) : (is.map PyData.int)[i]? = some (.int (is.getD i 0)) := by
  rw [List.getElem?_map, List.getElem?_eq_getElem h, List.getD_eq_getElem?_getD, List.getElem?_eq_getElem h] <;> rfl
/-! ### isinstance -/
def tyN : PyData → String
  | .none => "NoneType"
  | .bool _ => "bool"
  | .int _ => "int"
  | .str _ => "str"
  | .list _ => "list"
  | .tuple _ => "tuple"
  | .dict _ => "dict"
theorem Rp.ty {K : PySem.W.Frag} {G H : Hp} {v : V} {d : PyData} (h : Rp K G v d) (s : Sub G H) : TyX K H v (.type (tyN d)) := by
  cases h with
  | non => exact .base .non
  | bl b => exact .base (.bl b)
  | int i => exact .base (.int i)
  | str x => exact .base (.str x)
  | lst h _ => exact .base (.lst (s _ _ h))
  | @tup a vs ds o h t _ =>
    cases hb : isPs ds with
    | false =>
      rw [hb] at t
      have t' : o = .tup vs := t
      rw [t'] at h
      exact .base (.tup (s _ _ h))
    | true =>
      rw [hb] at t
      obtain ⟨ob, t1, _⟩ := t
      rw [t1] at h
      exact .fTuple (s _ _ h)
  | dct h => exact .base (.dK (s _ _ h))
def isTup : PyData → Bool
  | .tuple _ => true
  | _ => false
def isInt : PyData → Bool
  | .int _ => true
  | .bool _ => true
  | _ => false
def isBool : PyData → Bool
  | .bool _ => true
  | _ => false
theorem kit_isTup : ∀ d : PyData, kitB (tyN d) "tuple" = some (isTup d)
  | .none => (by decide +kernel : kitB "NoneType" "tuple" = some false)
  | .bool _ => (by decide +kernel : kitB "bool" "tuple" = some false)
  | .int _ => (by decide +kernel : kitB "int" "tuple" = some false)
  | .str _ => (by decide +kernel : kitB "str" "tuple" = some false)
  | .list _ => (by decide +kernel : kitB "list" "tuple" = some false)
  | .tuple _ => (by decide +kernel : kitB "tuple" "tuple" = some true)
  | .dict _ => (by decide +kernel : kitB "dict" "tuple" = some false)
theorem kit_isInt : ∀ d : PyData, kitB (tyN d) "int" = some (isInt d)
  | .none => (by decide +kernel : kitB "NoneType" "int" = some false)
  | .bool _ => (by decide +kernel : kitB "bool" "int" = some true)
  | .int _ => (by decide +kernel : kitB "int" "int" = some true)
  | .str _ => (by decide +kernel : kitB "str" "int" = some false)
  | .list _ => (by decide +kernel : kitB "list" "int" = some false)
  | .tuple _ => (by decide +kernel : kitB "tuple" "int" = some false)
  | .dict _ => (by decide +kernel : kitB "dict" "int" = some false)
theorem kit_isBool : ∀ d : PyData, kitB (tyN d) "bool" = some (isBool d)
  | .none => (by decide +kernel : kitB "NoneType" "bool" = some false)
  | .bool _ => (by decide +kernel : kitB "bool" "bool" = some true)
  | .int _ => (by decide +kernel : kitB "int" "bool" = some false)
  | .str _ => (by decide +kernel : kitB "str" "bool" = some false)
  | .list _ => (by decide +kernel : kitB "list" "bool" = some false)
  | .tuple _ => (by decide +kernel : kitB "tuple" "bool" = some false)
  | .dict _ => (by decide +kernel : kitB "dict" "bool" = some false)
section
variable {K : PySem.W.Frag} {X : Cx} [g : Good K X] {δ : Sd} {W : Wd} {e : Expr} {es : List Expr} {pos : Pos} {d : PyData}
theorem ev_isi {x : Str} {T : String} {b : Bool} {p pT : Pos} (ha : EvE K X δ e W d) (hb : x ∈ (["isinstance", "int", "bool", "tuple", "all", "zip", "range", "len", "sum", "enumerate", "dict", "list", "repr", "sorted", "set", "max", "min"] : List Str)) (hv : bootBuiltins x = some (.type T)) (hk : kitB (tyN d) T = some b)
    (hg : Gl X "isinstance" := by rfl) (hgT : Gl X x := by rfl) (hn : x ≠ "__name__" := by decide) (hdb : (x == ("__debug__" : Str)) = false := by decide)
    (he : starEach [e, .Name x pT] X.env = (false, eval e X.env) :: starEach [.Name x pT] X.env := by rfl) (he2 : starEach [.Name x pT] X.env = (false, eval (.Name x pT) X.env) :: starEach [] X.env := by rfl) (hpl : (backTo pos (starEach [.Name x pT] X.env)).any (·.1) = false := by rfl) :
    EvE K X δ (.Call (.Name "isinstance" p) [e, .Name x pT] [] pos) W (.bool b) := fun U l σ s Q q =>
  (pe_callB call_isi hg (g.bn _ (by simp)) (by decide +kernel) (pa_cons (pe_w X e) (pa_cons (pe_bltn (v := .ty T) hgT (g.bn x hb) hv rfl hn hdb) pa_nil he2) he) (by decide) (by decide) he hpl).w (ha U l σ s _ fun v Z l2 rv =>
    ⟨v, .ty T, _, _, b, rfl, .ty T, by rw [g.hK]; exact rv.ty Z.ex, kit_ty hk, q _ Z l2 (.bl b)⟩)
theorem ev_isT {p pT : Pos} (ha : EvE K X δ e W d) (hg : Gl X "isinstance" := by rfl) (hgT : Gl X "tuple" := by rfl)
    (he : starEach [e, .Name "tuple" pT] X.env = (false, eval e X.env) :: starEach [.Name "tuple" pT] X.env := by rfl) (he2 : starEach [.Name "tuple" pT] X.env = (false, eval (.Name "tuple" pT) X.env) :: starEach [] X.env := by rfl) (hpl : (backTo pos (starEach [.Name "tuple" pT] X.env)).any (·.1) = false := by rfl) :
    EvE K X δ (.Call (.Name "isinstance" p) [e, .Name "tuple" pT] [] pos) W (.bool (isTup d)) := ev_isi (T := "tuple") ha (by simp) (by decide +kernel) (kit_isTup d) hg hgT (by decide) (by decide) he he2 hpl
theorem ev_isInt {p pT : Pos} (ha : EvE K X δ e W d) (hg : Gl X "isinstance" := by rfl) (hgT : Gl X "int" := by rfl)
    (he : starEach [e, .Name "int" pT] X.env = (false, eval e X.env) :: starEach [.Name "int" pT] X.env := by rfl) (he2 : starEach [.Name "int" pT] X.env = (false, eval (.Name "int" pT) X.env) :: starEach [] X.env := by rfl) (hpl : (backTo pos (starEach [.Name "int" pT] X.env)).any (·.1) = false := by rfl) :
    EvE K X δ (.Call (.Name "isinstance" p) [e, .Name "int" pT] [] pos) W (.bool (isInt d)) := ev_isi (T := "int") ha (by simp) (by decide +kernel) (kit_isInt d) hg hgT (by decide) (by decide) he he2 hpl
theorem ev_isBool {p pT : Pos} (ha : EvE K X δ e W d) (hg : Gl X "isinstance" := by rfl) (hgT : Gl X "bool" := by rfl)
    (he : starEach [e, .Name "bool" pT] X.env = (false, eval e X.env) :: starEach [.Name "bool" pT] X.env := by rfl) (he2 : starEach [.Name "bool" pT] X.env = (false, eval (.Name "bool" pT) X.env) :: starEach [] X.env := by rfl) (hpl : (backTo pos (starEach [.Name "bool" pT] X.env)).any (·.1) = false := by rfl) :
    EvE K X δ (.Call (.Name "isinstance" p) [e, .Name "bool" pT] [] pos) W (.bool (isBool d)) := ev_isi (T := "bool") ha (by simp) (by decide +kernel) (kit_isBool d) hg hgT (by decide) (by decide) he he2 hpl
end
/-! ### zip of two tuples, enumerate of a list -/
section
variable {K : PySem.W.Frag} {X : Cx} [g : Good K X] {δ : Sd} {W : Wd} {a b e : Expr} {es : List Expr} {pos : Pos}
def zipD (xs ys : List PyData) : List PyData := List.zipWith (fun x y => PyData.tuple [x, y]) xs ys
theorem zipD_len (xs ys : List PyData) : (zipD xs ys).length = min xs.length ys.length := by unfold zipD; rw [List.length_zipWith]
theorem zipD_at {xs ys : List PyData} {i : Nat} {d : PyData} (h : (zipD xs ys)[i]? = some d) : ∃ x y, xs[i]? = some x ∧ ys[i]? = some y ∧ d = .tuple [x, y] := by
  unfold zipD at h
  rw [List.getElem?_zipWith] at h
  cases hx : xs[i]? with
  | none => rw [hx] at h; cases h
  | some x =>
    cases hy : ys[i]? with
    | none => rw [hx, hy] at h; cases h
    | some y =>
      rw [hx, hy] at h
      exact ⟨x, y, rfl, rfl, (Option.some.inj h).symm⟩
theorem walk_zipT {G : Hp} {p q : Addr} {vs us : List V} {xs ys : List PyData} (h1 : SqT K G p vs) (h2 : SqT K G q us) (r1 : RpL K G vs xs) (r2 : RpL K G us ys) : Walk true K (RZ.ItzT K p q) G (zipD xs ys) := fun i U s => by
  have k1 := U.ex.t (s.t h1)
  have k2 := U.ex.t (s.t h2)
  refine ⟨fun d hd => ?_, fun hi => ⟨vs, us, k1, k2, by rw [zipD_len] at hi; rw [r1.len, r2.len]; omega⟩⟩
  obtain ⟨x, y, hx, hy, rfl⟩ := zipD_at hd
  obtain ⟨v, hv, rv⟩ := r1.at hx
  obtain ⟨u, hu, ru⟩ := r2.at hy
  refine ⟨⟨vs, us, v, u, k1, k2, hv, hu⟩, fun z H' hz => ?_⟩
  obtain ⟨T, v', u', rfl, hT, rfl, f1, f2⟩ := hz
  have e1 := f1 vs k1
  have e2 := f2 us k2
  rw [hv] at e1
  rw [hu] at e2
  obtain rfl := Option.some.inj e1
  obtain rfl := Option.some.inj e2
  exact ⟨U.add T _ hT, U.add_le hT, rfl, .inr ⟨rfl, T, _, _, rfl, rfl, upd_same, ((RpL.cons rv (.cons ru .nil)).up s).up (U.add_le hT).g⟩⟩
theorem ei_zipT {elts : List Expr} {kk : Nat} {tpos p : Pos} {xs ys : List PyData} (ha : EvE K X δ a W (.tuple xs)) (hb : EvE K X δ b W (.tuple ys)) (hg : Gl X "zip" := by rfl) (he : starEach [a, b] X.env = (false, eval a X.env) :: starEach [b] X.env := by rfl)
    (he2 : starEach [b] X.env = (false, eval b X.env) :: starEach [] X.env := by rfl) (hpl : (backTo pos (starEach [b] X.env)).any (·.1) = false := by rfl) :
    EvI true K X δ (.Tuple elts kk tpos) (.Call (.Name "zip" p) [a, b] [] pos) W (zipD xs ys) := fun U l σ r R q =>
  (RZ.pi_zipA hg (g.bn _ (by simp)) (pa_cons (pe_w X a) (pa_cons (pe_w X b) pa_nil he2) he) he hpl).w (ha U l σ r _ fun v Z l2 rv => hb Z (l.tr l2) σ (r.up l2.g) _ fun u Y l3 ru => by
    obtain ⟨p1, vs, rfl, e2, e3⟩ := (rv.up l3.g).tup_inv
    obtain ⟨p2, us, rfl, f2, f3⟩ := ru.tup_inv
    rw [g.hK]
    exact ⟨p1, p2, vs, us, rfl, .inr ⟨Y.ex.t e2, Y.ex.t f2, q _ Y (l2.tr l3) (walk_zipT e2 f2 e3 f3)⟩⟩)
def enumD (xs : List PyData) : List PyData := xs.mapIdx fun i x => PyData.tuple [.int (i : Int), x]
theorem enumD_len (xs : List PyData) : (enumD xs).length = xs.length := by unfold enumD; rw [List.length_mapIdx]
theorem enumD_at {xs : List PyData} {i : Nat} {d : PyData} (h : (enumD xs)[i]? = some d) : ∃ x, xs[i]? = some x ∧ d = .tuple [.int (i : Int), x] := by
  unfold enumD at h
  rw [List.getElem?_mapIdx] at h
  cases hx : xs[i]? with
  | none => rw [hx] at h; cases h
  | some x =>
    rw [hx] at h
    exact ⟨x, rfl, (Option.some.inj h).symm⟩
theorem walk_enum {G : Hp} {p : Addr} {vs : List V} {xs : List PyData} (h1 : SqL K G p vs) (r1 : RpL K G vs xs) : Walk true K (Ite K p) G (enumD xs) := fun i U s => by
  have k1 := U.ex.l (s.l h1)
  refine ⟨fun d hd => ?_, fun hi => ⟨vs, k1, by rw [enumD_len] at hi; rw [r1.len]; exact hi⟩⟩
  obtain ⟨x, hx, rfl⟩ := enumD_at hd
  obtain ⟨v, hv, rv⟩ := r1.at hx
  refine ⟨⟨vs, v, k1, hv⟩, fun z H' hz => ?_⟩
  obtain ⟨T, v', rfl, hT, rfl, f1⟩ := hz
  have e1 := f1 vs k1
  rw [hv] at e1
  obtain rfl := Option.some.inj e1
  exact ⟨U.add T _ hT, U.add_le hT, rfl, .inr ⟨rfl, T, _, _, rfl, rfl, upd_same, ((RpL.cons (.int _) (.cons rv .nil)).up s).up (U.add_le hT).g⟩⟩
theorem ei_enumL {elts : List Expr} {kk : Nat} {tpos p : Pos} {xs : List PyData} (ha : EvE K X δ a W (.list xs)) (hg : Gl X "enumerate" := by rfl) (he : starEach [a] X.env = (false, eval a X.env) :: starEach [] X.env := by rfl) :
    EvI true K X δ (.Tuple elts kk tpos) (.Call (.Name "enumerate" p) [a] [] pos) W (enumD xs) := fun U l σ r R q =>
  (pi_enum hg (g.bn _ (by simp)) (pa_cons (pe_w X a) pa_nil he) he).w (ha U l σ r _ fun v Z l2 rv => by
    obtain ⟨p1, vs, rfl, e2, e3⟩ := rv.lst_inv
    rw [g.hK]
    exact ⟨p1, vs, rfl, Z.ex.l e2, q _ Z l2 (walk_enum e2 e3)⟩)
end
end Pk
set_option Elab.async false
set_option linter.all false
set_option maxRecDepth 100000
set_option maxHeartbeats 4000000
namespace Pk
open PySem PySem.Spec L2
open PyProof.Rows hiding St
/-! ### sum of a tuple -/
section
variable {prog : Program} {w : World} {A : Around} {E : Value → Shared → Prop} {s : Shared} {l : Addr} {its : List Value} {ns : List Int}
theorem sum_tup {Q : Value → Shared → Prop} (hh : A.handled = none) (hl : s.heap.IsTuple l its.toArray) (hi : IntsAre its ns)
    (h : ∀ h' tk t', (∀ b o, s.heap.get? b = some o → h'.get? b = some o) → Q (.int ns.sum t') { s with heap := h', toks := tk }) : wpAny (model prog w) A (call (.builtin "sum") [.ref l]) Q E s := by
  obtain ⟨xs, e⟩ := hi.allInts.items
  have hn : numsOf (intItems xs).toList = ns := by rw [← e]; exact hi.numsOf
  rw [nums_intItems] at hn
  rw [e] at hl
  have hlt : l < s.heap.objs.size := by
    obtain ⟨_, q, _⟩ := hl
    exact Heap.lt_size q
  refine PySem.call_sum_walkG (wpAny_pyIter_tuple hl ?_)
  refine ⟨_, [_, l], [_], _, _, _, numAt xs, rfl, Walks.tuple (A := A.in1) hh _ l (Nat.ne_of_lt hlt) (intItems xs), ⟨⟨_, Heap.get?_push_size _ rfl, rfl, rfl⟩, hl.push _⟩, fun b hb => ?_, fun _ _ => intItems_at, fun h' tk t' hk => ?_⟩
  · show b < (s.heap.push _).objs.size
    rw [Heap.size_push]
    have hb' : b = s.heap.objs.size ∨ b = l := by simpa using hb
    rcases hb' with z | z
    · rw [z]; exact Nat.lt_succ_self _
    · rw [z]; exact Nat.lt_succ_of_lt hlt
  · have e2 : PySem.preSum (numAt xs) (intItems xs).size = ns.sum := by
      rw [preSum_eq, List.take_of_length_le (by simp [intItems]), hn]
    rw [e2]
    exact h h' tk t' fun b o q => hk b o (fun hm => by
      have z := Heap.lt_size q
      rw [List.mem_singleton.mp hm] at z
      exact absurd z (Nat.lt_irrefl _)) (Heap.get?_push_of_some _ q)
end
section
variable {X : Cx}
def rSumT (K : PySem.W.Frag) : List V → Hp → VK → Prop := fun vs H Q => ∃ (a : Addr) (ns : List Int), vs = [V.ref a] ∧ SqT K H a (ns.map V.int) ∧ Q (.int ns.sum) H
theorem cr_sumT (hc : X.calm = true) : CallR X (.builtin "sum") (rSumT X.K) := by
  intro pins s σ H vs us Q I r h
  obtain ⟨a, ns, rfl, hs, q⟩ := h
  obtain ⟨its, rv, ht, _⟩ := I.tuple hs
  rw [Vals.ref1 r]
  exact sum_tup (I.ok.hd hc) ht rv.ints fun h' tk t' hk => ⟨.int _, H, I.kept hk, ⟨_, rfl⟩, q⟩
/-! ### in, not in: a list or a tuple of data of any depth -/
def rInQ (K : PySem.W.Frag) : R2 := fun x y H Q => ∃ d ds, Dp K H x d ∧ (Dp K H y (.list ds) ∨ Dp K H y (.tuple ds)) ∧ SeqAt.shaped d = true ∧ SeqAt.shaped (.list ds) = true ∧ Q (.bl (ds.any fun z => PyData.eqv z d)) H
def rNiQ (K : PySem.W.Frag) : R2 := fun x y H Q => ∃ d ds, Dp K H x d ∧ (Dp K H y (.list ds) ∨ Dp K H y (.tuple ds)) ∧ SeqAt.shaped d = true ∧ SeqAt.shaped (.list ds) = true ∧ Q (.bl (!ds.any fun z => PyData.eqv z d)) H
theorem lays {ds : List PyData} (h : SeqAt.shaped (.list ds) = true) : PyData.canLayAll0 ds = true := by
  have z := SeqAt.canLay_of_shaped h
  simpa only [PyData.canLay0] using z
theorem op_inQ (hu : X.A.units + 65 < cLine) : OpR X (compareOp .In) (rInQ X.K) := by
  intro pins s σ H x y v u Q I rx ry h
  obtain ⟨d, ds, hd, he, sd, se, q⟩ := h
  obtain ⟨as, r1⟩ := Dp.reads I d x v hd rx
  rcases he with he | he
  · obtain ⟨bs, r2⟩ := Dp.reads I (.list ds) y u he ry
    exact SeqAt.in_list_reads r2 r1 (lays se) (SeqAt.canLay_of_shaped sd) (room_in_shaped sd hu) ⟨.bl _, H, I, rfl, q⟩
  · obtain ⟨bs, r2⟩ := Dp.reads I (.tuple ds) y u he ry
    exact SeqAt.in_tuple_reads r2 r1 (lays se) (SeqAt.canLay_of_shaped sd) (room_in_shaped sd hu) ⟨.bl _, H, I, rfl, q⟩
theorem op_niQ (hu : X.A.units + 65 < cLine) : OpR X (compareOp .NotIn) (rNiQ X.K) := by
  intro pins s σ H x y v u Q I rx ry h
  obtain ⟨d, ds, hd, he, sd, se, q⟩ := h
  obtain ⟨as, r1⟩ := Dp.reads I d x v hd rx
  rcases he with he | he
  · obtain ⟨bs, r2⟩ := Dp.reads I (.list ds) y u he ry
    exact SeqAt.notIn_list_reads r2 r1 (lays se) (SeqAt.canLay_of_shaped sd) (room_in_shaped sd hu) ⟨.bl _, H, I, rfl, q⟩
  · obtain ⟨bs, r2⟩ := Dp.reads I (.tuple ds) y u he ry
    exact SeqAt.notIn_tuple_reads r2 r1 (lays se) (SeqAt.canLay_of_shaped sd) (room_in_shaped sd hu) ⟨.bl _, H, I, rfl, q⟩
/-! ### t.index(x), the first place of an equal item -/
def rIndexT (K : PySem.W.Frag) : V → List V → Hp → VK → Prop := fun x xs H Q => ∃ (y : V) (d : PyData) (ds : List PyData) (j : Nat) (z : PyData), xs = [y] ∧ Dp K H x (.tuple ds) ∧ Dp K H y d ∧
  SeqAt.shaped (.list ds) = true ∧ SeqAt.shaped d = true ∧ ds[j]? = some z ∧ PyData.eqv z d = true ∧ (∀ (m : Nat) (z' : PyData), m < j → ds[m]? = some z' → PyData.eqv z' d = false) ∧ Q (.int (j : Nat)) H
theorem mt_indexT (hu : X.A.units + 65 < cLine) : MtR X "tuple.index" (rIndexT X.K) := by
  intro pins s σ H x xs v us Q I rx rxs h
  obtain ⟨y, d, ds, j, z, rfl, hl, hy, sl, sd, hz, hzj, hno, q⟩ := h
  obtain ⟨uy, rfl, ry⟩ := vals1 rxs
  obtain ⟨bs, r1⟩ := Dp.reads I d y uy hy ry
  have room : X.A.units + 1 + min (PyData.depthAll ds) d.depth < cLine := room_in_shaped sd hu
  cases hl with
  | @tup a ws _ hs ha =>
    cases rx
    obtain ⟨its, rv, ⟨⟨cls, dd, data, sls⟩, ho, hc, n, hdt⟩, hlen⟩ := I.tuple hs
    simp only at hc hdt
    subst hc hdt
    obtain ⟨as, h4⟩ := Dp.readsAll I ds _ its ha rv
    have hn : its.length = ds.length := SeqAt.ReadsAll.length ds its as h4
    have hmap : its.map (SeqAt.readOf s.heap) = ds := SeqAt.readsAll_map ds its as (lays sl) h4
    have hjd := (List.getElem?_eq_some_iff.mp hz).1
    have item : ∀ (m : Nat) (hm : m < its.toArray.size) (z' : PyData), ds[m]? = some z' → SeqAt.readOf s.heap its.toArray[m] = z' := fun m hm z' hz' => by
      have hml : m < its.length := by simpa using hm
      rw [← hmap, List.getElem?_map, List.getElem?_eq_getElem hml] at hz'
      simpa using Option.some.inj (show some (SeqAt.readOf s.heap its[m]) = some z' from hz')
    have hj : j < its.toArray.size := by
      rw [List.size_toArray]; omega
    refine call_meets PySem.F.slot_tuple_index ⟨_, ho, rfl⟩ PySem.F.entry_tuple_index (PySem.F.args_tuple_index_2 _ _)
      (TI.tuple_indexAt a its.toArray n dd sls uy (fun u => PyData.eqv (SeqAt.readOf s.heap u) d) j hj (by show PyData.eqv _ d = true; rw [item j hj z hz]; exact hzj) fun m hm hmj => ?_)
      ⟨ho, SeqAt.items_eqAt (vs := its.toArray) (show ReadsAll s.heap its.toArray.toList ds as from h4) r1 (lays sl) (SeqAt.canLay_of_shaped sd) room, ⟨.int (j : Nat), H, I.tok _, ⟨_, rfl⟩, q⟩⟩
    have hmd : m < ds.length := by omega
    show PyData.eqv _ d = false
    rw [item m hm _ (List.getElem?_eq_getElem hmd)]
    exact hno m _ hmj (List.getElem?_eq_getElem hmd)
/-- a method of a tuple whose very object is tracked -/
def tTM (r : V → List V → Hp → VK → Prop) (to : TE) (t : TA) : TE := fun σ H Q => to σ H fun x H1 => (∃ (p : Addr) (ob : Obj) (xs : List V), x = .ref p ∧ H1 p = some (.frz ob (.tup xs)) ∧ ob.dict = none ∧ ob.cls = .type "tuple") ∧ t σ H1 fun xs H2 => r x xs H2 Q
theorem pe_tm {o e : Expr} {es : List Expr} {to : TE} {t : TA} {name : Str} {apos cpos : Pos} {id : String} {r : V → List V → Hp → VK → Prop} (pa : PlainAttrs "tuple") (slot : Slot "tuple" name id) (hty : typeOf (.builtin id) = pure (.type "method_descriptor")) (hm : MtR X id r) (ho : PE X o to) (ha : PA X (e :: es) t)
    (hbase : attributeBase o name X.env (eval o X.env) = eval o X.env := by rfl)
    (hfew : ((backTo cpos (starEach (e :: es) X.env)).all (fun x => !x.1) && (backToKw cpos (keywordEach [] X.env)).all (fun x => x.1.isSome) && decide ((e :: es).length + ([] : List Keyword).length + (if ([] : List Keyword).isEmpty then 0 else 1) < 30)) = true := by rfl)
    (hline : (apos.endLine == cpos.line) = true := by rfl) (hs : starEach (e :: es) X.env = (false, eval e X.env) :: starEach es X.env := by rfl) (hplain : (backTo cpos (starEach es X.env)).any (·.1) = false := by rfl) :
    PE X (.Call (.Attribute o name apos) (e :: es) [] cpos) (tTM r to t) := by
  refine ⟨fun pins s σ H Q I h => wpAny_Call_method_late hbase hfew hline rfl (thn (ho.run pins s σ H _ I h) fun v s1 hh => ?_)⟩
  obtain ⟨x, H1, I1, r1, ⟨p, ob, xs, ex, ep, hd, hc⟩, q1⟩ := hh
  subst ex
  obtain rfl : v = Value.ref p := r1
  have hget : s1.heap.get? p = some ob := (I1.hok p _ ep).1
  refine ⟨"tuple", id, pa, slot, hty, ⟨ob, hget, hc⟩, fun a e => ?_, ?_⟩
  · cases e
    exact ⟨ob, hget, hd⟩
  have hA := ha.run cpos pins s1 σ H1 _ I1 q1
  rw [hs] at hA ⊢
  refine Calls.callWith_builtin (by show (false || (backTo cpos (starEach es X.env)).any (·.1)) = false; rw [hplain] <;> rfl) (Calls.evalArgs_plain (thn hA fun us s2 hh => ?_))
  obtain ⟨vs, H2, I2, r2, q2⟩ := hh
  exact hm pins s2 σ H2 (.ref p) vs _ us Q I2 rfl r2 q2
/-! ### +, slices, *, [::-1] of tuples; the new one tracked as b says -/
def rCatB (K : PySem.W.Frag) (b : Bool) : R2 := fun x y H Q => ∃ (p q : Addr) (xs ys : List V), x = .ref p ∧ y = .ref q ∧ SqT K H p xs ∧ SqT K H q ys ∧ xs.length + ys.length ≤ sizeLine ∧
  (xs = [] → Q (.ref q) H) ∧ (xs ≠ [] → ys = [] → Q (.ref p) H) ∧ (xs ≠ [] → ys ≠ [] → ∀ l o, H l = none → TupO b (xs ++ ys) o → Q (.ref l) (upd H l o))
theorem op_catB (b : Bool) : OpR X (binaryOp .Add) (rCatB X.K b) := by
  intro pins s σ H x y v u Q I rx ry h
  obtain ⟨p, q, xs, ys, rfl, rfl, hp, hq, hz, q0, q1, q2⟩ := h
  cases rx
  cases ry
  obtain ⟨its, r1, p1, _⟩ := I.tuple hp
  obtain ⟨its2, r2, p2, _⟩ := I.tuple hq
  by_cases hx : xs = []
  · subst hx
    cases r1
    exact cat_tup0 p1 p2 ⟨.ref q, H, I, rfl, q0 rfl⟩
  · refine HT.cat_tup p1 p2 (fun z => hx (r1.nil_iff.mp z)) (fun z => ⟨.ref p, H, I, rfl, q1 hx (r2.nil_iff.mp z)⟩) (fun z => ?_) (by rw [← r1.length, ← r2.length]; exact hz)
    exact laidT b I (r1.append r2) (by rw [List.length_append]; exact hz) (q2 hx fun w => z (r2.nil_iff.mpr w))
def rSlB (K : PySem.W.Frag) (b : Bool) : V → Option Int → Option Int → Hp → VK → Prop := fun x lo hi H Q => ∃ (a : Addr) (xs : List V), x = .ref a ∧ SqT K H a xs ∧
  ((HT.sIx xs.length 0 lo = 0 ∧ HT.sIx xs.length xs.length hi = xs.length) → Q (.ref a) H) ∧ (¬ (HT.sIx xs.length 0 lo = 0 ∧ HT.sIx xs.length xs.length hi = xs.length) → ∀ p o, H p = none → TupO b (cutV xs lo hi) o → Q (.ref p) (upd H p o))
theorem sl_tupB (b : Bool) : SlR X (rSlB X.K b) := by
  intro pins s σ H x v vl vu lo hi sl Q I rx hs pl pu h
  obtain ⟨a, xs, rfl, hx, q1, q2⟩ := h
  cases rx
  obtain ⟨its, r, ht, hz⟩ := I.tuple hx
  have hlen : its.toArray.size = xs.length := by rw [List.size_toArray]; exact r.length.symm
  refine ⟨"tuple", _, PyProof.Rows.slot_tuple_getitem.lookup, ht.typeIs, ?_⟩
  by_cases hw : HT.sIx xs.length 0 lo = 0 ∧ HT.sIx xs.length xs.length hi = xs.length
  · exact getItem_tuple_whole ht hs pl pu (by rw [hlen]; exact hw) ⟨.ref a, H, I, rfl, q1 hw⟩
  · refine HT.getItem_tuple_cut ht hs pl pu (by rw [hlen]; exact hw) ?_ (by rw [hlen]; exact hz)
    rw [hlen]
    exact laidT b I ((r.drop _).take _) (Nat.le_trans (cutV_length xs lo hi) hz) (q2 hw)
/-- t * k, k at most 1000 -/
def rRepB (K : PySem.W.Frag) (b : Bool) : R2 := fun x y H Q => ∃ (l : Addr) (k : Int) (xs : List V), x = .ref l ∧ y = .int k ∧ SqT K H l xs ∧ xs ≠ [] ∧ 0 ≤ k ∧ k ≤ 1000 ∧ xs.length ≤ 1000 ∧ (k = 1 → Q (.ref l) H) ∧ (k ≠ 1 → ∀ p o, H p = none → TupO b (List.replicate k.toNat xs).flatten o → Q (.ref p) (upd H p o))
open AutoSeq1 (wpAny_loadPart')
theorem tuple_mul1 (l : Addr) (items : Array Value) (n : Nat) (dd : Option Addr) (sl : Array (Option Value)) (u : Tok) :
    Meets (Builtin.«tuple.__mul__» ⟨[.ref l, .int 1 u], []⟩) (fun _ R s => s.heap.get? l = some { cls := .type "tuple", dict := dd, data := .seq items n, slots := sl } ∧ R (.ok (.ret (Value.ref l))) s) :=
  .of_wp fun prog w A R s h => by
    obtain ⟨hp, g, d, tk, os⟩ := s
    obtain ⟨hl, h⟩ := h
    have f1 := AutoSeq1.idx_int
    wp_walk using wpAny_loadPart' hl
    exact ⟨_, rfl, h⟩
theorem tuple_mul0 (l : Addr) (items : Array Value) (n : Nat) (dd : Option Addr) (sl : Array (Option Value)) (u : Tok) (c1 : items.isEmpty = false) :
    Meets (Builtin.«tuple.__mul__» ⟨[.ref l, .int 0 u], []⟩) (fun _ R s => s.heap.get? l = some { cls := .type "tuple", dict := dd, data := .seq items n, slots := sl } ∧ R (.ok (.ret (Value.ref s.heap.objs.size))) { s with heap := s.heap.push { cls := Value.type "tuple", data := Data.seq #[] }, toks := s.toks }) :=
  .of_wp fun prog w A R s h => by
    obtain ⟨hp, g, d, tk, os⟩ := s
    obtain ⟨hl, h⟩ := h
    have f1 := AutoSeq1.idx_int
    have c2 : (items.isEmpty || (0 : Int) == 1) = false := by rw [c1] <;> rfl
    wp_walk using wpAny_loadPart' hl
    exact ⟨_, rfl, h⟩
theorem op_repB (b : Bool) : OpR X (binaryOp .Mult) (rRepB X.K b) := by
  intro pins s σ H x y v u Q I rx ry h
  obtain ⟨l, k, xs, rfl, rfl, hT, hne, h1, h2, hz, q1, q2⟩ := h
  cases rx
  obtain ⟨t, rfl⟩ := ry
  obtain ⟨its, r, ⟨⟨cls, dd, data, sl⟩, ho, hc, n, hd⟩, hs⟩ := I.tuple hT
  simp only at hc hd
  subst hc hd
  have hle : its.length = xs.length := r.length.symm
  have hlx : 0 < xs.length := List.length_pos_iff.mpr hne
  have hi : its.toArray.isEmpty = false := by
    cases its with
    | nil => simp at hle; omega
    | cons a b => rfl
  refine wpAny_binaryOp_repeat_ref (T := "tuple") (U := "int") (by decide) ⟨_, ho, rfl⟩ (fun s' => typeIs_int s' k t) noFill_tuple_mul F.fills_int_mul F.slot_int_rmul repeat_tuple F.slot_int_index.lookup
    (call_meets F.slot_int_rmul (typeIs_int s k t) F.entry_int_rmul (F.args_int_rmul_2 _ _) (int_rmul_tuple k t l its.toArray n dd sl) ⟨ho, rfl, ⟨_, ho, rfl⟩, ?_⟩)
  rcases (show k = 0 ∨ k = 1 ∨ 2 ≤ k by omega) with e | e | e
  · subst e
    refine call_meets F.slot_tuple_mul ⟨_, ho, rfl⟩ F.entry_tuple_mul (F.args_tuple_mul_2 _ _) (tuple_mul0 l its.toArray n dd sl t hi) ⟨ho, ?_⟩
    exact laidT (us := []) b I .nil (Nat.zero_le _) (q2 (by decide))
  · subst e
    exact call_meets F.slot_tuple_mul ⟨_, ho, rfl⟩ F.entry_tuple_mul (F.args_tuple_mul_2 _ _) (tuple_mul1 l its.toArray n dd sl t) ⟨ho, .ref l, H, I, rfl, q1 rfl⟩
  · have hsz0 : its.toArray.size = xs.length := by rw [List.size_toArray, hle]
    have a1 : ((xs.length : Nat) : Int) * k ≤ 1000 * k := Int.mul_le_mul_of_nonneg_right (by omega) (by omega)
    have hm : ((its.toArray.size : Nat) : Int) * k ≤ 1000000 := by
      rw [hsz0]; omega
    have fl : (List.replicate k.toNat xs).flatten.length ≤ sizeLine := by
      rw [PyProof.Rows.lm_len_rep_flat, sizeLine_eq]
      have a2 : k.toNat * xs.length ≤ 1000 * 1000 := Nat.mul_le_mul (by omega) hz
      omega
    have fl2 : (List.replicate k.toNat its).flatten.length ≤ sizeLine := by
      rw [← (r.rep k.toNat).length]; exact fl
    have c0 : (decide (k < -(2 ^ 63)) || decide (k ≥ 2 ^ 63)) = false := by
      rw [decide_eq_false (by omega), decide_eq_false (by omega)] <;> rfl
    have c1 : (its.toArray.isEmpty || k == 1) = false := by
      rw [hi, Bool.false_or]; exact beq_eq_false_iff_ne.mpr (by omega)
    have c2 : (decide (k ≤ 0) || its.toArray.isEmpty) = false := by
      rw [hi, Bool.or_false]; exact decide_eq_false (by omega)
    have c4 : Builtin.Tuple.tupleTooMany (((its.toArray.size : Nat) : Int) * k) = false := by
      unfold Builtin.Tuple.tupleTooMany
      rw [sizeLine_eq]; exact decide_eq_false (by omega)
    refine call_meets F.slot_tuple_mul ⟨_, ho, rfl⟩ F.entry_tuple_mul (F.args_tuple_mul_2 _ _) (tuple_mulW l its.toArray n dd sl k t c0 c1 c2 (by omega) c4 (by rw [size_rep, List.size_toArray]; exact fl2)) ⟨ho, ?_⟩
    rw [size_rep]
    exact laidT b I (r.rep k.toNat) fl (q2 (by omega))
end
/-! ### t[::-1] -/
section
variable {prog : Program} {w : World} {A : Around} {E : Value → Shared → Prop} {s : Shared}
theorem adjust_rev (n : Nat) : Builtin.Slice.sliceAdjust none none (-1) (n : Int) = ((n : Int) - 1, -1) := by
  unfold Builtin.Slice.sliceAdjust
  simp only [show ((-1 : Int) < 0) = True from eq_true (by decide), if_true]
theorem places_rev (n : Nat) : Builtin.Slice.slicePlaces ((n : Int) - 1) (-1) (-1) = n := by
  unfold Builtin.Slice.slicePlaces
  rw [if_neg (by decide)]
  by_cases h : 0 < n
  · rw [if_pos (by omega)]
    show ((((n : Int) - 1 - -1 - 1) / (- -1)) + 1).toNat = n
    rw [show (- -1 : Int) = 1 from rfl, Int.ediv_one]
    omega
  · rw [if_neg (by omega)]
    show 0 = n
    omega
theorem applied_rev {sl : Addr} {n : Nat} {vs : Value} {Q : Int × Int × Nat → Shared → Prop} (hs : s.heap.IsSliceOf sl .none .none vs) (ps : IsPart vs (some (-1))) (h : Q ((n : Int) - 1, -1, n) s) :
    wpAny (model prog w) A (Builtin.Slice.sliceApplied (.ref sl) (pure (n : Int))) Q E s := by
  obtain ⟨os, hos, hcs, hds⟩ := id hs
  obtain ⟨u, rfl⟩ : ∃ u, vs = .int (-1) u := by
    cases ps
    exact ⟨_, rfl⟩
  unfold Builtin.Slice.sliceApplied Builtin.Slice.sliceFields
  refine wpAny_bind (wpAny_bind (wpAny_field hos hds (x := .none) rfl (wpAny_bind (wpAny_field hos hds (x := .none) rfl (wpAny_bind (wpAny_field hos hds (x := .int (-1) u) rfl (wpAny_pure ?_)))))))
  refine wpAny_bind (slicePart_int ?_)
  show wpAny _ _ (if ((-1 : Int) == 0) = true then _ else _) _ _ s
  rw [if_neg (by decide)]
  refine wpAny_bind (slicePart_none (wpAny_bind (slicePart_none (wpAny_bind (wpAny_pure ?_)))))
  show wpAny _ _ (match Builtin.Slice.sliceAdjust none none (-1) (n : Int) with | (lo, hi) => pure (lo, (-1 : Int), Builtin.Slice.slicePlaces lo hi (-1))) _ _ s
  rw [adjust_rev n]
  show wpAny _ _ (pure ((n : Int) - 1, (-1 : Int), Builtin.Slice.slicePlaces ((n : Int) - 1) (-1) (-1))) _ _ s
  rw [places_rev n]
  exact wpAny_pure h
theorem pick_back (xs : Array Value) : ((List.range xs.size).filterMap fun (k : Nat) => xs[(((xs.size : Int) - 1) + (k : Int) * -1).toNat]?).toArray = xs.toList.reverse.toArray := by
  congr 1
  have e : ∀ m, m ≤ xs.size → ((List.range m).filterMap fun (k : Nat) => xs[(((xs.size : Int) - 1) + (k : Int) * -1).toNat]?) = xs.toList.reverse.take m := by
    intro m
    induction m with
    | zero => intro _; rfl
    | succ m ih =>
      intro hm
      rw [List.range_succ, List.filterMap_append, ih (by omega), List.take_add_one]
      congr 1
      have h1 : (((xs.size : Int) - 1) + (m : Int) * -1).toNat = xs.size - 1 - m := by omega
      rw [List.filterMap_cons, h1]
      have h2 : xs.toList.reverse[m]? = xs[xs.size - 1 - m]? := by
        rw [List.getElem?_reverse (by rw [Array.length_toList]; omega), Array.length_toList, Array.getElem?_toList]
      rw [h2]
      cases xs[xs.size - 1 - m]? <;> rfl
  rw [e xs.size (Nat.le_refl _), List.take_of_length_le (by simp)]
theorem getItem_tuple_back {t sl : Addr} {items : Array Value} {vs : Value} {Q : Value → Shared → Prop} (ht : IsTup s.heap t items) (hs : s.heap.IsSliceOf sl .none .none vs) (ps : IsPart vs (some (-1))) (hsz : items.size ≤ sizeLine)
    (h : Q (.ref s.heap.objs.size) { s with heap := s.heap.push { cls := .type "tuple", data := .seq items.toList.reverse.toArray } }) : wpAny (model prog w) A (getItem (.ref t) (.ref sl)) Q E s := by
  have hok : sizeOk (.seq items.toList.reverse.toArray) := by
    show items.toList.reverse.toArray.size ≤ sizeLine
    simpa using hsz
  obtain ⟨os, hos, hcs, hds⟩ := id hs
  have hTs : s.TypeIs (.ref sl) "slice" := ⟨os, hos, hcs⟩
  unfold getItem
  try with_reducible refine wpAny_holding ?_
  first | refine wpAny_bind (wpAny_pure ?_) | skip
  refine wpAny_bind (wpAny_sequenceKey ht.typeIs (by decide) (wpAny_bind ?_))
  refine wpAny_callSpecial?_slot (name := Str.ofString "__getitem__") ht.typeIs PyProof.Rows.slot_tuple_getitem (wpAny_call_entry PyProof.Rows.slot_tuple_getitem ht.typeIs entry_tuple_getitem ?_ (args_tuple_getitem _ _))
  show wpAny _ _ (Builtin.Tuple.tupleItemsOf (.ref t) >>= _) _ _ s
  refine wpAny_bind (tupleItemsOf_ ht (wpAny_bind (wpAny_typeOf hTs ?_)))
  rw [if_pos (by decide)]
  refine wpAny_bind (applied_rev hs ps ?_)
  have hno : ¬ ((((items.size : Int) - 1) == 0 && (-1 : Int) == 1 && items.size == items.size) = true) := by
    rw [show ((-1 : Int) == 1) = false from rfl, Bool.and_false, Bool.false_and]; exact Bool.false_ne_true
  show wpAny _ _ (if (((items.size : Int) - 1) == 0 && (-1 : Int) == 1 && items.size == items.size) = true then _ else _) _ _ s
  rw [if_neg hno, pick_back]
  first
    | exact wpAny_bind (m := Builtin.Tuple.tupleExact _) (wpAny_newObj_type (wpAny_bind (wpAny_pure (wpAny_pure ⟨_, rfl, wpAny_pure h⟩))) hok)
    | exact wpAny_bind (m := Builtin.Tuple.tupleExact _) (wpAny_newObj_type (wpAny_pure ⟨_, rfl, wpAny_pure h⟩) hok)
    | exact wpAny_bind (wpAny_bind (m := Builtin.Tuple.tupleExact _) (wpAny_newObj_type (wpAny_pure (wpAny_pure ⟨_, rfl, wpAny_pure h⟩)) hok))
    | exact wpAny_bind (wpAny_bind (m := Builtin.Tuple.tupleExact _) (wpAny_newObj_type (wpAny_pure ⟨_, rfl, wpAny_pure h⟩) hok))
end
section
variable {X : Cx}
def tRevB (K : PySem.W.Frag) (b : Bool) (te : TE) : TE := fun σ H Q => te σ H fun x H1 => ∃ (a : Addr) (xs : List V), x = .ref a ∧ SqT K H1 a xs ∧ ∀ p o, H1 p = none → TupO b xs.reverse o → Q (.ref p) (upd H1 p o)
theorem pe_revB {e : Expr} {te : TE} {k : Nat} {p1 p2 p3 pos : Pos} (b : Bool) (he : PE X e te) : PE X (.Subscript e (.Slice none none (some (.UnaryOp .USub (.Constant (.int 1) k p1) p2)) p3) pos) (tRevB X.K b te) := by
  refine ⟨fun pins s σ H Q I h => Subscript_ (thn (he.run pins s σ H _ I h) fun v s1 hh => ?_)⟩
  obtain ⟨x, H1, I1, r1, a, xs, ex, hx, q⟩ := hh
  subst ex
  obtain rfl : v = Value.ref a := r1
  have hst : PO X (some (.UnaryOp .USub (.Constant (.int 1) k p1) p2)) (tPart (tUn (rU fun i => .int (-i)) (tC (.int 1)))) := po_some (pe_un un_neg pe_int)
  refine wpAny_Slice ?_
  rw [evalPart_none]
  refine wpAny_pure (wpAny_pure ?_)
  refine thn (hst.run pins s1 σ H1 (fun o H4 => o = some (-1) ∧ H4 = H1) I1 ⟨1, rfl, -1, rfl, rfl, rfl⟩) fun vs s4 hh => ?_
  obtain ⟨o, H4, I4, ps, eo, e4⟩ := hh
  subst eo e4
  have I5 : Inv X pins σ H4 { s4 with heap := s4.heap.push { cls := .type "slice", data := .fields #[.none, .none, vs] } } := I4.kept (t' := s4.toks) fun b ob q => Heap.get?_push_of_some _ q
  obtain ⟨its, r, ht, hz⟩ := I5.tuple hx
  show wpAny (model X.prog X.w) X.A (subscriptTail e (.Slice none none (some (.UnaryOp .USub (.Constant (.int 1) k p1) p2)) p3) (.ref a) (.ref s4.heap.objs.size)) (EP X pins σ Q) X.xe { s4 with heap := s4.heap.push { cls := .type "slice", data := .fields #[.none, .none, vs] } }
  refine tail_any (ops := [.ref a, .ref s4.heap.objs.size]) ht.typeIs PyProof.Rows.slot_tuple_getitem.lookup ?_ (by with_unfolding_all rfl)
  refine getItem_tuple_back ht (Heap.IsSliceOf.new _ .none .none vs) ps (by rw [List.size_toArray, ← r.length]; exact hz) ?_
  exact laidT b I5 r.reverse (by rw [List.length_reverse]; exact hz) q
end
end Pk
set_option Elab.async false
set_option linter.all false
set_option maxRecDepth 100000
set_option maxHeartbeats 4000000
namespace Pk
open PySem PySem.Spec L2
open PyProof.Rows hiding St
/-! ### data that may be compared: no dicts, of no great depth -/
def pl (n : Nat) (d : PyData) : Bool := d.canLay0 && decide (d.depth ≤ n)
mutual
theorem noD_of : ∀ d : PyData, d.canLay0 = true → noD d = true
  | .none, _ => rfl
  | .bool _, _ => rfl
  | .int _, _ => rfl
  | .str _, _ => rfl
  | .list xs, h => by
    show noDs xs = true
    exact noDs_of xs (by simpa [PyData.canLay0] using h)
  | .tuple xs, h => by
    show noDs xs = true
    exact noDs_of xs (by simpa [PyData.canLay0] using h)
  | .dict _, h => by simp [PyData.canLay0] at h
theorem noDs_of : ∀ ds : List PyData, PyData.canLayAll0 ds = true → noDs ds = true
  | [], _ => rfl
  | d :: ds, h => by
    have h' : d.canLay0 = true ∧ PyData.canLayAll0 ds = true := by simpa [PyData.canLayAll0] using h
    show (noD d && noDs ds) = true
    rw [noD_of d h'.1, noDs_of ds h'.2] <;> rfl
end
theorem pl_plain {n : Nat} {d : PyData} (h : pl n d = true) (hn : n ≤ 64 := by decide) : Plain d := by
  unfold pl at h
  rw [Bool.and_eq_true] at h
  have h2 := of_decide_eq_true h.2
  refine ⟨noD_of d h.1, ?_⟩
  show (d.canLay0 && decide (d.depth ≤ 64)) = true
  rw [h.1, decide_eq_true (by omega)] <;> rfl
theorem pl_all {n : Nat} : ∀ {ds : List PyData}, (∀ d ∈ ds, pl n d = true) → PyData.canLayAll0 ds = true ∧ PyData.depthAll ds ≤ n
  | [], _ => ⟨by simp [PyData.canLayAll0], by simp [PyData.depthAll]⟩
  | d :: ds, h => by
    have h1 := h d List.mem_cons_self
    unfold pl at h1
    rw [Bool.and_eq_true] at h1
    obtain ⟨a, b⟩ := pl_all (ds := ds) fun x hx => h x (List.mem_cons_of_mem _ hx)
    have h2 := of_decide_eq_true h1.2
    refine ⟨by simp [PyData.canLayAll0, h1.1, a], ?_⟩
    simp only [PyData.depthAll]
    omega
theorem pl_list {n : Nat} {ds : List PyData} (h : ∀ d ∈ ds, pl n d = true) : pl (n + 1) (.list ds) = true := by
  obtain ⟨a, b⟩ := pl_all h
  unfold pl
  rw [Bool.and_eq_true]
  refine ⟨by simpa [PyData.canLay0] using a, decide_eq_true ?_⟩
  simp only [PyData.depth]
  omega
theorem pl_tuple {n : Nat} {ds : List PyData} (h : ∀ d ∈ ds, pl n d = true) : pl (n + 1) (.tuple ds) = true := by
  obtain ⟨a, b⟩ := pl_all h
  unfold pl
  rw [Bool.and_eq_true]
  refine ⟨by simpa [PyData.canLay0] using a, decide_eq_true ?_⟩
  simp only [PyData.depth]
  omega
theorem pl_up {n m : Nat} {d : PyData} (h : pl n d = true) (hm : n ≤ m := by decide) : pl m d = true := by
  unfold pl at h ⊢
  rw [Bool.and_eq_true] at h ⊢
  exact ⟨h.1, decide_eq_true (by have := of_decide_eq_true h.2; omega)⟩
theorem pl_int (i : Int) (n : Nat) : pl n (.int i) = true := by
  unfold pl
  simp [PyData.canLay0, PyData.depth]
theorem pl_bool (i : Bool) (n : Nat) : pl n (.bool i) = true := by
  unfold pl
  simp [PyData.canLay0, PyData.depth]
theorem pl_none (n : Nat) : pl n .none = true := by
  unfold pl
  simp [PyData.canLay0, PyData.depth]
theorem pl_inv_t {n : Nat} {ds : List PyData} (h : pl n (.tuple ds) = true) {d : PyData} (hd : d ∈ ds) : pl n d = true := by
  unfold pl at h ⊢
  rw [Bool.and_eq_true] at h ⊢
  have h1 : PyData.canLayAll0 ds = true := by simpa [PyData.canLay0] using h.1
  have h2 := of_decide_eq_true h.2
  simp only [PyData.depth] at h2
  have key : ∀ es : List PyData, PyData.canLayAll0 es = true → ∀ x ∈ es, x.canLay0 = true ∧ x.depth ≤ PyData.depthAll es := by
    intro es
    induction es with
    | nil => intro _ x hx; simp at hx
    | cons e es ih =>
      intro he x hx
      have he' : e.canLay0 = true ∧ PyData.canLayAll0 es = true := by simpa [PyData.canLayAll0] using he
      simp only [PyData.depthAll]
      rcases List.mem_cons.mp hx with rfl | hx
      · exact ⟨he'.1, by omega⟩
      · obtain ⟨a, b⟩ := ih he'.2 x hx
        exact ⟨a, by omega⟩
  obtain ⟨a, b⟩ := key ds h1 d hd
  exact ⟨a, decide_eq_true (by omega)⟩
theorem pl_ints (is : List Int) : pl 1 (.tuple (is.map PyData.int)) = true := pl_tuple (n := 0) fun d h => by
  obtain ⟨i, _, rfl⟩ := List.mem_map.mp h
  exact pl_int i 0
theorem pl_intsL (is : List Int) : pl 1 (.list (is.map PyData.int)) = true := pl_list (n := 0) fun d h => by
  obtain ⟨i, _, rfl⟩ := List.mem_map.mp h
  exact pl_int i 0
theorem plain_nilT : Plain (.tuple []) := pl_plain (n := 1) (pl_ints [])
theorem plain_nilL : Plain (.list []) := pl_plain (n := 1) (pl_intsL [])
theorem eqv_nilL (L : List PyData) : PyData.eqv (.list L) (.list []) = L.isEmpty := by
  cases L <;> simp [PyData.eqv, PyData.eqvAll]
theorem eqv_nilT (L : List PyData) : PyData.eqv (.tuple L) (.tuple []) = L.isEmpty := by
  cases L <;> simp [PyData.eqv, PyData.eqvAll]
theorem eqv_int (i j : Int) : PyData.eqv (.int i) (.int j) = decide (i = j) := by
  simp only [PyData.eqv]
  exact Bool.beq_eq_decide_eq i j
def cutD (ds : List PyData) (lo hi : Option Int) : List PyData := (ds.drop (HT.sIx ds.length 0 lo)).take (HT.sIx ds.length ds.length hi - HT.sIx ds.length 0 lo)
theorem cutD_from (ds : List PyData) (k : Nat) : cutD ds (some (k : Int)) none = ds.drop k := by
  unfold cutD
  rw [HT.sIx_nat, HT.sIx_none, List.take_of_length_le (by rw [List.length_drop]; omega)]
  by_cases h : k ≤ ds.length
  · rw [Nat.min_eq_left h]
  · rw [Nat.min_eq_right (by omega), List.drop_length, List.drop_of_length_le (by omega)]
theorem cutD_to (ds : List PyData) (k : Nat) : cutD ds none (some (k : Int)) = ds.take k := by
  unfold cutD
  rw [HT.sIx_nat, HT.sIx_none, List.drop_zero, Nat.sub_zero]
  by_cases h : k ≤ ds.length
  · rw [Nat.min_eq_left h]
  · rw [Nat.min_eq_right (by omega), List.take_length, List.take_of_length_le (by omega)]
theorem cutD_mem {ds : List PyData} {lo hi : Option Int} {x : PyData} (h : x ∈ cutD ds lo hi) : x ∈ ds := List.mem_of_mem_drop (List.mem_of_mem_take h)
theorem cutD_len (ds : List PyData) (lo hi : Option Int) : (cutD ds lo hi).length ≤ ds.length := by
  unfold cutD
  rw [List.length_take, List.length_drop]
  omega
theorem Plain.dp {K : PySem.W.Frag} {G H : Hp} {v : V} {d : PyData} (p : Plain d) (h : Rp K G v d) (e : Sub G H) : Dp K H v d := dp_up e (h.dp p.nd)
section
variable {K : PySem.W.Frag} {X : Cx} [g : Good K X] {δ : Sd} {W U : Wd} {a b c e : Expr} {es : List Expr} {pos : Pos} {d d1 d2 d3 : PyData}
/-! ### in, not in -/
theorem in_go {U : Wd} {x y : V} {ds : List PyData} (q : SeqD d2 ds) (n1 : Plain d1) (n2 : Plain (.list ds)) (hK : X.K = K) (rx : Rp K U.G x d1) (ry : Rp K U.G y d2) : (Dp X.K U.H x d1) ∧ (Dp X.K U.H y (.list ds) ∨ Dp X.K U.H y (.tuple ds)) := by
  rw [hK]
  refine ⟨n1.dp rx U.ex, ?_⟩
  cases q with
  | l => exact .inl (n2.dp ry U.ex)
  | t => exact .inr (dp_up U.ex (ry.dp n2.nd))
theorem ev_in {ds : List PyData} (q : SeqD d2 ds) (ha : EvE K X δ a W d1) (hb : EvE K X δ b W d2) (n1 : Plain d1) (n2 : Plain (.list ds)) (hm : behindInMarks .In b = false := by with_unfolding_all rfl) : EvE K X δ (.Compare a [.In] [b] pos) W (.bool (ds.any fun z => PyData.eqv z d1)) :=
  ev_cmp (op_inQ (by have := g.room.un; omega)) ha hb hm fun U x y l rx ry Q k => by
    obtain ⟨h1, h2⟩ := in_go (X := X) q n1 n2 g.hK rx ry
    exact ⟨d1, ds, h1, h2, n1.sh, n2.sh, k _ U (Le.refl U) (.bl _)⟩
theorem et_in {ds : List PyData} (q : SeqD d2 ds) (ha : EvE K X δ a W d1) (hb : EvE K X δ b W d2) (n1 : Plain d1) (n2 : Plain (.list ds)) (hm : behindInMarks .In b = false := by with_unfolding_all rfl) : EvT K X δ (.Compare a [.In] [b] pos) W (ds.any fun z => PyData.eqv z d1) :=
  et_cmp (op_inQ (by have := g.room.un; omega)) ha hb hm fun U x y l rx ry Q k => by
    obtain ⟨h1, h2⟩ := in_go (X := X) q n1 n2 g.hK rx ry
    exact ⟨d1, ds, h1, h2, n1.sh, n2.sh, k _ U (Le.refl U) (.bl _)⟩
theorem et_notIn {ds : List PyData} (q : SeqD d2 ds) (ha : EvE K X δ a W d1) (hb : EvE K X δ b W d2) (n1 : Plain d1) (n2 : Plain (.list ds)) (hm : behindInMarks .NotIn b = false := by with_unfolding_all rfl) : EvT K X δ (.Compare a [.NotIn] [b] pos) W (!ds.any fun z => PyData.eqv z d1) :=
  et_cmp (op_niQ (by have := g.room.un; omega)) ha hb hm fun U x y l rx ry Q k => by
    obtain ⟨h1, h2⟩ := in_go (X := X) q n1 n2 g.hK rx ry
    exact ⟨d1, ds, h1, h2, n1.sh, n2.sh, k _ U (Le.refl U) (.bl _)⟩
/-! ### tuples: index, slices, +, *, <, sum -/
theorem ev_tix {apos cpos : Pos} {ds : List PyData} {j : Nat} {z : PyData} (ho : EvE K X δ a W (.tuple ds)) (ha : EvE K X δ e W d) (hp : isPs ds = true) (n1 : Plain (.list ds)) (n2 : Plain d) (hz : ds[j]? = some z) (hzj : PyData.eqv z d = true) (hno : ∀ (m : Nat) (z' : PyData), m < j → ds[m]? = some z' → PyData.eqv z' d = false)
    (hbase : attributeBase a "index" X.env (eval a X.env) = eval a X.env := by rfl)
    (hfew : ((backTo cpos (starEach [e] X.env)).all (fun x => !x.1) && (backToKw cpos (keywordEach [] X.env)).all (fun x => x.1.isSome) && decide ([e].length + ([] : List Keyword).length + (if ([] : List Keyword).isEmpty then 0 else 1) < 30)) = true := by rfl)
    (hline : (apos.endLine == cpos.line) = true := by rfl) (hs : starEach [e] X.env = (false, eval e X.env) :: starEach [] X.env := by rfl) (hplain : (backTo cpos (starEach [] X.env)).any (·.1) = false := by rfl) :
    EvE K X δ (.Call (.Attribute a "index" apos) [e] [] cpos) W (.int (j : Int)) := fun U l σ s Q k =>
  (pe_tm PySem.F.plainAttrs_tuple PySem.F.slot_tuple_index PySem.F.type_tuple_index (mt_indexT (by have := g.room.un; omega)) (pe_w X a) (pa_cons (pe_w X e) pa_nil hs) hbase hfew hline hs hplain).w (ho U l σ s _ fun x Z l2 rx => by
    cases rx with
    | @tup p vs _ o h t r =>
      rw [hp] at t
      obtain ⟨ob, t1, t2, t3⟩ := t
      refine ⟨⟨p, ob, vs, rfl, by rw [← t1]; exact Z.ex _ _ h, t2, t3⟩, ha Z (l.tr l2) σ (s.up l2.g) _ fun v Y l3 rv => ?_⟩
      rw [g.hK]
      have rx : Rp K Z.G (.ref p) (.tuple ds) := .tup h (by rw [hp]; exact ⟨ob, t1, t2, t3⟩) r
      exact ⟨v, d, ds, j, z, rfl, dp_up Y.ex ((rx.up l3.g).dp n1.nd), n2.dp rv Y.ex, n1.sh, n2.sh, hz, hzj, hno, k _ Y (l2.tr l3) (.int _)⟩)
/-- a part of a slice -/
def EvO (K : PySem.W.Frag) (X : Cx) (δ : Sd) (o : Option Expr) (W : Wd) (i : Option Int) : Prop := match o, i with
  | none, none => True
  | some e, some j => EvE K X δ e W (.int j)
  | _, _ => False
theorem eo_none : EvO K X δ none W none := trivial
theorem eo_some {j : Int} (h : EvE K X δ e W (.int j)) : EvO K X δ (some e) W (some j) := h
theorem EvO.up {o : Option Expr} {i : Option Int} (h : EvO K X δ o W i) (k : Le W U) : EvO K X δ o U i := by
  cases o <;> cases i <;> first | exact h | exact EvE.up h k
def tPartW (X : Cx) (o : Option Expr) : TO := match o with
  | none => tNoPart
  | some e => tPart (wE X e)
theorem po_w (o : Option Expr) : PO X o (tPartW X o) := by
  cases o with
  | none => exact po_none
  | some e => exact po_some (pe_w X e)
theorem EvO.run {o : Option Expr} {i : Option Int} (h : EvO K X δ o W i) {σ : St} (r : SRep K W.G σ δ) {Q : Option Int → Hp → Prop} (q : ∀ Z, Le W Z → Q i Z.H) : tPartW X o σ W.H Q := by
  cases o with
  | none =>
    cases i with
    | none => exact q W (Le.refl W)
    | some j => exact False.elim h
  | some e =>
    cases i with
    | none => exact False.elim h
    | some j => exact h W (Le.refl W) σ r _ fun v Z l rv => ⟨j, rv.int_inv, q Z l⟩
theorem isPs_cut {ds : List PyData} {lo hi : Option Int} (h : HT.sIx ds.length 0 lo = 0 ∧ HT.sIx ds.length ds.length hi = ds.length) : cutD ds lo hi = ds := by
  unfold cutD
  rw [h.1, h.2, List.drop_zero, Nat.sub_zero, List.take_length]
theorem ev_slT {lo hi : Option Expr} {i j : Option Int} {p2 : Pos} {ds : List PyData} (ho : EvE K X δ a W (.tuple ds)) (hl : EvO K X δ lo W i) (hh : EvO K X δ hi W j) : EvE K X δ (.Subscript a (.Slice lo hi none p2) pos) W (.tuple (cutD ds i j)) := fun U l σ s Q k =>
  (pe_slice (sl_tupB (isPs (cutD ds i j))) (pe_w X a) (po_w lo) (po_w hi)).w (ho U l σ s _ fun x Z l2 rx => (hl.up (l.tr l2)).run (s.up l2.g) fun Y l3 => (hh.up ((l.tr l2).tr l3)).run (s.up (l2.tr l3).g) fun T l4 => by
    have l5 := (l2.tr l3).tr l4
    have rx' := rx.up (l3.tr l4).g
    obtain ⟨p, vs, e1, e2, e3⟩ := rx'.tup_inv
    rw [g.hK]
    refine ⟨p, vs, e1, T.ex.t e2, fun hw => ?_, fun hw t o ht hO => ?_⟩
    · rw [e3.len] at hw
      rw [← e1]
      exact k x T l5 (by rw [isPs_cut hw]; exact rx')
    · refine k _ (T.add t _ ht) (l5.tr (T.add_le ht)) (add_t ht hO ?_)
      unfold cutV cutD
      rw [e3.len]
      exact (e3.drop _).take _)
theorem ev_slL {lo hi : Option Expr} {i j : Option Int} {p2 : Pos} {ds : List PyData} (ho : EvE K X δ a W (.list ds)) (hl : EvO K X δ lo W i) (hh : EvO K X δ hi W j) : EvE K X δ (.Subscript a (.Slice lo hi none p2) pos) W (.list (cutD ds i j)) := fun U l σ s Q k =>
  (pe_slice sl_list (pe_w X a) (po_w lo) (po_w hi)).w (ho U l σ s _ fun x Z l2 rx => (hl.up (l.tr l2)).run (s.up l2.g) fun Y l3 => (hh.up ((l.tr l2).tr l3)).run (s.up (l2.tr l3).g) fun T l4 => by
    have l5 := (l2.tr l3).tr l4
    obtain ⟨p, vs, e1, e2, e3⟩ := (rx.up (l3.tr l4).g).lst_inv
    rw [g.hK]
    refine ⟨p, vs, e1, T.ex.l e2, fun t ht => k _ (T.add t _ ht) (l5.tr (T.add_le ht)) (add_l ht ?_)⟩
    unfold cutV cutD
    rw [e3.len]
    exact (e3.drop _).take _)
theorem ev_revT {kk : Nat} {p1 p2 p3 : Pos} {ds : List PyData} (ho : EvE K X δ a W (.tuple ds)) : EvE K X δ (.Subscript a (.Slice none none (some (.UnaryOp .USub (.Constant (.int 1) kk p1) p2)) p3) pos) W (.tuple ds.reverse) := fun U l σ s Q k =>
  (pe_revB (isPs ds.reverse) (pe_w X a)).w (ho U l σ s _ fun x Z l2 rx => by
    obtain ⟨p, vs, e1, e2, e3⟩ := rx.tup_inv
    rw [g.hK]
    refine ⟨p, vs, e1, Z.ex.t e2, fun t o ht hO => k _ (Z.add t _ ht) (l2.tr (Z.add_le ht)) (add_t ht hO ?_)⟩
    have rev : ∀ {vs : List V} {ds : List PyData}, RpL K Z.G vs ds → RpL K Z.G vs.reverse ds.reverse := by
      intro vs
      induction vs with
      | nil => intro ds h; cases h; exact .nil
      | cons v vs ih =>
        intro ds h
        cases h with
        | cons h1 h2 =>
          rw [List.reverse_cons, List.reverse_cons]
          exact (ih h2).app (.one h1)
    exact rev e3)
theorem ev_catT {xs ys : List PyData} (ha : EvE K X δ a W (.tuple xs)) (hb : EvE K X δ b W (.tuple ys)) (hz : xs.length + ys.length ≤ 1000000) : EvE K X δ (.BinOp a .Add b pos) W (.tuple (xs ++ ys)) :=
  ev_op (op_catB (isPs (xs ++ ys))) ha hb fun U x y l rx ry Q k => by
    obtain ⟨p, vs, e1, e2, e3⟩ := rx.tup_inv
    obtain ⟨q, us, f1, f2, f3⟩ := ry.tup_inv
    rw [g.hK]
    refine ⟨p, q, vs, us, e1, f1, U.ex.t e2, U.ex.t f2, by rw [e3.len, f3.len]; exact sz hz, fun h => ?_, fun h1 h => ?_, fun h1 h2 t o ht hO => ?_⟩
    · subst h
      cases e3
      rw [← f1]
      exact k y U (Le.refl U) ry
    · subst h
      cases f3
      rw [← e1]
      exact k x U (Le.refl U) (by rw [List.append_nil]; exact rx)
    · exact k _ (U.add t _ ht) (U.add_le ht) (add_t ht hO (e3.app f3))
theorem ev_catL {xs ys : List PyData} (ha : EvE K X δ a W (.list xs)) (hb : EvE K X δ b W (.list ys)) (hz : xs.length + ys.length ≤ 1000000) : EvE K X δ (.BinOp a .Add b pos) W (.list (xs ++ ys)) :=
  ev_op op_cat ha hb fun U x y l rx ry Q k => by
    obtain ⟨p, vs, e1, e2, e3⟩ := rx.lst_raw
    obtain ⟨q, us, f1, f2, f3⟩ := ry.lst_raw
    exact ⟨p, q, vs, us, e1, f1, U.ex _ _ e2, U.ex _ _ f2, by rw [e3.len, f3.len]; exact sz hz, fun t ht => k _ (U.add t _ ht) (U.add_le ht) (add_l ht (e3.app f3))⟩
theorem RpL.rep {G : Hp} {vs : List V} {ds : List PyData} (h : RpL K G vs ds) : ∀ n : Nat, RpL K G (List.replicate n vs).flatten (List.replicate n ds).flatten
  | 0 => .nil
  | n + 1 => by
    rw [List.replicate_succ, List.replicate_succ, List.flatten_cons, List.flatten_cons]
    exact h.app (RpL.rep h n)
theorem ev_mulT {xs : List PyData} {n : Int} (ha : EvE K X δ a W (.tuple xs)) (hb : EvE K X δ b W (.int n)) (h0 : xs ≠ []) (h1 : 0 ≤ n) (h2 : n ≤ 1000) (h3 : xs.length ≤ 1000) : EvE K X δ (.BinOp a .Mult b pos) W (.tuple (List.replicate n.toNat xs).flatten) :=
  ev_op (op_repB (isPs (List.replicate n.toNat xs).flatten)) ha hb fun U x y l rx ry Q k => by
    obtain ⟨p, vs, e1, e2, e3⟩ := rx.tup_inv
    rw [g.hK]
    refine ⟨p, n, vs, e1, ry.int_inv, U.ex.t e2, fun h => ?_, h1, h2, by rw [e3.len]; exact h3, fun h => ?_, fun h t o ht hO => ?_⟩
    · subst h
      cases e3
      exact h0 rfl
    · rw [← e1]
      refine k x U (Le.refl U) ?_
      rw [h]
      show Rp K U.G x (.tuple (List.replicate 1 xs).flatten)
      simpa using rx
    · exact k _ (U.add t _ ht) (U.add_le ht) (add_t ht hO (RpL.rep e3 _))
theorem ev_ltT {ns ms : List Int} (ha : EvE K X δ a W (.tuple (ns.map PyData.int))) (hb : EvE K X δ b W (.tuple (ms.map PyData.int))) : EvE K X δ (.Compare a [.Lt] [b] pos) W (.bool (HT.lexLt ns ms)) :=
  ev_cmp (op_ltT g.room.units0) ha hb (nomark _) fun U x y l rx ry Q k => by
    obtain ⟨p, vs, e1, e2, e3⟩ := rx.tup_inv
    obtain ⟨q, us, f1, f2, f3⟩ := ry.tup_inv
    rw [e3.ints] at e2
    rw [f3.ints] at f2
    rw [g.hK]
    exact ⟨p, q, ns, ms, e1, f1, U.ex.t e2, U.ex.t f2, k _ U (Le.refl U) (.bl _)⟩
theorem et_ltT {ns ms : List Int} (ha : EvE K X δ a W (.tuple (ns.map PyData.int))) (hb : EvE K X δ b W (.tuple (ms.map PyData.int))) : EvT K X δ (.Compare a [.Lt] [b] pos) W (HT.lexLt ns ms) :=
  et_cmp (op_ltT g.room.units0) ha hb (nomark _) fun U x y l rx ry Q k => by
    obtain ⟨p, vs, e1, e2, e3⟩ := rx.tup_inv
    obtain ⟨q, us, f1, f2, f3⟩ := ry.tup_inv
    rw [e3.ints] at e2
    rw [f3.ints] at f2
    rw [g.hK]
    exact ⟨p, q, ns, ms, e1, f1, U.ex.t e2, U.ex.t f2, k _ U (Le.refl U) (.bl _)⟩
theorem ev_sumT {is : List Int} {p : Pos} (ha : EvE K X δ e W (.tuple (is.map PyData.int))) (hg : Gl X "sum" := by rfl) (he : starEach [e] X.env = (false, eval e X.env) :: starEach [] X.env := by rfl) : EvE K X δ (.Call (.Name "sum" p) [e] [] pos) W (.int is.sum) :=
  ev_blt (cr_sumT g.calm) (by simp) (by decide +kernel) (ea_cons ha ea_nil he) (fun U vs l rs Q k => by
    obtain ⟨v, rfl, rv⟩ := rs.one_inv
    obtain ⟨q, us, e1, e2, e3⟩ := rv.tup_inv
    rw [e3.ints] at e2
    exact ⟨q, is, by rw [e1], by rw [g.hK]; exact U.ex.t e2, k _ U (Le.refl U) (.int _)⟩) hg (by decide) (by decide) he rfl
end
end Pk
set_option Elab.async false
set_option linter.all false
set_option maxRecDepth 100000
set_option maxHeartbeats 4000000
namespace Pk
open PySem PySem.Spec L2
open PyProof.Rows hiding St
/-! ### integers, spots, pairs: as data -/
def docInt : PyData → Bool
  | .int _ => true
  | _ => false
def spotD (d : PyData) (n : Int) : Bool := match d with
  | .int i => decide (0 ≤ i) && decide (i < n)
  | _ => false
def wholeD (d : PyData) (m : Int) : Bool := match d with
  | .int i => decide (0 ≤ i) && decide (i ≤ m)
  | _ => false
def neqI (a b : PyData) : Bool := match a, b with
  | .int i, .int j => !decide (i = j)
  | _, _ => false
def pairD (d : PyData) (n : Int) : Bool := match d with
  | .tuple [a, b] => spotD a n && (spotD b n && neqI a b)
  | _ => false
theorem docInt_eq (d : PyData) : (isInt d && !isBool d) = docInt d := by cases d <;> rfl
theorem spot_int {d : PyData} {n : Int} (h : spotD d n = true) : ∃ i : Int, d = .int i ∧ 0 ≤ i ∧ i < n := by
  cases d with
  | int i =>
    have h' : (decide (0 ≤ i) && decide (i < n)) = true := h
    rw [Bool.and_eq_true] at h'
    exact ⟨i, rfl, of_decide_eq_true h'.1, of_decide_eq_true h'.2⟩
  | _ => cases h
theorem whole_int {d : PyData} {n : Int} (h : wholeD d n = true) : ∃ i : Int, d = .int i ∧ 0 ≤ i ∧ i ≤ n := by
  cases d with
  | int i =>
    have h' : (decide (0 ≤ i) && decide (i ≤ n)) = true := h
    rw [Bool.and_eq_true] at h'
    exact ⟨i, rfl, of_decide_eq_true h'.1, of_decide_eq_true h'.2⟩
  | _ => cases h
theorem whole_spot (d : PyData) (n : Int) : wholeD d (n - 1) = spotD d n := by
  cases d with
  | int i =>
    show (decide (0 ≤ i) && decide (i ≤ n - 1)) = (decide (0 ≤ i) && decide (i < n))
    rw [show decide (i ≤ n - 1) = decide (i < n) from decide_eq_decide.mpr (by omega)]
  | _ => rfl
theorem tup_cases (d : PyData) : (∃ ds, d = .tuple ds) ∨ isTup d = false := by
  cases d with
  | tuple ds => exact .inl ⟨ds, rfl⟩
  | _ => exact .inr rfl
/-- a value whose tuples are of no great length -/
def Small (d : PyData) : Prop := ∀ ds, d = .tuple ds → ds.length ≤ 100000
def R_is_integer : List PyData → PyData → Prop := fun ds d => ∃ a, ds = [a] ∧ d = .bool (docInt a)
def R_is_spot : List PyData → PyData → Prop := fun ds d => ∃ a n, ds = [a, iI n] ∧ d = .bool (spotD a n)
def R_is_pair : List PyData → PyData → Prop := fun ds d => ∃ a n, ds = [a, iI n] ∧ d = .bool (pairD a n)
def R_whole : List PyData → PyData → Prop := fun ds d => ∃ a n, ds = [a, iI n] ∧ d = .bool (wholeD a n)
section
variable {P : Program} {w : World} {K : PySem.W.Frag} {mg : Str → Option Value} {base : Heap}
theorem c_is_integer (T : At K mg "is_integer" s_is_integer) (B : Bn mg) : Cal P w K mg base CX0 1 "is_integer" p_is_integer (SpP K R_is_integer) := by
  refine cal_pure T b_is_integer sc_is_integer B (fun ds d h => ?_) fun f cdv A outer s H E => ?_
  · obtain ⟨a, rfl, _⟩ := h
    rfl
  intro X gX hr W ds d h
  obtain ⟨a, rfl, rfl⟩ := h
  exact wb_ret (EvE.cast (ev_and (ev_isInt (ev_v 0)) fun _ => ev_one (ev_not (ev_isBool (ev_v 0)))) (by rw [docInt_eq])) fun U l => ⟨rfl, l⟩
theorem c_is_spot (T : At K mg "is_spot" s_is_spot) (B : Bn mg) (C1 : Cal P w K mg base CX0 1 "is_integer" p_is_integer (SpP K R_is_integer)) : Cal P w K mg base CX0 2 "is_spot" p_is_spot (SpP K R_is_spot) := by
  refine cal_pure T b_is_spot sc_is_spot B (fun ds d h => ?_) fun f cdv A outer s H E => ?_
  · obtain ⟨a, n, rfl, _⟩ := h
    rfl
  intro X gX hr W ds d h
  obtain ⟨a, n, rfl, rfl⟩ := h
  refine wb_ret (EvE.cast (ev_and (u := match a with | .int i => decide (0 ≤ i) && decide (i < n) | _ => false) (ev_call C1 hr (ea_cons (ev_v 0) ea_nil) ⟨a, rfl, rfl⟩) fun h => ?_) ?_) fun U l => ⟨rfl, l⟩
  · cases a with
    | int i => exact ev_one (ev_lelt ev_int (ev_v 0) (ev_v 1))
    | _ => cases h
  · cases a <;> rfl
theorem c_number {x : Str} {N ps : List Str} {i : Nat} (T : At K mg x (tp i)) (hb : ∀ {f : Addr} {fd : FuncData}, Fun K x x (tp i) f fd → Binds K fd ps []) (S : FnScope N ps (defScope (tp i))) (B : Bn mg) (hp : ps.length = 2)
    (body : ∀ f cdv A outer s H E, let X := FX P w K mg base N x (tp i) f cdv A outer s H E; Good K X → ∀ (W : Wd) (a : PyData) (n : Int), WB K X (startD N [a, iI n]) (defBody (tp i)) W { nx := fun _ U => PyData.bool (wholeD a n) = .none ∧ Le W U, rt := fun d' U => d' = PyData.bool (wholeD a n) ∧ Le W U }) : Cal P w K mg base CX0 1 x ps (SpP K R_whole) := by
  refine cal_pure T hb S B (fun ds d h => ?_) fun f cdv A outer s H E => ?_
  · obtain ⟨a, n, rfl, _⟩ := h
    exact hp.symm
  intro X gX hr W ds d h
  obtain ⟨a, n, rfl, rfl⟩ := h
  exact body f cdv A outer s H E gX W a n
theorem c_is_number (T : At K mg "is_number" s_is_number) (B : Bn mg) : Cal P w K mg base CX0 1 "is_number" p_is_number (SpP K R_whole) := by
  refine cal_pure T b_is_number sc_is_number B (fun ds d h => ?_) fun f cdv A outer s H E => ?_
  · obtain ⟨a, n, rfl, _⟩ := h
    rfl
  intro X gX hr W ds d h
  obtain ⟨a, n, rfl, rfl⟩ := h
  refine wb_ret (EvE.cast (ev_and (u := match a with | .int i => decide (0 ≤ i) && decide (i ≤ n) | _ => false) (ev_isInt (ev_v 0)) fun h1 => ?_) (by cases a <;> rfl)) fun U l => ⟨rfl, l⟩
  refine EvE.cast (ev_and (u := match a with | .int i => decide (0 ≤ i) && decide (i ≤ n) | _ => false) (ev_not (ev_isBool (ev_v 0))) fun h2 => ?_) (by cases a <;> rfl)
  cases a with
  | int i => exact ev_one (ev_lele ev_int (ev_v 0) (ev_v 1))
  | bool b => cases h2
  | _ => cases h1
theorem c_whole (T : At K mg "_law_whole" s_L_whole) (B : Bn mg) : Cal P w K mg base CX0 1 "_law_whole" p_L_whole (SpP K R_whole) := by
  refine cal_pure T b_L_whole sc_L_whole B (fun ds d h => ?_) fun f cdv A outer s H E => ?_
  · obtain ⟨a, n, rfl, _⟩ := h
    rfl
  intro X gX hr W ds d h
  obtain ⟨a, n, rfl, rfl⟩ := h
  refine wb_ret (EvE.cast (ev_and (u := match a with | .int i => decide (0 ≤ i) && decide (i ≤ n) | _ => false) (ev_isInt (ev_v 0)) fun h1 => ?_) (by cases a <;> rfl)) fun U l => ⟨rfl, l⟩
  refine EvE.cast (ev_and (u := match a with | .int i => decide (0 ≤ i) && decide (i ≤ n) | _ => false) (ev_not (ev_isBool (ev_v 0))) fun h2 => ?_) (by cases a <;> rfl)
  cases a with
  | int i => exact ev_one (ev_lele ev_int (ev_v 0) (ev_v 1))
  | bool b => cases h2
  | _ => cases h1
theorem c_is_pair (T : At K mg "is_pair" s_is_pair) (B : Bn mg) (C1 : Cal P w K mg base CX0 2 "is_spot" p_is_spot (SpP K R_is_spot)) : Cal P w K mg base CX0 3 "is_pair" p_is_pair (SpP K R_is_pair) := by
  refine cal_pure T b_is_pair sc_is_pair B (fun ds d h => ?_) fun f cdv A outer s H E => ?_
  · obtain ⟨a, n, rfl, _⟩ := h
    rfl
  intro X gX hr W ds d h
  obtain ⟨a, n, rfl, rfl⟩ := h
  refine wb_when (et_w (ew_or (u := match a with | .tuple ds => !decide ((ds.length : Int) = 2) | _ => false) (et_not (et_val (ev_isT (ev_v 0)))) fun h => ew_or1 ?_)) (fun h1 U l => ?_) fun h1 U l => ?_
  · cases a with
    | tuple ds => exact et_neI (ev_len (.t _) (ev_v 0)) ev_int
    | _ => cases h
  · refine wb_ret ev_bl fun Z l2 => ⟨?_, l.tr l2⟩
    rcases a with _ | _ | _ | _ | _ | ds | _ <;> try rfl
    rcases ds with _ | ⟨x, _ | ⟨y, _ | ⟨z, r⟩⟩⟩ <;> try rfl
    cases h1
  · rcases tup_cases a with ⟨ds, rfl⟩ | h2
    · have hl : ds.length = 2 := by
        have h3 : (!decide ((ds.length : Int) = 2)) = false := h1
        have h4 : decide ((ds.length : Int) = 2) = true := by simpa using h3
        have h5 := of_decide_eq_true h4
        omega
      obtain ⟨x, y, rfl⟩ : ∃ x y, ds = [x, y] := by
        rcases ds with _ | ⟨x, _ | ⟨y, _ | ⟨z, r⟩⟩⟩ <;> simp at hl
        exact ⟨x, y, rfl⟩
      refine wb_ret (ev_and (u := spotD y n && neqI x y) (ev_call C1 hr (ea_cons (ev_ix (i := 0) (.t _) (ev_v 0) ev_int rfl) (ea_cons (ev_v 1) ea_nil)) ⟨x, n, rfl, rfl⟩) fun h1 => ev_and (ev_call C1 hr (ea_cons (ev_ix (i := 1) (.t _) (ev_v 0) ev_int rfl) (ea_cons (ev_v 1) ea_nil)) ⟨y, n, rfl, rfl⟩) fun h2 => ?_) fun Z l2 => ⟨rfl, l.tr l2⟩
      obtain ⟨i, rfl, _⟩ := spot_int h1
      obtain ⟨j, rfl, _⟩ := spot_int h2
      exact ev_one (ev_neI (ev_ix (i := 0) (.t _) (ev_v 0) ev_int rfl) (ev_ix (i := 1) (.t _) (ev_v 0) ev_int rfl))
    · rw [h2] at h1
      cases h1
end
end Pk
set_option Elab.async false
set_option linter.all false
set_option maxRecDepth 100000
set_option maxHeartbeats 4000000
namespace Pk
open PySem PySem.Spec L2
open PyProof.Rows hiding St
/-! ### pairs of spots -/
abbrev Pr := Int × Int
def pD (p : Pr) : PyData := .tuple [.int p.1, .int p.2]
def psD (ps : List Pr) : PyData := .tuple (ps.map pD)
def prOf (d : PyData) : Pr := match d with
  | .tuple [.int a, .int b] => (a, b)
  | _ => (0, 0)
theorem pD_ints (p : Pr) : pD p = .tuple ([p.1, p.2].map PyData.int) := rfl
theorem prOf_pD (p : Pr) : prOf (pD p) = p := rfl
theorem pD_of {d : PyData} {n : Int} (h : pairD d n = true) : d = pD (prOf d) ∧ 0 ≤ (prOf d).1 ∧ (prOf d).1 < n ∧ 0 ≤ (prOf d).2 ∧ (prOf d).2 < n ∧ (prOf d).1 ≠ (prOf d).2 := by
  rcases tup_cases d with ⟨ds, rfl⟩ | h2
  · rcases ds with _ | ⟨x, _ | ⟨y, _ | ⟨z, r⟩⟩⟩
    · cases h
    · cases h
    · have h' : (spotD x n && (spotD y n && neqI x y)) = true := h
      rw [Bool.and_eq_true, Bool.and_eq_true] at h'
      obtain ⟨i, rfl, a1, a2⟩ := spot_int h'.1
      obtain ⟨j, rfl, b1, b2⟩ := spot_int h'.2.1
      have ne : i ≠ j := by
        have z : (!decide (i = j)) = true := h'.2.2
        simpa using z
      exact ⟨rfl, a1, a2, b1, b2, ne⟩
    · cases h
  · cases d <;> first | cases h | cases h2
theorem psD_of {ds : List PyData} {n : Int} (h : ds.all (pairD · n) = true) : ds = (ds.map prOf).map pD := by
  rw [List.map_map]
  conv => lhs; rw [← List.map_id ds]
  refine List.map_congr_left fun d hd => ?_
  exact (pD_of (List.all_eq_true.mp h d hd)).1
theorem pl_pD (p : Pr) : pl 1 (pD p) = true := pl_ints [p.1, p.2]
theorem pl_psL (ps : List Pr) : pl 2 (.list (ps.map pD)) = true := pl_list (n := 1) fun d h => by
  obtain ⟨p, _, rfl⟩ := List.mem_map.mp h
  exact pl_pD p
theorem pD_at {ps : List Pr} {i : Nat} (h : i < ps.length) : (ps.map pD)[i]? = some (pD (ps.getD i (0, 0))) := by
  rw [List.getElem?_map, List.getElem?_eq_getElem h, List.getD_eq_getElem?_getD, List.getElem?_eq_getElem h] <;> rfl
def ltP (p q : Pr) : Bool := HT.lexLt [p.1, p.2] [q.1, q.2]
def ascB (ps : List Pr) : Bool := (List.range (ps.length - 1)).all fun k => ltP (ps.getD k (0, 0)) (ps.getD (k + 1) (0, 0))
def hasB (ps : List Pr) (p : Pr) : Bool := ps.any fun q => decide (q = p)
theorem eqv_pD (p q : Pr) : PyData.eqv (pD p) (pD q) = decide (p = q) := by
  obtain ⟨a, b⟩ := p
  obtain ⟨c, d⟩ := q
  show PyData.eqv (.tuple [.int a, .int b]) (.tuple [.int c, .int d]) = _
  simp only [PyData.eqv, PyData.eqvAll, Bool.and_true, Prod.mk.injEq]
  rw [Bool.beq_eq_decide_eq, Bool.beq_eq_decide_eq, Bool.decide_and]
theorem has_any (ps : List Pr) (p : Pr) : ((ps.map pD).any fun z => PyData.eqv z (pD p)) = hasB ps p := by
  unfold hasB
  rw [List.any_map]
  congr 1
  funext q
  exact eqv_pD q p
theorem has_iff {ps : List Pr} {p : Pr} : hasB ps p = true ↔ p ∈ ps := by
  unfold hasB
  rw [List.any_eq_true]
  constructor
  · rintro ⟨q, h, e⟩
    rw [← of_decide_eq_true e]; exact h
  · exact fun h => ⟨p, h, decide_eq_true rfl⟩
/-- the law's look at «chain» -/
def chainB (n : Nat) (ps : List Pr) : Bool := ps.all fun p => (List.range n).all fun z => !(hasB ps (p.2, (z : Int)) && !hasB ps (p.1, (z : Int)))
def formB (v : PyData) : Bool := match v with
  | .tuple [.int n, .tuple ds] => decide (0 ≤ n) && (decide (n ≤ 16) && (ds.all (pairD · n) && ascB (ds.map prOf)))
  | _ => false
def orderB (v : PyData) : Bool := match v with
  | .tuple [.int n, .tuple ds] => decide (0 ≤ n) && (decide (n ≤ 16) && (ds.all (pairD · n) && (ascB (ds.map prOf) && chainB n.toNat (ds.map prOf))))
  | _ => false
/-- of a value (n, pairs) the pairs are not too many, and may be compared -/
def TameO (v : PyData) : Prop := ∀ n ds, v = .tuple [n, .tuple ds] → ds.length ≤ 1000 ∧ ∀ x ∈ ds, pl 10 x = true
def R_ascends : List PyData → PyData → Prop := fun ds d => ∃ ps : List Pr, ds = [psD ps] ∧ ps.length ≤ 1000 ∧ d = .bool (ascB ps)
def R_has_form : List PyData → PyData → Prop := fun ds d => ∃ v, ds = [v] ∧ TameO v ∧ d = .bool (formB v)
def R_Lis_order : List PyData → PyData → Prop := fun ds d => ∃ v, ds = [v] ∧ TameO v ∧ d = .bool (orderB v)
theorem all_id_map {α : Type} (l : List α) (f : α → Bool) : (l.map f).all id = l.all f := by rw [List.all_map]; rfl
theorem all_range_map {ds : List PyData} (f : PyData → Bool) : ((List.range ds.length).map fun i => f (ds.getD i .none)).all id = ds.all f := by
  rw [all_id_map]
  apply Bool.eq_iff_iff.mpr
  rw [List.all_eq_true, List.all_eq_true]
  constructor
  · intro h x hx
    obtain ⟨i, hi, rfl⟩ := List.mem_iff_getElem.mp hx
    have z := h i (List.mem_range.mpr hi)
    rwa [List.getD_eq_getElem?_getD, List.getElem?_eq_getElem hi] at z
  · intro h i hi
    have hi' := List.mem_range.mp hi
    rw [List.getD_eq_getElem?_getD, List.getElem?_eq_getElem hi']
    exact h _ (List.getElem_mem hi')
theorem getD_some {ds : List PyData} {i : Nat} {d : PyData} (h : ds[i]? = some d) : ds.getD i .none = d := by rw [List.getD_eq_getElem?_getD, h] <;> rfl
/-- two values: n and pairs, or something else -/
theorem order_cases (v : PyData) : (∃ (n : Int) (ds : List PyData), v = .tuple [.int n, .tuple ds]) ∨ (formB v = false ∧ orderB v = false) := by
  rcases tup_cases v with ⟨ds, rfl⟩ | h
  · rcases ds with _ | ⟨x, _ | ⟨y, _ | ⟨z, r⟩⟩⟩
    · exact .inr ⟨rfl, rfl⟩
    · exact .inr ⟨by cases x <;> rfl, by cases x <;> rfl⟩
    · rcases tup_cases y with ⟨ds, rfl⟩ | h2
      · cases x with
        | int i => exact .inl ⟨i, ds, rfl⟩
        | _ => exact .inr ⟨rfl, rfl⟩
      · refine .inr ⟨?_, ?_⟩ <;> (cases x <;> cases y <;> first | rfl | cases h2)
    · refine .inr ⟨?_, ?_⟩ <;> (cases x <;> first | rfl | (cases y <;> rfl))
  · refine .inr ⟨?_, ?_⟩ <;> (cases v <;> first | rfl | cases h)
section
variable {P : Program} {w : World} {K : PySem.W.Frag} {mg : Str → Option Value} {base : Heap}
theorem c_ascends (T : At K mg "ascends" s_ascends) (B : Bn mg) : Cal P w K mg base CX0 1 "ascends" p_ascends (SpP K R_ascends) := by
  refine cal_pure T b_ascends sc_ascends B (fun ds d h => ?_) fun f cdv A outer s H E => ?_
  · obtain ⟨a, rfl, _⟩ := h
    rfl
  intro X gX hr W ds d h
  obtain ⟨ps, rfl, hz, rfl⟩ := h
  have hl : (zipD (ps.map pD) (cutD (ps.map pD) (some ((1 : Nat) : Int)) none)).length = ps.length - 1 := by
    rw [zipD_len, cutD_from, List.length_drop, List.length_map]; omega
  refine wb_ret (EvE.cast (ev_allL (bs := (List.range (ps.length - 1)).map fun k => ltP (ps.getD k (0, 0)) (ps.getD (k + 1) (0, 0))) (EvE.cast (ev_lc [("one", 1), ("other", 2)] fun U l => lc_mapI (fun k => .bool (ltP (ps.getD k (0, 0)) (ps.getD (k + 1) (0, 0)))) (ei_zipT (ev_v 0) (ev_slT (j := none) (ev_v 0) (eo_some (j := ((1 : Nat) : Int)) ev_int) eo_none)) (by rw [hl]; omega) fun i d U hd l => ?_) ?_)) ?_) fun U l => ⟨rfl, l⟩
  · obtain ⟨x, y, hx, hy, rfl⟩ := zipD_at hd
    have hi : i < ps.length := by simpa using (List.getElem?_eq_some_iff.mp hx).1
    rw [pD_at hi] at hx
    rw [cutD_from, List.getElem?_drop] at hy
    have hi2 : 1 + i < ps.length := by simpa using (List.getElem?_eq_some_iff.mp hy).1
    rw [pD_at hi2, Nat.add_comm] at hy
    obtain rfl := Option.some.inj hx
    obtain rfl := Option.some.inj hy
    refine ⟨_, _, fun s H0 C cl fp gb => tg_tup (tgs_cons (tg_name 1) (tgs_cons (tg_name 2) tgs_nil)) rfl, by decide, fun s H0 C cl fp gb => ?_⟩
    exact ev_ltT (ns := [(ps.getD i (0, 0)).1, (ps.getD i (0, 0)).2]) (ms := [(ps.getD (i + 1) (0, 0)).1, (ps.getD (i + 1) (0, 0)).2]) (ev_v 1) (ev_v 2)
  · rw [hl, List.map_map] <;> rfl
  · rw [all_id_map] <;> rfl
theorem c_has_form (T : At K mg "has_form" s_has_form) (B : Bn mg) (hM : ∃ t, mg "MOST_SPOTS" = some (.int 16 t)) (C1 : Cal P w K mg base CX0 1 "is_integer" p_is_integer (SpP K R_is_integer)) (C3 : Cal P w K mg base CX0 3 "is_pair" p_is_pair (SpP K R_is_pair))
    (C4 : Cal P w K mg base CX0 1 "ascends" p_ascends (SpP K R_ascends)) : Cal P w K mg base CX0 4 "has_form" p_has_form (SpP K R_has_form) := by
  refine cal_pure T b_has_form sc_has_form B (fun ds d h => ?_) fun f cdv A outer s H E => ?_
  · obtain ⟨a, rfl, _⟩ := h
    rfl
  intro X gX hr W ds d h
  obtain ⟨v, rfl, hT, rfl⟩ := h
  refine wb_when (et_w (ew_or (u := match v with | .tuple ds => !decide ((ds.length : Int) = 2) | _ => false) (et_not (et_val (ev_isT (ev_v 0)))) fun h => ew_or1 ?_)) (fun h1 U l => ?_) fun h1 U l => ?_
  · rcases tup_cases v with ⟨ds, rfl⟩ | h2
    · exact et_neI (ev_len (.t _) (ev_v 0)) ev_int
    · rw [h2] at h; cases h
  · refine wb_ret ev_bl fun Z l2 => ⟨?_, l.tr l2⟩
    rcases order_cases v with ⟨n, ds, rfl⟩ | ⟨h2, _⟩
    · cases h1
    · rw [h2]
  obtain ⟨x, y, rfl⟩ : ∃ x y, v = .tuple [x, y] := by
    rcases tup_cases v with ⟨ds, rfl⟩ | h2
    · have h3 : (!decide ((ds.length : Int) = 2)) = false := h1
      have h5 := of_decide_eq_true (by simpa using h3 : decide ((ds.length : Int) = 2) = true)
      rcases ds with _ | ⟨x, _ | ⟨y, _ | ⟨z, r⟩⟩⟩ <;> simp at h5
      · exact ⟨x, y, rfl⟩
      · omega
    · rw [h2] at h1; cases h1
  refine wb_asgT (ev_v 0) (tg_tup (tgs_cons (tg_name 1) (tgs_cons (tg_name 2) tgs_nil)) rfl) fun U2 l2 => ?_
  refine wb_when (et_w (ew_or (u := (match x with | .int n => !(decide (0 ≤ n) && decide (n ≤ 16)) | _ => false) || !isTup y) (et_not (et_val (ev_call (d := .bool (docInt x)) C1 (hr.mono (by decide)) (ea_cons (ev_v 1) ea_nil) ⟨x, rfl, rfl⟩))) fun h2 => ?_)) (fun h4 U3 l3 => ?_) fun h4 U3 l3 => ?_
  · refine ew_or ?_ fun h3 => ew_or1 (et_not (et_val (ev_isT (ev_v 2))))
    cases x with
    | int n => exact et_not (et_lele ev_int (ev_v 1) (ev_gint hM))
    | _ => cases h2
  · refine wb_ret ev_bl fun Z l4 => ⟨?_, ((l.tr l2).tr l3).tr l4⟩
    rcases order_cases (.tuple [x, y]) with ⟨n, ds, e⟩ | ⟨h2, _⟩
    · cases e
      have h5 : (!(decide (0 ≤ n) && decide (n ≤ 16))) = true := by simpa [docInt, isTup] using h4
      show PyData.bool false = PyData.bool (decide (0 ≤ n) && (decide (n ≤ 16) && _))
      rw [← Bool.and_assoc, show (decide (0 ≤ n) && decide (n ≤ 16)) = false from Bool.not_eq_true' _ |>.mp h5, Bool.false_and]
    · rw [h2]
  obtain ⟨n, ds, rfl, rfl, n0, n16⟩ : ∃ (n : Int) (ds : List PyData), x = .int n ∧ y = .tuple ds ∧ 0 ≤ n ∧ n ≤ 16 := by
    cases x with
    | int n =>
      rcases tup_cases y with ⟨ds, rfl⟩ | h5
      · have h6 : 0 ≤ n ∧ n ≤ 16 := by simpa [docInt, isTup] using h4
        exact ⟨n, ds, rfl, rfl, h6⟩
      · rw [Bool.or_eq_false_iff, Bool.or_eq_false_iff, h5] at h4
        cases h4.2.2
    | _ => cases h4
  obtain ⟨hlen, hpl⟩ := hT _ _ rfl
  have ed : PyData.bool (formB (.tuple [.int n, .tuple ds])) = .bool (ds.all (pairD · n) && ascB (ds.map prOf)) := by
    show PyData.bool (decide (0 ≤ n) && (decide (n ≤ 16) && _)) = _
    rw [decide_eq_true n0, decide_eq_true n16, Bool.true_and, Bool.true_and]
  rw [ed]
  refine wb_ret (ev_and (EvE.cast (ev_allL (bs := (List.range ds.length).map fun i => pairD (ds.getD i .none) n) (EvE.cast (ev_lcN [("pair", 3)] 3 (fun i => .bool (pairD (ds.getD i .none) n)) (ei_t (ev_v 2)) (by omega) ?_) ?_)) ?_) fun hp => ev_one ?_) fun Z l4 => ⟨rfl, ((l.tr l2).tr l3).tr l4⟩
  · intro i d U hd l s H0 C cl fp gb
    rw [getD_some hd]
    exact ev_call C3 hr (ea_cons (ev_v 3) (ea_cons (ev_v 1) ea_nil)) ⟨d, n, rfl, rfl⟩
  · rw [List.map_map] <;> rfl
  · rw [all_range_map (fun d => pairD d n)]
  · refine ev_call C4 (hr.mono (by decide)) (ea_cons (ev_v 2) ea_nil) ⟨ds.map prOf, ?_, by rw [List.length_map]; exact hlen, rfl⟩
    unfold psD
    rw [← psD_of hp]
theorem c_Lis_pair (T : At K mg "_law_is_pair" s_L_is_pair) (B : Bn mg) (C1 : Cal P w K mg base CX0 1 "_law_whole" p_L_whole (SpP K R_whole)) : Cal P w K mg base CX0 3 "_law_is_pair" p_L_is_pair (SpP K R_is_pair) := by
  refine cal_pure T b_L_is_pair sc_L_is_pair B (fun ds d h => ?_) fun f cdv A outer s H E => ?_
  · obtain ⟨a, n, rfl, _⟩ := h
    rfl
  intro X gX hr W ds d h
  obtain ⟨a, n, rfl, rfl⟩ := h
  refine wb_when (et_w (ew_or (u := match a with | .tuple ds => !decide ((ds.length : Int) = 2) | _ => false) (et_not (et_val (ev_isT (ev_v 0)))) fun h => ew_or1 ?_)) (fun h1 U l => ?_) fun h1 U l => ?_
  · cases a with
    | tuple ds => exact et_neI (ev_len (.t _) (ev_v 0)) ev_int
    | _ => cases h
  · refine wb_ret ev_bl fun Z l2 => ⟨?_, l.tr l2⟩
    rcases a with _ | _ | _ | _ | _ | ds | _ <;> try rfl
    rcases ds with _ | ⟨x, _ | ⟨y, _ | ⟨z, r⟩⟩⟩ <;> try rfl
    cases h1
  · obtain ⟨x, y, rfl⟩ : ∃ x y, a = .tuple [x, y] := by
      rcases tup_cases a with ⟨ds, rfl⟩ | h2
      · have h3 : (!decide ((ds.length : Int) = 2)) = false := h1
        have h5 := of_decide_eq_true (by simpa using h3 : decide ((ds.length : Int) = 2) = true)
        rcases ds with _ | ⟨x, _ | ⟨y, _ | ⟨z, r⟩⟩⟩ <;> simp at h5
        · exact ⟨x, y, rfl⟩
        · omega
      · rw [h2] at h1; cases h1
    refine wb_ret (ev_and (t := spotD x n) (u := spotD y n && neqI x y) (EvE.cast (ev_call (d := .bool (wholeD x (n - 1))) C1 (hr.mono (by decide)) (ea_cons (ev_ix (i := 0) (.t _) (ev_v 0) ev_int rfl) (ea_cons (ev_sub (ev_v 1) ev_int) ea_nil)) ⟨x, n - 1, rfl, rfl⟩) (by rw [whole_spot]))
      fun h1 => ev_and (t := spotD y n) (EvE.cast (ev_call (d := .bool (wholeD y (n - 1))) C1 (hr.mono (by decide)) (ea_cons (ev_ix (i := 1) (.t _) (ev_v 0) ev_int rfl) (ea_cons (ev_sub (ev_v 1) ev_int) ea_nil)) ⟨y, n - 1, rfl, rfl⟩) (by rw [whole_spot])) fun h2 => ?_) fun Z l2 => ⟨rfl, l.tr l2⟩
    obtain ⟨i, rfl, _⟩ := spot_int h1
    obtain ⟨j, rfl, _⟩ := spot_int h2
    exact ev_one (ev_neI (ev_ix (i := 0) (.t _) (ev_v 0) ev_int rfl) (ev_ix (i := 1) (.t _) (ev_v 0) ev_int rfl))
end
end Pk
set_option Elab.async false
set_option linter.all false
set_option maxRecDepth 100000
set_option maxHeartbeats 4000000
/-! an own exception class below ValueError whose __init__ calls super().__init__(..) and stores fields -/
namespace PkX
open PySem PySem.W PySem.Calls PyProof.Rows PySem.HandSPX
/-- what the written part says of the class at C and of its __init__ at fI -/
structure XT (P : Program) (K : Frag) (C fI cc cda : Addr) (qual : Str) (params : Arguments) (body : List Stmt) (scope : Scope) : Prop where
  cls : ∃ nm q N bs bm sn sub ab col dd k0 k1 k2 k3 k5, K.lookup C = some (excClassObj nm q C N bs bm true sn sub ab col dd k0 k1 k2 k3 k5 "ValueError.__new__") ∧ refsVE bm = true
  iC : findIn K (.ref C) "__init__" = some (some (.ref fI))
  tC : typeIn K (.ref fI) = some (.type "function")
  fn : ∃ oc od kV doc pm an ct osl, K.lookup fI = some ⟨oc, od, .func (ksFn "__init__" qual params body scope .none kV doc pm an (.ref cda) ct cc), osl⟩
  cd : codeIn K (.ref cda) qual = true
  code : ∃ ccl cdd vs ccs file tf, K.lookup cda = some ⟨ccl, cdd, .fields vs, ccs⟩ ∧ vs[2]? = some (.str file tf) ∧ ((P.main.file : Str) == file) = true
  cell : ∃ cl cld csl, K.lookup cc = some ⟨cl, cld, .cell (some (.ref C)), csl⟩
  self : mroIn K C (.ref C) = some true
  sup : ks_superIn K C C "__init__" = some (some (.builtin "ValueError.__init__"))
  subV : subIn K (.ref C) (.type "ValueError") = some true
  opq : nsIn K cStatics "thirdparty.any" = some none
  htop : (P.main.scope.names.lookup ("super" : Str)).isSome = false
abbrev env0 (qual : Str) (scope : Scope) (L fI cda cc : Addr) : Env := ksEnv qual scope L fI (.ref cda) cc
section
variable {P : Program} {w : World} {A : Around} {E : Value → Shared → Prop} {K : Frag} {C fI cc cda L x : Addr} {qual : Str} {params : Arguments} {body : List Stmt} {scope : Scope}
/-- the bound __init__ of the base, called -/
theorem call_mw {h : Heap} {g : Array GenState} {d : Drawn} {t : Nat} {os : OsState} {u t0 : Addr} {us : List Value} {Q : Value → Shared → Prop} {nm q : Str} {N : Addr} {bs bm : List Value} {hdct : Bool} {sn : List Str} {sub : List Value} {ab : Bool} {col : Option Bool} {dd : Option Addr} {k0 k1 k2 k3 k5 : Option Value}
    (hC : h.get? C = some (excClassObj nm q C N bs bm hdct sn sub ab col dd k0 k1 k2 k3 k5 "ValueError.__new__")) (he : h.get? x = some (excO C t0)) (hu : h.get? u = some (kxs_mw "ValueError.__init__" x)) (hz : us.length ≤ sizeLine)
    (hq : ∀ h' t1, (∀ b o, b ≠ x → h.get? b = some o → h'.get? b = some o) → h'.get? x = some (excO C t1) → Q .none ⟨h', g, d, t, os⟩) : wpAny (model P w) A (call (.ref u) us) Q E ⟨h, g, d, t, os⟩ := by
  refine wpAny_call (codeAny_of_tree ?_)
  show wpAny _ A.in1 (callAny (.ref u) ⟨us, []⟩) _ _ _
  simp only [callAny]
  refine wpAny_bind (wpAny_load hu ?_)
  simp only [kxs_mw, (by decide : (Value.type "method-wrapper" == Value.type "method" || Value.type "method-wrapper" == Value.type "builtin_function_or_method" || Value.type "method-wrapper" == Value.type "method-wrapper") = true), if_true]
  refine KFB.if_so (by decide) ?_
  refine wpAny_bind (check_bound_init F.excBase_ValueError.toExcCallFacts hC he rfl ?_)
  refine wpAny_bind (wpAny_pure (wpAny_pure ?_))
  refine ⟨plainId_quiet F.excBase_ValueError.init.plain _, codeAny_builtin F.excBase_ValueError.initEntry ?_⟩
  exact exc_init_tree (cls := .ref C) (t0 := t0) (dv := none) (c2 := .none) (c3 := .none) (b4 := .bool false) he hz fun h' a b _ => hq h' _ a b
theorem callWith_mw {s : Shared} {pos : Pos} {u : Addr} {env : Env} {e : Expr} {es : List Expr} {Q : Value → Shared → Prop}
    (h : wpAny (model P w) A (spliced (backTo pos (starEach (e :: es) env))) (fun vs s1 => s1.heap.get? u = some (kxs_mw "ValueError.__init__" x) ∧ wpAny (model P w) A (call (.ref u) vs) Q E s1) E s)
    (hst : starEach (e :: es) env = (false, eval e env) :: starEach es env) (hpl : (backTo pos (starEach es env)).any (·.1) = false) : wpAny (model P w) A (callWith pos (.ref u) [] (backTo pos (starEach (e :: es) env)) []) Q E s := by
  rw [hst] at h ⊢
  refine kxs_callWith (i := "ValueError.__init__") (x := x) (by show (false || (backTo pos (starEach es env)).any (·.1)) = false; rw [hpl]; rfl) ?_
  exact evalArgs_plain h
/-- super().__init__(..), the first statement of a body -/
theorem superInit {s : Shared} {t0 : Addr} {mg mb m : Str → Option Value} {p0 p1 p2 p3 pos : Pos} {e : Expr} {es : List Expr} {us : List Value} {rest : List Stmt} {pl : Sem Bool} {ar : Arg} {Q : Flow → Shared → Prop} (T : XT P K C fI cc cda qual params body scope) (X : K.In s.heap) (G : s.heap.Ns mainGlobals mg) (hg : mg "super" = none)
    (B : s.heap.Ns builtinsNs mb) (hb : mb "super" = some (.type "super")) (hx : s.heap.get? x = some (excO C t0)) (hn : s.heap.Ns L m) (hp : (params.posonlyargs ++ params.args).head? = some ar) (hself : m ar.arg = some (.ref x)) (hz : us.length ≤ sizeLine)
    (hks : scope.names.lookup ("super" : Str) = some .globalImplicit) (hkc : scope.names.lookup ("__class__" : Str) = some .free) (hka : scope.names.lookup ar.arg = some .local) (hk : scope.kind = .function)
    (hargs : ∀ (s' : Shared) (Q' : List Value → Shared → Prop), s'.heap.Ns L m → Q' us s' → wpAny (model P w) A (spliced (backTo p3 (starEach (e :: es) (env0 qual scope L fI cda cc)))) Q' E s')
    (h : ∀ (h' : Heap) (tk : Nat) (t1 : Addr), (∀ b o, b ≠ x → s.heap.get? b = some o → h'.get? b = some o) → h'.get? x = some (excO C t1) → _root_.PySem.wpAt (model P w) A (.func body (env0 qual scope L fI cda cc)) (execs rest (env0 qual scope L fI cda cc)) Q E { s with heap := h', toks := tk })
    (hM : eval (.Call (.Attribute (.Call (.Name "super" p0) [] [] p1) "__init__" p2) (e :: es) [] p3) (env0 qual scope L fI cda cc) = (do
      let ov ← attributeBase (.Call (.Name "super" p0) [] [] p1) "__init__" (env0 qual scope L fI cda cc) (eval (.Call (.Name "super" p0) [] [] p1) (env0 qual scope L fI cda cc))
      standAt p2.atName
      let (f, first) ← holding [ov] (getMethod ov "__init__" pl)
      callWith p3 f first (backTo p3 (starEach (e :: es) (env0 qual scope L fI cda cc))) []) := by rfl)
    (hst : starEach (e :: es) (env0 qual scope L fI cda cc) = (false, eval e (env0 qual scope L fI cda cc)) :: starEach es (env0 qual scope L fI cda cc) := by rfl) (hpl : (backTo p3 (starEach es (env0 qual scope L fI cda cc))).any (·.1) = false := by rfl)
    (hi : interactive (env0 qual scope L fI cda cc) = false := by rfl) (hs : swapsWith (.Call (.Attribute (.Call (.Name "super" p0) [] [] p1) "__init__" p2) (e :: es) [] p3) none pos.line (env0 qual scope L fI cda cc) = pure false := by rfl) :
    _root_.PySem.wpAt (model P w) A (.func body (env0 qual scope L fI cda cc)) (execs (.Expr (.Call (.Attribute (.Call (.Name "super" p0) [] [] p1) "__init__" p2) (e :: es) [] p3) pos :: rest) (env0 qual scope L fI cda cc)) Q E s := by
  obtain ⟨nm, q, N, bs, bm, sn, sub, ab, col, dd, k0, k1, k2, k3, k5, hC, hbm⟩ := T.cls
  obtain ⟨oc, od, kV, doc, pm, an, ct, osl, hf⟩ := T.fn
  obtain ⟨ccl, cdd, vs, ccs, file, tf, hcode, hvs, hfile⟩ := T.code
  obtain ⟨cl, cld, csl, hcell⟩ := T.cell
  have hcl : clsIn K C = some { name := nm, bases := bs, mro := .ref C :: bm, ns := N, qualname := q, hasDict := true, slotNames := sn, subclasses := sub, abstract := ab, collection := col, hasDel := false } := by unfold clsIn; rw [hC] <;> rfl
  have I0 : InstAt s.heap x (excO C t0) C none := ⟨hx, rfl, rfl, trivial⟩
  obtain ⟨hh, g, d, t, os⟩ := s
  refine ks_wpAt_execs_cons (ks_wpAt_Expr_any (ks_wpAt_MethodCall (pl := pl) ?_ hM) hi hs)
  refine ks_wpAt_super_base (env := env0 qual scope L fI cda cc) hks hkc (by decide) rfl (X _ _ hf) rfl hp rfl (X _ _ hcode) rfl hvs hfile T.htop ?_
  refine ks_loadName_global hk hks (loadGlobal_builtin (env := env0 qual scope L fI cda cc) G hg B hb ⟨rfl, ?_⟩)
  refine wpAny_loadName_free hk hkc rfl ⟨_, X _ _ hcell, rfl⟩ ?_
  refine wpAny_loadName_local hk hka hn hself ?_
  refine ks_wpAny_isType_cls (X _ _ hC) rfl ⟨rfl, ?_⟩
  refine ks_wpAny_call_super (X _ _ hC) rfl hx rfl (fun c e => ?_) (looks_mroIn X T.self) (fun h1 e1 kk1 => ?_)
  · cases e
  have X1 : K.In h1 := X.keeps kk1
  have I1 : InstAt h1 x (excO C t0) C none := ⟨kk1 _ _ hx, rfl, rfl, trivial⟩
  have hI : Looks (model P w) h1 (isInstance (.ref x) (.type "ValueError")) true := I1.type.andThen (looks_subIn X1 T.subV)
  have hm := T.sup
  unfold ks_superIn at hm
  rw [hcl] at hm
  refine kxs_getMethod kxs_ValueError e1 (looks_opaque X1 T.opq) (l₀ := .ref C :: bm) (fun A' Q' E' s' k q => wpAny_bind ((looks_clsIn X1 hcl) A' _ E' s' k (wpAny_pure q))) rfl X1 hm hI (ks_ne X1 I1 hcl) rfl ?_
  have kp : ∀ b o, h1.get? b = some o → (h1.push (kxs_mw "ValueError.__init__" x)).get? b = some o := fun b o q => Heap.get?_push_of_some _ q
  show wpAny _ _ (callWith p3 (.ref h1.objs.size) [] _ []) _ _ _
  refine callWith_mw (x := x) ?_ hst hpl
  refine hargs _ _ (hn.keeps fun b o q => kp b o (kk1 b o q)) ⟨Heap.get?_push_at rfl rfl, ?_⟩
  refine call_mw (C := C) (x := x) (kp _ _ (X1 _ _ hC)) (kp _ _ (kk1 _ _ hx)) (Heap.get?_push_at rfl rfl) hz fun h2 t1 kk2 hx2 => ?_
  exact h h2 _ t1 (fun b o hb q => kk2 b o hb (kp b o (kk1 b o q))) hx2
end
end PkX
set_option Elab.async false
set_option linter.all false
set_option maxRecDepth 100000
set_option maxHeartbeats 4000000
namespace PkX
open PySem PySem.W PySem.Calls PyProof.Rows PySem.HandSPX
/-- the __init__ of a class's text -/
def initSt (st : Stmt) : Stmt := match st with
  | .ClassDef (body := b) .. => b.getD 0 (.Pass default)
  | _ => .Pass default
abbrev iO : Stmt := initSt (Pk.tp 2)
abbrev iP : Stmt := initSt (Pk.tp 3)
abbrev XO (P : Program) (K : Frag) (C fI cc cda : Addr) : Prop := XT P K C fI cc cda "NotOrder.__init__" (L2.defArgs iO) (L2.defBody iO) (L2.defScope iO)
abbrev XP (P : Program) (K : Frag) (C fI cc cda : Addr) : Prop := XT P K C fI cc cda "NotPatch.__init__" (L2.defArgs iP) (L2.defBody iP) (L2.defScope iP)
/-- fields may be stored -/
structure XF (K : Frag) (C : Addr) : Prop where
  sa : findIn K (.ref C) "__setattr__" = some (some (.builtin "object.__setattr__"))
  no : ∀ f ∈ (["rule", "place"] : List Str), findIn K (.ref C) f = some none
/-- what such an __init__ leaves of a fresh exception at x -/
structure IEnd (h h' : Heap) (x C dx : Addr) (m : Str → Option Value) : Prop where
  keep : ∀ b o, b ≠ x → h.get? b = some o → h'.get? b = some o
  obj : ∃ t1 : Addr, h'.get? x = some { cls := .ref C, dict := some dx, data := .fields #[.ref t1, .none, .none, .none, .bool false, .none] }
  dbig : h.objs.size ≤ dx
  dne : dx ≠ x
  ns : h'.Ns1 dx m
abbrev m1 (v : Value) : Str → Option Value := fun y => if y = "rule" then some v else none
abbrev m2 (v p : Value) : Str → Option Value := fun y => if y = "place" then some p else m1 v y
section
variable {P : Program} {w : World} {A : Around} {E : Value → Shared → Prop} {R : Result → Shared → Prop} {s : Shared} {K : Frag} {mg mb : Str → Option Value} {C fI cc cda x : Addr}
theorem ldN {M : Model} {s : Shared} {L fI cda cc : Addr} {qual : Str} {scope : Scope} {m : Str → Option Value} {y : Str} {pos : Pos} {v : Value} {Q : Value → Shared → Prop} (hn : s.heap.Ns L m) (hv : m y = some v) (h : Q v s)
    (hk : scope.kind = .function := by rfl) (hl : (env0 qual scope L fI cda cc).kindOf y = some .local := by rfl) (hd : (y == ("__debug__" : Str)) = false := by decide) : wpAny M A (eval (.Name y pos) (env0 qual scope L fI cda cc)) Q E s :=
  wpAny_Name (wpAny_loadName_local hk hl hn hv h) hd
theorem stores1 {t0 L : Addr} {v : Value} {m : Str → Option Value} {pos p1 p2 p3 : Pos} {qual : Str} {scope : Scope} {Q : Flow → Shared → Prop} {cd : ClassData} (TF : XF K C) (hcl : clsIn K C = some cd) (hm : refsVE cd.mro = true) (hh : cd.hasDict = true) (X : K.In s.heap) (hx : s.heap.get? x = some (excO C t0)) (hn : s.heap.Ns L m)
    (h1 : m "rule" = some v) (h2 : m "self" = some (.ref x)) (hk : scope.kind = .function) (hl1 : scope.names.lookup ("rule" : Str) = some .local) (hl2 : scope.names.lookup ("self" : Str) = some .local)
    (h : ∀ h' tk dx, (∀ b o, b ≠ x → s.heap.get? b = some o → h'.get? b = some o) → s.heap.objs.size ≤ dx → dx ≠ x → h'.get? x = some { cls := .ref C, dict := some dx, data := .fields #[.ref t0, .none, .none, .none, .bool false, .none] } → h'.Ns1 dx (m1 v) → Q .next { s with heap := h', toks := tk })
    (hs : swapsWith (.Name "rule" p3) (some (.Attribute (.Name "self" p1) "rule" p2)) pos.line (env0 qual scope L fI cda cc) = pure false := by rfl) : wpAny (model P w) A (exec (.Assign [.Attribute (.Name "self" p1) "rule" p2] (.Name "rule" p3) pos) (env0 qual scope L fI cda cc)) Q E s := by
  refine plainObj_wpAny_Assign_Attribute ?_ hs
  refine ldN hn h1 (ldN hn h2 ?_ hk hl2) hk hl1
  refine set_plain X (ox := excO C t0) (od := none) ⟨hx, rfl, rfl, trivial⟩ TF.sa ?_
  refine exc_osa X hx hcl hm hh (TF.no _ (by simp)) (fun h3 tk3 dx k3 dn dne hx3 hn3 => ?_)
  exact h h3 tk3 dx k3 dn dne hx3 hn3
theorem stores2 {t0 L dx : Addr} {v p : Value} {m : Str → Option Value} {pos p1 p2 p3 : Pos} {qual : Str} {scope : Scope} {Q : Flow → Shared → Prop} {cd : ClassData} (TF : XF K C) (hcl : clsIn K C = some cd) (hm : refsVE cd.mro = true) (hh : cd.hasDict = true) (X : K.In s.heap)
    (hx : s.heap.get? x = some { cls := .ref C, dict := some dx, data := .fields #[.ref t0, .none, .none, .none, .bool false, .none] }) (hd : s.heap.Ns1 dx (m1 v)) (hn : s.heap.Ns L m)
    (h1 : m "place" = some p) (h2 : m "self" = some (.ref x)) (hk : scope.kind = .function) (hl1 : scope.names.lookup ("place" : Str) = some .local) (hl2 : scope.names.lookup ("self" : Str) = some .local)
    (h : ∀ h' tk, (∀ b o, b ≠ dx → s.heap.get? b = some o → h'.get? b = some o) → h'.Ns1 dx (m2 v p) → Q .next { s with heap := h', toks := tk })
    (hs : swapsWith (.Name "place" p3) (some (.Attribute (.Name "self" p1) "place" p2)) pos.line (env0 qual scope L fI cda cc) = pure false := by rfl) : wpAny (model P w) A (exec (.Assign [.Attribute (.Name "self" p1) "place" p2] (.Name "place" p3) pos) (env0 qual scope L fI cda cc)) Q E s := by
  have hw : Within (m1 v) ["rule"] := fun y hy => by
    by_cases e : y = "rule"
    · rw [e]; simp
    · exact absurd (if_neg e) hy
  obtain ⟨oD, _, _, hoD, _, _⟩ := hd.count hw
  refine plainObj_wpAny_Assign_Attribute ?_ hs
  refine ldN hn h1 (ldN hn h2 ?_ hk hl2) hk hl1
  refine set_plain X (ox := { cls := .ref C, dict := some dx, data := .fields #[.ref t0, .none, .none, .none, .bool false, .none] }) (od := some oD) ⟨hx, rfl, rfl, hoD⟩ TF.sa ?_
  refine PySem.OEX.osa_old X hx hd hw (by decide) hcl hm hh (TF.no _ (by simp)) (fun h3 tk3 k3 hn3 => ?_)
  exact h h3 tk3 k3 hn3
theorem scO_super : (L2.defScope iO).names.lookup ("super" : Str) = some .globalImplicit := by decide +kernel
theorem scO_class : (L2.defScope iO).names.lookup ("__class__" : Str) = some .free := by decide +kernel
theorem scO_self : (L2.defScope iO).names.lookup ("self" : Str) = some .local := by decide +kernel
theorem scO_rule : (L2.defScope iO).names.lookup ("rule" : Str) = some .local := by decide +kernel
theorem scO_cell : ∀ y ∈ (L2.defScope iO).names, y.2 ≠ .cell := by decide +kernel
theorem scP_super : (L2.defScope iP).names.lookup ("super" : Str) = some .globalImplicit := by decide +kernel
theorem scP_class : (L2.defScope iP).names.lookup ("__class__" : Str) = some .free := by decide +kernel
theorem scP_self : (L2.defScope iP).names.lookup ("self" : Str) = some .local := by decide +kernel
theorem scP_rule : (L2.defScope iP).names.lookup ("rule" : Str) = some .local := by decide +kernel
theorem scP_place : (L2.defScope iP).names.lookup ("place" : Str) = some .local := by decide +kernel
theorem scP_cell : ∀ y ∈ (L2.defScope iP).names, y.2 ≠ .cell := by decide +kernel
theorem init1 {t0 : Addr} {v : Value} (T : XO P K C fI cc cda) (TF : XF K C) (X : K.In s.heap) (hnx : K.lookup x = none) (G : s.heap.Ns mainGlobals mg) (hg : mg "super" = none) (B : s.heap.Ns builtinsNs mb) (hb : mb "super" = some (.type "super")) (hlim : s.heap.NoLimit) (hx : s.heap.get? x = some (excO C t0))
    (hroom : A.depth < recursionLimit) (hq : ∀ h' tk dx, IEnd s.heap h' x C dx (m1 v) → R (.ok (.ret .none)) { s with heap := h', toks := tk }) : codeAny (model P w) A (.call (.ref fI) ⟨[.ref x, v], []⟩) R s := by
  obtain ⟨nm, q, N, bs, bm, sn, sub, ab, col, dd, k0, k1, k2, k3, k5, hC, hbm⟩ := T.cls
  have hcl : clsIn K C = some { name := nm, bases := bs, mro := .ref C :: bm, ns := N, qualname := q, hasDict := true, slotNames := sn, subclasses := sub, abstract := ab, collection := col, hasDel := false } := by unfold clsIn; rw [hC] <;> rfl
  obtain ⟨oc, od, kV, doc, pm, an, ct, osl, hf⟩ := T.fn
  refine ks_codeAny_call_defAt (binds := [("self", .ref x), ("rule", v)]) hroom (X _ _ hf) rfl hlim (codeRec_of X T.cd) rfl (BindsTo.of_eq (by first | rfl | with_unfolding_all rfl)) scO_cell
    (fun y hy => by
      rcases List.mem_cons.mp hy with rfl | hy
      · exact scO_self
      · rw [List.mem_singleton] at hy
        rw [hy]
        exact scO_rule) (fun h1 hn k => ?_) rfl rfl rfl
  have e_rule : (fun y : Str => List.lookup y (List.reverse [(("self" : Str), Value.ref x), ("rule", v)])) "rule" = some (v) := by first | rfl | with_unfolding_all rfl | kernel_rfl
  have e_self : (fun y : Str => List.lookup y (List.reverse [(("self" : Str), Value.ref x), ("rule", v)])) "self" = some (.ref x) := by first | rfl | with_unfolding_all rfl | kernel_rfl
  have nL : s.heap.objs.size ≠ x := Nat.ne_of_gt (Heap.lt_size hx)
  have up : ∀ {h2 : Heap}, (∀ b o, b ≠ x → h1.get? b = some o → h2.get? b = some o) → ∀ {m : Str → Option Value}, h1.Ns s.heap.objs.size m → h2.Ns s.heap.objs.size m := fun {h2} k2 {m} ⟨oL, es, ep, hL, r⟩ => ⟨oL, es, ep, k2 _ _ nL hL, r⟩
  have upK : ∀ {h2 : Heap}, (∀ b o, b ≠ x → h1.get? b = some o → h2.get? b = some o) → K.In h2 := fun {h2} k2 a o e => k2 a o (fun z => by rw [z, hnx] at e; cases e) (k _ _ (X a o e))
  have key : ∀ {h2 h3 : Heap} {dx : Addr}, (∀ b o, b ≠ x → h1.get? b = some o → h2.get? b = some o) → h2.objs.size ≤ dx → s.heap.objs.size < dx := fun {h2 h3 dx} k2 dn => Nat.lt_of_lt_of_le (up k2 hn).lt dn
  refine superInit (L := s.heap.objs.size) (us := [v]) T (X.keeps k) (G.keeps k) hg (B.keeps k) hb (k _ _ hx) hn rfl e_self (by show 1 ≤ sizeLine; rw [sizeLine_eq]; omega) scO_super scO_class scO_self rfl (fun s' Q' hn' q' => ?_) (fun h2 tk2 t2 k2 hx2 => ?_)
  · exact Calls.spliced_cons (ldN hn' e_rule (Calls.spliced_nil q') rfl scO_rule)
  · refine wpAt_of_wpAny (wpAny_execs_cons (stores1 TF hcl (show refsVE (.ref C :: bm) = true from hbm) rfl (upK k2) hx2 (up k2 hn) e_rule e_self rfl scO_rule scO_self fun h3 tk3 dx k3 dn dne hx3 hn3 => wpAny_execs_nil ?_))
    exact hq h3 tk3 dx ⟨fun b o hb e => k3 b o hb (k2 b o hb (k b o e)), ⟨_, hx3⟩, Nat.le_of_lt (key (h3 := h3) k2 dn), dne, hn3⟩
theorem init2 {t0 : Addr} {v p : Value} (T : XP P K C fI cc cda) (TF : XF K C) (X : K.In s.heap) (hnx : K.lookup x = none) (G : s.heap.Ns mainGlobals mg) (hg : mg "super" = none) (B : s.heap.Ns builtinsNs mb) (hb : mb "super" = some (.type "super")) (hlim : s.heap.NoLimit) (hx : s.heap.get? x = some (excO C t0))
    (hroom : A.depth < recursionLimit) (hq : ∀ h' tk dx, IEnd s.heap h' x C dx (m2 v p) → R (.ok (.ret .none)) { s with heap := h', toks := tk }) : codeAny (model P w) A (.call (.ref fI) ⟨[.ref x, v, p], []⟩) R s := by
  obtain ⟨nm, q, N, bs, bm, sn, sub, ab, col, dd, k0, k1, k2, k3, k5, hC, hbm⟩ := T.cls
  have hcl : clsIn K C = some { name := nm, bases := bs, mro := .ref C :: bm, ns := N, qualname := q, hasDict := true, slotNames := sn, subclasses := sub, abstract := ab, collection := col, hasDel := false } := by unfold clsIn; rw [hC] <;> rfl
  obtain ⟨oc, od, kV, doc, pm, an, ct, osl, hf⟩ := T.fn
  refine ks_codeAny_call_defAt (binds := [("self", .ref x), ("rule", v), ("place", p)]) hroom (X _ _ hf) rfl hlim (codeRec_of X T.cd) rfl (BindsTo.of_eq (by first | rfl | with_unfolding_all rfl)) scP_cell
    (fun y hy => by
      rcases List.mem_cons.mp hy with rfl | hy
      · exact scP_self
      rcases List.mem_cons.mp hy with rfl | hy
      · exact scP_rule
      · rw [List.mem_singleton] at hy
        rw [hy]
        exact scP_place) (fun h1 hn k => ?_) rfl rfl rfl
  have e_rule : (fun y : Str => List.lookup y (List.reverse [(("self" : Str), Value.ref x), ("rule", v), ("place", p)])) "rule" = some (v) := by first | rfl | with_unfolding_all rfl | kernel_rfl
  have e_place : (fun y : Str => List.lookup y (List.reverse [(("self" : Str), Value.ref x), ("rule", v), ("place", p)])) "place" = some (p) := by first | rfl | with_unfolding_all rfl | kernel_rfl
  have e_self : (fun y : Str => List.lookup y (List.reverse [(("self" : Str), Value.ref x), ("rule", v), ("place", p)])) "self" = some (.ref x) := by first | rfl | with_unfolding_all rfl | kernel_rfl
  have nL : s.heap.objs.size ≠ x := Nat.ne_of_gt (Heap.lt_size hx)
  have up : ∀ {h2 : Heap}, (∀ b o, b ≠ x → h1.get? b = some o → h2.get? b = some o) → ∀ {m : Str → Option Value}, h1.Ns s.heap.objs.size m → h2.Ns s.heap.objs.size m := fun {h2} k2 {m} ⟨oL, es, ep, hL, r⟩ => ⟨oL, es, ep, k2 _ _ nL hL, r⟩
  have upK : ∀ {h2 : Heap}, (∀ b o, b ≠ x → h1.get? b = some o → h2.get? b = some o) → K.In h2 := fun {h2} k2 a o e => k2 a o (fun z => by rw [z, hnx] at e; cases e) (k _ _ (X a o e))
  have key : ∀ {h2 h3 : Heap} {dx : Addr}, (∀ b o, b ≠ x → h1.get? b = some o → h2.get? b = some o) → h2.objs.size ≤ dx → s.heap.objs.size < dx := fun {h2 h3 dx} k2 dn => Nat.lt_of_lt_of_le (up k2 hn).lt dn
  refine superInit (L := s.heap.objs.size) (us := [v, p]) T (X.keeps k) (G.keeps k) hg (B.keeps k) hb (k _ _ hx) hn rfl e_self (by show 2 ≤ sizeLine; rw [sizeLine_eq]; omega) scP_super scP_class scP_self rfl (fun s' Q' hn' q' => ?_) (fun h2 tk2 t2 k2 hx2 => ?_)
  · exact Calls.spliced_cons (ldN hn' e_rule (Calls.spliced_cons (ldN hn' e_place (Calls.spliced_nil q') rfl scP_place)) rfl scP_rule)
  · refine wpAt_of_wpAny (wpAny_execs_cons (stores1 TF hcl (show refsVE (.ref C :: bm) = true from hbm) rfl (upK k2) hx2 (up k2 hn) e_rule e_self rfl scP_rule scP_self fun h3 tk3 dx k3 dn dne hx3 hn3 => ?_))
    have k13 : ∀ b o, b ≠ x → h1.get? b = some o → h3.get? b = some o := fun b o hb e => k3 b o hb (k2 b o hb e)
    refine wpAny_execs_cons (stores2 (t0 := t2) (dx := dx) TF hcl (show refsVE (.ref C :: bm) = true from hbm) rfl (upK k13) hx3 hn3 (up k13 hn) e_place e_self rfl scP_place scP_self fun h4 tk4 k4 hn4 => wpAny_execs_nil ?_)
    have hd := key (h3 := h3) k2 dn
    exact hq h4 tk4 dx ⟨fun b o hb e => k4 b o (Nat.ne_of_lt (Nat.lt_trans (Heap.lt_size e) hd)) (k13 b o hb (k b o e)), ⟨_, k4 _ _ dne.symm hx3⟩, Nat.le_of_lt hd, dne, hn4⟩
end
end PkX
set_option Elab.async false
set_option linter.all false
set_option maxRecDepth 100000
set_option maxHeartbeats 4000000
namespace PkX
open PySem PySem.W PySem.Calls PyProof.Rows PySem.HandSPX
/-- a made exception -/
structure Made (h h' : Heap) (e C d : Addr) (m : Str → Option Value) : Prop where
  keep : ∀ b o, h.get? b = some o → h'.get? b = some o
  new : h.objs.size ≤ e
  obj : ∃ oe vs, h'.get? e = some oe ∧ oe.cls = .ref C ∧ oe.dict = some d ∧ oe.data = .fields vs ∧ vs[1]? = some .none
  dbig : h.objs.size ≤ d
  dne : d ≠ e
  ns : h'.Ns1 d m
/-- an __init__ with these arguments leaves this -/
def Inits (P : Program) (w : World) (K : Frag) (mg mb : Str → Option Value) (C fI : Addr) (us : List Value) (m : Str → Option Value) : Prop :=
  ∀ {A : Around} {R : Result → Shared → Prop} {s : Shared} {x t0 : Addr}, K.In s.heap → K.lookup x = none → s.heap.Ns mainGlobals mg → s.heap.Ns builtinsNs mb → s.heap.NoLimit → s.heap.get? x = some (excO C t0) → A.depth < recursionLimit →
    (∀ h' tk dx, IEnd s.heap h' x C dx m → R (.ok (.ret .none)) { s with heap := h', toks := tk }) → codeAny (model P w) A (.call (.ref fI) ⟨.ref x :: us, []⟩) R s
section
variable {P : Program} {w : World} {A : Around} {R : Result → Shared → Prop} {s : Shared} {K : Frag} {mg mb : Str → Option Value} {C fI cc cda : Addr} {qual : Str} {params : Arguments} {body : List Stmt} {scope : Scope}
theorem made {us : List Value} {m : Str → Option Value} (T : XT P K C fI cc cda qual params body scope) (hz : us.length ≤ sizeLine) (hin : Inits P w K mg mb C fI us m) (X : K.In s.heap) (G : s.heap.Ns mainGlobals mg) (B : s.heap.Ns builtinsNs mb) (hlim : s.heap.NoLimit) (hroom : A.depth + 1 < recursionLimit)
    (hq : ∀ h' tk e d, Made s.heap h' e C d m → R (.ok (.ret (.ref e))) { s with heap := h', toks := tk }) : codeAny (model P w) A (.call (.ref C) ⟨us, []⟩) R s := by
  obtain ⟨nm, q, N, bs, bm, sn, sub, ab, col, dd, k0, k1, k2, k3, k5, hC, hbm⟩ := T.cls
  obtain ⟨hp, g, dr, tk, os⟩ := s
  have k : ∀ b o, hp.get? b = some o → ((hp.push (kdv_tup us)).push (excO C hp.objs.size)).get? b = some o := fun b o e => Heap.get?_push_of_some _ (Heap.get?_push_of_some _ e)
  have hget : ((hp.push (kdv_tup us)).push (excO C hp.objs.size)).get? (hp.objs.size + 1) = some (excO C hp.objs.size) := by heap_get
  have hnx : K.lookup (hp.objs.size + 1) = none := by
    cases e : K.lookup (hp.objs.size + 1) with
    | none => rfl
    | some o => exact absurd (Nat.lt_of_succ_lt (Heap.lt_size (show hp.get? (hp.objs.size + 1) = some o from X _ _ e))) (Nat.lt_irrefl _)
  refine call_own F.excBase_ValueError (fun Y => refsVE_contains Y bm hbm) (X _ _ hC) (looks_findIn X T.iC) (fun self => bind_fn X self T.tC) hz ?_
  refine hin (s := ⟨(hp.push (kdv_tup us)).push (excO C hp.objs.size), g, dr, tk, os⟩) (X.keeps k) hnx (G.keeps k) (B.keeps k) (hlim.keeps k) hget ?_ fun h' tk' dx ⟨k', ⟨t1, hx⟩, dn, dne, hns⟩ => ?_
  · show A.depth + 1 < recursionLimit
    exact hroom
  · have z : hp.objs.size + 1 + 1 ≤ dx := by
      have q := dn
      rw [Heap.size_push, Heap.size_push] at q
      exact q
    exact ⟨rfl, hq h' tk' (hp.objs.size + 1) dx ⟨fun b o e => k' b o (Nat.ne_of_lt (Nat.lt_succ_of_lt (Heap.lt_size e))) (k b o e), Nat.le_succ _, ⟨_, _, hx, rfl, rfl, rfl, rfl⟩, Nat.le_trans (Nat.le_trans (Nat.le_succ _) (Nat.le_succ _)) z, dne, hns⟩⟩
theorem initsO {v : Value} (T : XO P K C fI cc cda) (TF : XF K C) (hg : mg "super" = none) (hb : mb "super" = some (.type "super")) : Inits P w K mg mb C fI [v] (m1 v) := fun X hnx G B hl hx hr hq => init1 T TF X hnx G hg B hb hl hx hr hq
theorem initsP {v p : Value} (T : XP P K C fI cc cda) (TF : XF K C) (hg : mg "super" = none) (hb : mb "super" = some (.type "super")) : Inits P w K mg mb C fI [v, p] (m2 v p) := fun X hnx G B hl hx hr hq => init2 T TF X hnx G hg B hb hl hx hr hq
end
end PkX
namespace L2
open PySem PySem.Spec PyProof.Rows PkX
/-- what the class is, as the rules want it -/
structure XCls (K : PySem.W.Frag) (C : Addr) : Prop where
  f : PkX.XF K C
  kC : PySem.W.keepIn K (.ref C) = true
  exC : PySem.W.subIn K (.ref C) (.type "BaseException") = some true
  tyC : PySem.W.typeIn K (.ref C) = some (.type "type")
/-- the fields of the exception made with these -/
def fsOf : List V → List (Str × V)
  | [v] => [(("rule" : Str), v)]
  | [v, p] => [(("place" : Str), p), (("rule" : Str), v)]
  | _ => []
def mOf : List Value → Str → Option Value
  | [v] => PkX.m1 v
  | [v, p] => PkX.m2 v p
  | _ => fun _ => none
theorem fs_rel {vs : List V} {us : List Value} (r : Vals vs us) (f : Str) : RelO ((fsOf vs).lookup f) (mOf us f) := by
  cases r with
  | nil => exact True.intro
  | cons r1 r2 =>
    cases r2 with
    | nil => exact relO_put (fs := []) (mA := fun _ => none) r1 (fun g => True.intro) f
    | cons r2 r3 =>
      cases r3 with
      | nil => exact relO_put (fs := [_]) (mA := PkX.m1 _) r2 (fun g => relO_put (fs := []) (mA := fun _ => none) r1 (fun g => True.intro) g) f
      | cons r4 r5 => exact True.intro
/-- the class at C, called with k arguments -/
def tMkX (C : Addr) (k : Nat) (ta : TA) : St → Hp → XK → Prop := fun σ H Q => ta σ H fun vs H1 => vs.length = k ∧ ∀ d, H1 d = none → Q (.ref C) (some d) (upd H1 d (.xd (fsOf vs)))
section
variable {X : Cx} {C fI cc cda : Addr} {qual : Str} {params : Arguments} {body : List Stmt} {scope : Scope}
theorem pmk_x {x : Str} {a : Expr} {as : List Expr} {ta : TA} {p pos : Pos} {n : Nat} (T : PkX.XT X.prog X.K C fI cc cda qual params body scope) (TC : XCls X.K C) (gC : X.mg x = some (.ref C)) (hn : n ≤ 2)
    (hin : ∀ (mb : Str → Option Value) (us : List Value), us.length = n → mb "super" = some (.type "super") → PkX.Inits X.prog X.w X.K X.mg mb C fI us (mOf us)) (hr : Room 1 X.A) (ha : PA X (a :: as) ta) (hg : Gl X x) (hdb : (x == ("__debug__" : Str)) = false)
    (he : starEach (a :: as) X.env = (false, eval a X.env) :: starEach as X.env := by rfl) (hpl : (backTo pos (starEach as X.env)).any (·.1) = false := by rfl) :
    PMk X (.Call (.Name x p) (a :: as) [] pos) (tMkX C n ta) := by
  intro pins s σ H Q I h
  refine wpAny_Call_Name_kw (ld_glob I hg gC ?_ hdb)
  refine PySem.W.callWith_K (h₀ := X.base) I.ok.mod.kin TC.kC (thn (ha.run pos pins s σ H _ I h) fun us s1 hh => ?_) he hpl
  obtain ⟨vs, H1, I1, r1, ev, q1⟩ := hh
  refine ⟨I1.kIn, ?_⟩
  show wpAny _ _ (call (.ref C) us) _ _ _
  have hlim := I1.nolimit
  have hl : us.length = n := r1.length.symm.trans ev
  obtain ⟨mb, h1, h2⟩ := I1.mod.blt
  have hb : mb "super" = some (.type "super") := (h2 "super" (by decide)).trans (by decide +kernel)
  have G := I1.mod.glob.keeps I1.bk
  have B := h1.keeps I1.bk
  obtain ⟨hp, g, dr, tk, os⟩ := s1
  refine wpAny_call (PkX.made T (by rw [sizeLine_eq]; omega) (hin mb us hl hb) I1.kIn G B hlim (by have := hr.dp; omega) fun h' tk' e d M => ?_)
  show MkP X pins σ Q (.ref e) ⟨h', g, dr, tk', os⟩
  obtain ⟨oe, fv, hoe, hc, hd, hdat, hv1⟩ := M.obj
  have hns := M.ns
  obtain ⟨G', g1, g2⟩ := restrict h' fun b => decide (b ≠ e)
  have gk : ∀ b, b ≠ e → G'.get? b = h'.get? b := fun b hb => g1 b (decide_eq_true hb)
  have ge : G'.get? e = none := g2 e (by simp)
  have old : ∀ b o, hp.get? b = some o → G'.get? b = some o := fun b o q => (gk b (Nat.ne_of_lt (Nat.lt_of_lt_of_le (Heap.lt_size q) M.new))).trans (M.keep b o q)
  have ob : ObjOk X.prog X.w (upd H1 d (.xd (fsOf vs))) G' d (.xd (fsOf vs)) := ⟨_, hns.at (fun o q => (gk d M.dne).trans q), fun f => fs_rel r1 f⟩
  have J : Inv X pins σ (upd H1 d (.xd (fsOf vs))) ⟨G', g, dr, tk', os⟩ := I1.laid (t' := tk') old M.dbig ob
  refine ⟨e, oe, fv, ⟨G', g, dr, tk', os⟩, _, .ref C, some d, rfl, J, fun b o q => ?_, ge, hoe, ⟨hc, hd⟩, hdat, hv1, ?_, rfl, I1.bare, raises_own TC.exC TC.tyC, q1 d (I1.hok.fresh M.dbig)⟩
  · by_cases hb : b = e
    · have q' : G'.get? b = some o := q
      rw [hb, ge] at q'
      cases q'
    · exact (gk b hb).symm.trans q
  · rw [upd_ne (Ne.symm M.dne)]
    exact I1.hok.fresh M.new
/-- e.f, e the exception that the suite holds -/
def tXfl (C : Addr) (a : Addr) (cls : Value) (d : Option Addr) (f : Str) (te : TE) : TE := fun σ H Q => te σ H fun x H1 => x = .ref a ∧ cls = .ref C ∧ ∃ (dd : Addr) (fs : List (Str × V)) (v : V), d = some dd ∧ H1 dd = some (.xd fs) ∧ fs.lookup f = some v ∧ Q v H1
theorem pe_xfl {a : Addr} {oe : Obj} {cls : Value} {d : Option Addr} {pn : List (Addr × Obj)} {e : Expr} {te : TE} {pos : Pos} {f : Str} (ga : PySem.W.findIn X.K (.ref C) "__getattribute__" = some (some (.builtin "BaseException.__getattribute__"))) (gg : PySem.W.findIn X.K (.ref C) "__getattr__" = some none)
    (hd : PySem.W.hasDictIn X.K C = true) (TC : XCls X.K C) (hno : PySem.W.findIn X.K (.ref C) f = some none) (hz : Zc cls d oe) (hf : ∃ vs, oe.data = .fields vs) (he : PE (X.suite a ((a, oe) :: pn)) e te)
    (hb : attributeBase e f X.env (eval e X.env) = eval e X.env := by rfl) : PE (X.suite a ((a, oe) :: pn)) (.Attribute e f pos) (tXfl C a cls d f te) := by
  refine ⟨fun pins s σ H Q I h => ?_⟩
  refine attr_of hb (thn (he.run pins s σ H _ I h) fun u s1 hh => ?_)
  obtain ⟨x, H1, I1, rx, ex, ec, dd, fs, v, ed, ea, el, q⟩ := hh
  subst ex
  obtain rfl : u = Value.ref a := rx
  subst ec ed
  obtain ⟨ha, _⟩ := I1.pin (a, oe) (List.mem_append_left _ List.mem_cons_self)
  obtain ⟨vs, hdt⟩ := hf
  have hx : ObjOk X.prog X.w H1 s1.heap dd (.xd fs) := I1.hok dd _ ea
  obtain ⟨mA, hns, hr⟩ := hx
  obtain ⟨od, ho, hl⟩ := lookIn_ns hns
  obtain ⟨u, hu, ru⟩ := RelO.some_of (v := v) (o := mA f) (by rw [← el]; exact hr f)
  have J : PySem.W.InstAt s1.heap a oe C (some od) := ⟨ha, hz.1, by unfold PySem.W.notCls; rw [hdt] <;> rfl, by rw [hz.2]; exact ho⟩
  exact HandSPX.exc_get I1.kIn J ga gg TC.exC (PySem.W.findObj_own hd hno rfl (by rw [hl, hu])) (handed_of ru) ⟨v, H1, I1.tok _, ru, q⟩
end
end L2
set_option Elab.async false
set_option linter.all false
set_option maxRecDepth 100000
set_option maxHeartbeats 4000000
namespace Pk
open PySem PySem.Spec L2
open PyProof.Rows hiding St
abbrev BLN : List Str := ["isinstance", "int", "bool", "tuple", "all", "zip", "range", "len", "sum", "enumerate", "dict", "list", "repr", "sorted", "set", "max", "min"]
/-- the context of the body of a def that may raise -/
abbrev FXX (P : Program) (w : World) (K : PySem.W.Frag) (mg : Str → Option Value) (base : Heap) (N : List Str) (x : Str) (st : Stmt) (f : Addr) (cdv : Value) (A : Around) (outer : List Env) (s : Shared) (H : Hp) (E : XK) : Cx :=
  cxOf (L2.CX P w) P w K mg base N x (defScope st) f cdv A outer s H E
/-- what a body must do for a promise -/
def Keeps (K : PySem.W.Frag) (X : Cx) (N : List Str) (st : Stmt) (vs : List V) (H : Hp) (Q : VK) : Prop :=
  ∃ (W : Wd) (ds : List PyData) (rt : PyData → Wd → Prop), W.H = H ∧ RpL K W.G vs ds ∧ (∀ v d U, rt d U → Rp K U.G v d → Q v U.H) ∧ WB K X (startD N ds) (defBody st) W { nx := fun _ U => rt .none U, rt := rt }
section
variable {P : Program} {w : World} {K : PySem.W.Frag} {mg : Str → Option Value} {base : Heap} {N ps : List Str} {x : Str} {st : Stmt} {k : Nat} {sp : Sp}
theorem Keeps.run {X : Cx} {vs : List V} {H : Hp} {Q : VK} (h : Keeps K X N st vs H Q) : wB X (defBody st) { nx := fun _ H' => Q .non H', rt := Q } (L2.start N vs) H := by
  obtain ⟨W, ds, rt, rfl, rs, hq, hb⟩ := h
  refine wB_imp (hb _ (srep_start rs)) (fun σ H' ⟨δ, U, e, _, hn⟩ => ?_) (fun v H' ⟨d', U, e, rv, hn⟩ => ?_) (fun _ _ ⟨_, _, _, _, z⟩ => z) fun _ _ ⟨_, _, _, _, z⟩ => z
  · rw [e]; exact hq .non .none U hn .non
  · rw [e]; exact hq v d' U hn rv
theorem cal_gen (T : At K mg x st) (hb : ∀ {f : Addr} {fd : FuncData}, Fun K x x st f fd → Binds K fd ps []) (S : FnScope N ps (defScope st)) (B : Bn mg) (hl : ∀ vs H Q E, sp vs H Q E → vs.length = ps.length)
    (body : ∀ f cdv A outer s H E, let X := FX P w K mg base N x st f cdv A outer s H E; Good K X → Room k X.A → ∀ vs Q, sp vs H Q E → Keeps K X N st vs H Q) : Cal P w K mg base CX0 (k + 1) x ps sp := by
  obtain ⟨f, fd, h1, F⟩ := T
  refine ⟨f, fd, h1, F.kp, hb F, F.ok S hl fun cdv A outer s H vs Q E hr h => ⟨_, pb_w _ _, ?_⟩⟩
  exact (body f cdv A outer s H E ⟨rfl, rfl, S.nd, hr.mono (Nat.zero_le _), B.bn⟩ hr vs Q h).run
theorem cal_genX (T : At K mg x st) (hb : ∀ {f : Addr} {fd : FuncData}, Fun K x x st f fd → Binds K fd ps []) (S : FnScope N ps (defScope st)) (B : Bn mg) (hl : ∀ vs H Q E, sp vs H Q E → vs.length = ps.length)
    (body : ∀ f cdv A outer s H E, let X := FXX P w K mg base N x st f cdv A outer s H E; Good K X → Room k X.A → Takes X (fun cls d _ H' => E cls d H') → PassesOwn (model X.prog X.w) X.A X.env X.xe → ∀ vs Q, sp vs H Q E → Keeps K X N st vs H Q) : Cal P w K mg base (L2.CX P w) (k + 1) x ps sp := by
  obtain ⟨f, fd, h1, F⟩ := T
  refine ⟨f, fd, h1, F.kp, hb F, F.okX S hl fun cdv A outer s H vs Q E hr h => ⟨_, pb_w _ _, ?_⟩⟩
  exact (body f cdv A outer s H E ⟨rfl, rfl, S.nd, hr.mono (Nat.zero_le _), B.bn⟩ hr (takes_of rfl rfl rfl rfl) (passes_of rfl) vs Q h).run
end
section
variable {K : PySem.W.Frag} {X : Cx} [g : Good K X] {δ : Sd} {W : Wd} {e : Expr} {es : List Expr} {pos : Pos} {d : PyData} {j : Nat} {x : Str} {ps : List Str} {rest : List Stmt} {P : Po}
instance good_tr {pn : List (Addr × Obj)} {xe : Value → Shared → Prop} : Good K (X.tr pn xe) := ⟨g.hK, g.calm, g.nd, g.room, g.bn⟩
/-- a call whose promise is told at the very values -/
theorem we_callG {sp : Sp} {ds : List PyData} {p : Pos} {Post : PyData → Wd → Prop} (C : Cal X.prog X.w X.K X.mg X.base CX0 j x ps sp) (hr : Room j X.A) (ha : EvA K X δ (e :: es) W ds)
    (h : ∀ U vs, Le W U → RpL K U.G vs ds → ∀ (Q : VK) (E : XK), (∀ v d Z, Sub U.G Z.G → Rp K Z.G v d → Post d Z → Q v Z.H) → sp vs U.H Q E) (hg : Gl X x := by rfl)
    (hdb : (x == ("__debug__" : Str)) = false := by decide) (he : starEach (e :: es) X.env = (false, eval e X.env) :: starEach es X.env := by rfl) (hpl : (backTo pos (starEach es X.env)).any (·.1) = false := by rfl) :
    WE K X δ (.Call (.Name x p) (e :: es) [] pos) W Post := fun σ r Q q => by
  obtain ⟨f, fd, h1, h2, h3, h4⟩ := C
  exact (pe_call h4 hr hg h1 h2 h3 .nil pass0 (pa_w X _) hdb he hpl).w (ha W (Le.refl W) σ r _ fun vs Z l rs => by
    rw [List.append_nil]
    exact h Z vs l rs Q _ fun v d Y gu rv p => q v d Y (l.g.tr gu) rv p)
/-- .. that may let an exception out -/
theorem we_callX {sp : Sp} {ds : List PyData} {p : Pos} {Post : PyData → Wd → Prop} {Wx : WX} (tk : Takes X Wx) (C : Cal X.prog X.w X.K X.mg X.base (L2.CX X.prog X.w) j x ps sp) (hr : Room j X.A) (ha : EvA K X δ (e :: es) W ds)
    (h : ∀ U vs, Le W U → RpL K U.G vs ds → ∀ σ, SRep K U.G σ δ → ∀ Q : VK, (∀ v d Z, Sub U.G Z.G → Rp K Z.G v d → Post d Z → Q v Z.H) → sp vs U.H Q (L2.WE Wx σ)) (hg : Gl X x := by rfl)
    (hdb : (x == ("__debug__" : Str)) = false := by decide) (he : starEach (e :: es) X.env = (false, eval e X.env) :: starEach es X.env := by rfl) (hpl : (backTo pos (starEach es X.env)).any (·.1) = false := by rfl) :
    WE K X δ (.Call (.Name x p) (e :: es) [] pos) W Post := fun σ r Q q => by
  obtain ⟨f, fd, h1, h2, h3, h4⟩ := C
  exact (pe_callS h4 hr hg h1 h2 h3 (fun σ => passAt tk σ) (pa_w X _) hdb he hpl).w (ha W (Le.refl W) σ r _ fun vs Z l rs => h Z vs l rs σ (r.up l.g) Q fun v d Y gu rv p => q v d Y (l.g.tr gu) rv p)
theorem wb_expr (he : WE K X δ e W fun _ U => WB K X δ rest U P) (hs : swapsWith e none pos.line X.env = pure false := by rfl) : WB K X δ (.Expr e pos :: rest) W P :=
  wb_cons fun σ r => (ps_expr (pe_w X e) hs).w (he σ r _ fun v d U gu _ q => ⟨_, U, rfl, r.up gu, q⟩)
/-- raise X(..) -/
theorem wb_raise {E : XK} {C fI cc cda : Addr} {qual : Str} {params : Arguments} {body : List Stmt} {scope : Scope} {n : Nat} {ds : List PyData} {p pos2 : Pos} (tk : Takes X fun cls d _ H => E cls d H) (T : PkX.XT X.prog X.K C fI cc cda qual params body scope) (TC : XCls X.K C) (gC : X.mg x = some (.ref C)) (hn : n ≤ 2)
    (hin : ∀ (mb : Str → Option Value) (us : List Value), us.length = n → mb "super" = some (.type "super") → PkX.Inits X.prog X.w X.K X.mg mb C fI us (mOf us)) (hr : Room 1 X.A) (ha : EvA K X δ (e :: es) W ds) (hl : ds.length = n)
    (h : ∀ U vs d, Le W U → RpL K U.G vs ds → U.H d = none → E (.ref C) (some d) (upd U.H d (.xd (fsOf vs)))) (hg : Gl X x := by rfl) (hdb : (x == ("__debug__" : Str)) = false := by decide)
    (he : starEach (e :: es) X.env = (false, eval e X.env) :: starEach es X.env := by rfl) (hpl : (backTo pos (starEach es X.env)).any (·.1) = false := by rfl) : WB K X δ (.Raise (some (.Call (.Name x p) (e :: es) [] pos)) none pos2 :: rest) W P :=
  wb_cons fun σ r => (ps_raise g.calm tk (pmk_x T TC gC hn hin hr (pa_w X _) hg hdb he hpl)).w (ha W (Le.refl W) σ r _ fun vs U l rs => ⟨rs.len.trans hl, fun d hd => h U vs d l rs hd⟩)
/-- try: body / except x: return False -/
theorem wb_tryF {body : List Stmt} {c : Value} {np pos' cp rp : Pos} {jj : Nat} (hs : X.stack = X.env :: X.outer) (hf : X.env.frame = some X.env.locals) (hc : Names X x c)
    (hb : ∀ pn xe (Wx : WX), Takes (X.tr pn xe) Wx → Good K (X.tr pn xe) → (∀ cls d σ U, PySem.W.exmOne K cls c = some true → P.rt (.bool false) U → Wx cls d σ U.H) → WB K (X.tr pn xe) δ body W { P with nx := fun δ' Z => WB K X δ' rest Z P }) :
    WB K X δ (.Try body [.ExceptHandler (some (.Name x np)) none [.Return (some (.Constant (.bool false) jj cp)) rp] pos'] [] [] pos :: rest) W P :=
  wb_cons fun σ r => by
    refine (ps_try_only (tb := fun Wx D σ H => ∀ pn xe, Takes (X.tr pn xe) Wx → wB (X.tr pn xe) body D σ H) (ts := fun _ _ _ => tRet (tC (.bl false))) (Wout := fun _ _ _ _ => False) hs hf hc takes0
      (fun Wx pn xe tk _ => ⟨fun pins s σ H D I h => (h pn xe tk).run _ pins s I⟩) (fun a oe cls d pn _ _ => pss_one (ps_ret pe_bl))).w ?_
    intro pn xe tk
    refine hb pn xe _ tk good_tr (fun cls d σ U e1 p1 => ⟨true, by rw [g.hK]; exact e1, fun _ a _ => ?_, fun z => Bool.noConfusion z⟩) σ r
    exact ⟨_, U, rfl, .bl false, p1⟩
end
end Pk
set_option Elab.async false
set_option linter.all false
set_option maxRecDepth 100000
set_option maxHeartbeats 4000000
/-! defs that show values: the stack's guards are known to be none -/
namespace L2
open PySem PySem.Spec PyProof.Rows
/-- as FnOk, where nothing is being shown -/
structure GOk (P : Program) (w : World) (K : PySem.W.Frag) (mg : Str → Option Value) (base : Heap) (k : Nat) (f : Addr) (fd : FuncData) (ps : List Str) (sp : Sp) : Prop where
  len : ∀ vs H Q E, sp vs H Q E → vs.length = ps.length
  go : ∀ (A : Around) (outer : List Env) (s : Shared) (H : Hp) (args : Args) (us : List Value) (vs : List V) (Q : VK) (E : XK), Room k A → A.guards = some [] → Env0 P w K mg base A outer s H → BindsTo s fd args (ps.zip us) → Vals vs us → sp vs H Q E →
    codeAny (model P w) A (.call (.ref f) args) (CR CX0 outer P w H s Q E) s
section
variable {P : Program} {w : World} {K : PySem.W.Frag} {mg : Str → Option Value} {base : Heap} {k : Nat} {f : Addr} {fd : FuncData} {N ps : List Str} {sp : Sp} {x qual : Str} {st : Stmt}
theorem Fun.gok (F : Fun K x qual st f fd) (S : FnScope N ps (defScope st)) (len : ∀ vs H Q E, sp vs H Q E → vs.length = ps.length)
    (body : ∀ (cdv : Value) (A : Around) (outer : List Env) (s : Shared) (H : Hp) (vs : List V) (Q : VK) (E : XK), Room k (A.deeper (envOfC qual (defScope st) s.heap.objs.size f cdv)) → A.guards = some [] → sp vs H Q E →
      ∃ t, PSs (cxOf CX0 P w K mg base N qual (defScope st) f cdv A outer s H E).nox (defBody st) t ∧ t { nx := fun _ H' => Q .non H', rt := Q } (start N vs) H) : GOk P w K mg base (k + 1) f fd ps sp := by
  obtain ⟨oc, od, kV, doc, pm, an, cdv, ct, osl, rfl, lk, hcd⟩ := F.ex
  refine ⟨len, fun A outer s H args us vs Q E hr hgd e0 hb r hsp => ?_⟩
  have hl := len _ _ _ _ hsp
  have up : ∀ b o, base.get? b = some o → s.heap.get? b = some o := fun b o e => (e0.bs b o e).1
  have KX : K.In s.heap := e0.mod.kin.keeps up
  have lim : s.heap.NoLimit := e0.mod.nolimit.keeps up
  refine codeAny_call_function hr.depth (KX _ _ lk) rfl S.co S.gen rfl (PySem.W.codeRec_of KX hcd) (hb _ _ _ _ (wpAny_newFunctionEnv_cells S.kind (fun ⟨n, v⟩ hy => (S.par n (List.of_mem_zip hy).1).elim .inl fun q => .inr ⟨q, PySem.W.cellsFrom_some _ _ _ (.inl q)⟩) fun env he s1 xx => ?_))
  subst he
  refine ⟨lim.keeps xx.toInCall.keep, codeAny_func ?_⟩
  obtain ⟨t, ht, hq⟩ := body cdv A outer s H vs Q E (hr.deeper _) hgd hsp
  have I : Inv (cxOf CX0 P w K mg base N qual (defScope st) f cdv A outer s H E) [] (start N vs) H s1 := inv_start S hr.hd e0 hl r xx
  refine wpAny_mono (ht.nox.run [] s1 (start N vs) H _ I hq) (fun fl s' hs => ?_) fun e s' hs => hs
  cases fl with
  | ret u =>
    obtain ⟨v, σ', H', J, rv, q⟩ := hs
    exact ⟨v, H', J.os, J.bare, J.base, J.hok, rv, q⟩
  | next =>
    obtain ⟨σ', H', J, q⟩ := hs
    exact ⟨V.non, H', J.os, J.bare, J.base, J.hok, rfl, q⟩
  | brk =>
    obtain ⟨_, _, _, q⟩ := hs
    exact False.elim q
  | cont =>
    obtain ⟨_, _, _, q⟩ := hs
    exact False.elim q
end
section
variable {X : Cx} {k : Nat} {f : Addr} {fd : FuncData} {ps : List Str} {sp : Sp} {x : Str} {e : Expr} {es : List Expr} {t : TA} {p pos : Pos}
theorem pe_callG (F : GOk X.prog X.w X.K X.mg X.base k f fd ps sp) (hr : Room k X.A) (hgd : X.A.guards = some []) (hg : Gl X x) (hm : X.mg x = some (.ref f)) (hk : PySem.W.keepIn X.K (.ref f) = true) (hb : Binds X.K fd ps [])
    (ha : PA X (e :: es) t) (hdb : (x == ("__debug__" : Str)) = false := by decide) (he : starEach (e :: es) X.env = (false, eval e X.env) :: starEach es X.env := by rfl) (hpl : (backTo pos (starEach es X.env)).any (·.1) = false := by rfl) :
    PE X (.Call (.Name x p) (e :: es) [] pos) (tCall sp [] (fun _ _ _ => False) t) := by
  refine ⟨fun pins s σ H Q I h => wpAny_Call_Name_kw (ld_glob I hg hm (PySem.W.callWith_K (h₀ := X.base) I.ok.mod.kin hk (thn (ha.run pos pins s σ H _ I h) fun us s1 ⟨vs, H1, I1, r, q⟩ => ⟨I1.kIn, ?_⟩) he hpl) hdb)⟩
  have q : sp (vs ++ []) H1 Q (fun _ _ _ => False) := q
  rw [List.append_nil] at q
  have hl : us.length = ps.length := r.length.symm.trans (F.len _ _ _ _ q)
  have b := hb s1 us I1.kIn (by rw [List.append_nil]; exact hl)
  rw [List.append_nil] at b
  refine wpAny_call (codeAny_mono (F.go X.A X.stack s1 H1 ⟨us, []⟩ us vs Q (fun _ _ _ => False) hr hgd I1.env0 b r q) fun rr s' hq => ?_)
  cases rr with
  | error er => exact (pass0 pins σ H1 s1 er s' I1 hq)
  | ok fl =>
    cases fl with
    | ret u => exact I1.after hq
    | next => exact False.elim hq
    | brk => exact False.elim hq
    | cont => exact False.elim hq
end
end L2
set_option Elab.async false
set_option linter.all false
set_option maxRecDepth 100000
set_option maxHeartbeats 4000000
namespace Pk
open PySem PySem.Spec L2
open PyProof.Rows hiding St
/-- data that repr shows -/
structure Shw (d : PyData) : Prop where
  nd : noD d = true
  sh : d.showable = true
  dep : d.depth ≤ 60
  len : d.shown.length ≤ sizeLine
  form : d = .none ∨ ∃ ds, d = .tuple ds ∨ d = .list ds
mutual
theorem noD_has : ∀ d : PyData, noD d = true → d.hasDict = false
  | .none, _ => by simp only [PyData.hasDict]
  | .bool _, _ => by simp only [PyData.hasDict]
  | .int _, _ => by simp only [PyData.hasDict]
  | .str _, _ => by simp only [PyData.hasDict]
  | .list xs, h => by
    simp only [PyData.hasDict]
    exact noDs_has xs h
  | .tuple xs, h => by
    simp only [PyData.hasDict]
    exact noDs_has xs h
  | .dict _, h => by cases h
theorem noDs_has : ∀ ds : List PyData, noDs ds = true → PyData.hasDictAll ds = false
  | [], _ => by simp only [PyData.hasDictAll]
  | d :: ds, h => by
    have h' : noD d = true ∧ noDs ds = true := by simpa [noDs] using h
    simp only [PyData.hasDictAll]
    rw [noD_has d h'.1, noDs_has ds h'.2] <;> rfl
end
def rRepr (K : PySem.W.Frag) : List V → Hp → VK → Prop := fun xs H Q => ∃ v d, xs = [v] ∧ Dp K H v d ∧ Shw d ∧ Q (.str d.shown) H
theorem cr_repr {X : Cx} (hg : X.A.guards = some []) (hu : X.A.units + 200 < cLine) : CallR X (.builtin "repr") (rRepr X.K) := by
  intro pins s σ H xs us Q I r h
  obtain ⟨v, d, rfl, hd, S, q⟩ := h
  obtain ⟨u, rfl, rv⟩ := vals1 r
  rcases S.form with rfl | ⟨ds, e⟩
  · cases hd
    obtain rfl : u = Value.none := rv
    exact call_repr_gives (typeIs_none s) PySem.F.slot_NoneType_repr PySem.F.entry_NoneType_repr (PySem.F.args_NoneType_repr_1 _) gives_none_repr ⟨.str _, H, I.tok _, ⟨_, rfl⟩, q⟩
  · obtain ⟨as, rd⟩ := Dp.reads I d v u hd rv
    obtain ⟨a, ea⟩ : ∃ a, u = .ref a := by
      rcases e with rfl | rfl
      · cases rd; exact ⟨_, rfl⟩
      · cases rd; exact ⟨_, rfl⟩
    subst ea
    refine repr_of_reads' rd S.sh (fun hx => absurd hx (by rw [noD_has d S.nd]; decide)) hg (by have := S.dep; omega) (fun _ _ e => e) (fun h' u' tk k => ?_) S.len
    exact ⟨.str d.shown, H, I.kept (t' := tk) k, ⟨_, rfl⟩, q⟩
section
variable {K : PySem.W.Frag} {X : Cx} [g : Good K X] {δ : Sd} {W : Wd} {e : Expr} {pos p : Pos} {d : PyData}
theorem ev_repr (hgd : X.A.guards = some []) (S : Shw d) (ha : EvE K X δ e W d) (hg : Gl X "repr" := by rfl) (he : starEach [e] X.env = (false, eval e X.env) :: starEach [] X.env := by rfl) : EvE K X δ (.Call (.Name "repr" p) [e] [] pos) W (.str d.shown) :=
  ev_blt (cr_repr hgd (by have := g.room.un; omega)) (by simp) (by decide +kernel) (ea_cons ha ea_nil he) (fun U vs l rs Q k => by
    obtain ⟨v, rfl, rv⟩ := rs.one_inv
    exact ⟨v, d, rfl, by rw [g.hK]; exact dp_up U.ex (rv.dp S.nd), S, k _ U (Le.refl U) (.str _)⟩) hg (by decide) (by decide) he rfl
end
/-! a def that shows values -/
def CalG (P : Program) (w : World) (K : PySem.W.Frag) (mg : Str → Option Value) (base : Heap) (j : Nat) (x : Str) (ps : List Str) (sp : Sp) : Prop :=
  ∃ (f : Addr) (fd : FuncData), mg x = some (.ref f) ∧ PySem.W.keepIn K (.ref f) = true ∧ Binds K fd ps [] ∧ GOk P w K mg base j f fd ps sp
section
variable {P : Program} {w : World} {K : PySem.W.Frag} {mg : Str → Option Value} {base : Heap} {N ps : List Str} {x : Str} {st : Stmt} {k : Nat} {sp : Sp}
theorem cal_genG (T : At K mg x st) (hb : ∀ {f : Addr} {fd : FuncData}, Fun K x x st f fd → Binds K fd ps []) (S : FnScope N ps (defScope st)) (B : Bn mg) (hl : ∀ vs H Q E, sp vs H Q E → vs.length = ps.length)
    (body : ∀ f cdv A outer s H E, let X := FX P w K mg base N x st f cdv A outer s H E; Good K X → Room k X.A → X.A.guards = some [] → ∀ vs Q, sp vs H Q E → Keeps K X N st vs H Q) : CalG P w K mg base (k + 1) x ps sp := by
  obtain ⟨f, fd, h1, F⟩ := T
  refine ⟨f, fd, h1, F.kp, hb F, F.gok S hl fun cdv A outer s H vs Q E hr hgd h => ⟨_, pb_w _ _, ?_⟩⟩
  exact (body f cdv A outer s H E ⟨rfl, rfl, S.nd, hr.mono (Nat.zero_le _), B.bn⟩ hr hgd vs Q h).run
end
section
variable {K : PySem.W.Frag} {X : Cx} [g : Good K X] {δ : Sd} {W : Wd} {e : Expr} {es : List Expr} {pos : Pos} {d : PyData} {j : Nat} {x : Str} {ps : List Str}
theorem we_callGG {sp : Sp} {ds : List PyData} {p : Pos} {Post : PyData → Wd → Prop} (C : CalG X.prog X.w X.K X.mg X.base j x ps sp) (hr : Room j X.A) (hgd : X.A.guards = some []) (ha : EvA K X δ (e :: es) W ds)
    (h : ∀ U vs, Le W U → RpL K U.G vs ds → ∀ (Q : VK) (E : XK), (∀ v d Z, Sub U.G Z.G → Rp K Z.G v d → Post d Z → Q v Z.H) → sp vs U.H Q E) (hg : Gl X x := by rfl)
    (hdb : (x == ("__debug__" : Str)) = false := by decide) (he : starEach (e :: es) X.env = (false, eval e X.env) :: starEach es X.env := by rfl) (hpl : (backTo pos (starEach es X.env)).any (·.1) = false := by rfl) :
    WE K X δ (.Call (.Name x p) (e :: es) [] pos) W Post := fun σ r Q q => by
  obtain ⟨f, fd, h1, h2, h3, h4⟩ := C
  exact (pe_callG h4 hr hgd hg h1 h2 h3 (pa_w X _) hdb he hpl).w (ha W (Le.refl W) σ r _ fun vs Z l rs => by
    rw [List.append_nil]
    exact h Z vs l rs Q _ fun v d Y gu rv p => q v d Y (l.g.tr gu) rv p)
end
/-- the same data twice: True -/
def SpLike (K : PySem.W.Frag) : Sp := fun vs H Q _ => ∃ (W : Wd) (d : PyData), W.H = H ∧ RpL K W.G vs [d, d] ∧ Shw d ∧ ∀ U, Le W U → Q (.bl true) U.H
theorem ev_eqSame {K : PySem.W.Frag} {X : Cx} [g : Good K X] {δ : Sd} {W : Wd} {a b : Expr} {pos : Pos} {x : Str} (ha : EvE K X δ a W (.str x)) (hb : EvE K X δ b W (.str x)) : EvE K X δ (.Compare a [.Eq] [b] pos) W (.bool true) :=
  ev_cmp op_eq ha hb (nomark _) fun U v u l rv ru Q q => by
    obtain rfl := rv.str_inv
    obtain rfl := ru.str_inv
    refine ⟨rfl, ?_⟩
    rw [decide_eq_true rfl]
    exact q _ U (Le.refl U) (.bl _)
section
variable {P : Program} {w : World} {K : PySem.W.Frag} {mg : Str → Option Value} {base : Heap}
theorem c_like (T : At K mg "_law_like" s_L_like) (B : Bn mg) : CalG P w K mg base 1 "_law_like" p_L_like (SpLike K) := by
  refine cal_genG T b_L_like sc_L_like B (fun vs H Q E h => ?_) fun f cdv A outer s H E => ?_
  · obtain ⟨W, d, _, rs, _⟩ := h
    exact rs.len
  intro X gX hr hgd vs Q h
  obtain ⟨W, d, rfl, rs, S, q⟩ := h
  refine ⟨W, [d, d], fun d' U => d' = .bool true ∧ Le W U, rfl, rs, fun v d' U ⟨e1, l⟩ rv => ?_, ?_⟩
  · subst e1
    rw [rv.bool_inv]
    exact q U l
  exact wb_ret (ev_eqSame (ev_repr hgd S (ev_v 0)) (ev_repr hgd S (ev_v 1))) fun U l => ⟨rfl, l⟩
end
end Pk
set_option Elab.async false
set_option linter.all false
set_option maxRecDepth 100000
set_option maxHeartbeats 4000000
namespace Pk
open PySem PySem.Spec L2
open PyProof.Rows hiding St
theorem filt_empty {α β : Type} (l : List α) (p : α → Bool) (f : α → β) : (!((l.filter p).map f).isEmpty) = l.any p := by
  induction l with
  | nil => rfl
  | cons a l ih =>
    rw [List.filter_cons, List.any_cons]
    cases h : p a with
    | true => simp
    | false => simpa using ih
theorem any_not_all {α : Type} (l : List α) (p : α → Bool) : l.any p = !(l.all fun x => !p x) := by
  induction l with
  | nil => rfl
  | cons a l ih => rw [List.any_cons, List.all_cons, ih]; cases p a <;> rfl
theorem all_take {α : Type} {l : List α} {i : Nat} {x : α} (h : l[i]? = some x) (f : α → Bool) : (l.take (i + 1)).all f = ((l.take i).all f && f x) := by
  rw [List.take_add_one, h, List.all_append] <;> simp
theorem all_false {α : Type} {l : List α} {i : Nat} {x : α} (h : l[i]? = some x) {f : α → Bool} (hf : f x = false) : l.all f = false := by
  rw [List.all_eq_false]
  exact ⟨x, List.mem_of_getElem? h, by rw [hf]; decide⟩
def okP (n : Nat) (ps : List Pr) (p : Pr) : Bool := (List.range n).all fun z => !(hasB ps (p.2, (z : Int)) && !hasB ps (p.1, (z : Int)))
theorem chain_eq (n : Nat) (ps : List Pr) : chainB n ps = ps.all (okP n ps) := rfl
section
variable {K : PySem.W.Frag} {X : Cx} [g : Good K X] {δ : Sd} {W U : Wd} {a b c e : Expr} {es : List Expr} {pos : Pos} {d d1 d2 : PyData}
/-- xs != [], xs == [] for a list -/
theorem et_some {ds : List PyData} {p : Pos} (ha : EvE K X δ a W (.list ds)) (n1 : Plain (.list ds)) : EvT K X δ (.Compare a [.NotEq] [.List [] p] pos) W (!ds.isEmpty) := EvT.cast (et_neD ha (ev_lst ea_nil) n1 plain_nilL) (by rw [eqv_nilL])
theorem ev_none' {ds : List PyData} {p : Pos} (ha : EvE K X δ a W (.list ds)) (n1 : Plain (.list ds)) : EvE K X δ (.Compare a [.Eq] [.List [] p] pos) W (.bool ds.isEmpty) := EvE.cast (ev_eqD ha (ev_lst ea_nil) n1 plain_nilL) (by rw [eqv_nilL])
/-- (a, b) in pairs -/
theorem et_inP {ps : List Pr} {i j : Int} {k : Nat} {pt : Pos} (ha : EvE K X δ a W (.int i)) (hb : EvE K X δ b W (.int j)) (hc : EvE K X δ c W (psD ps)) (hst : starEach [a, b] X.env = (false, eval a X.env) :: starEach [b] X.env := by rfl) (hst2 : starEach [b] X.env = (false, eval b X.env) :: starEach [] X.env := by rfl)
    (hm : behindInMarks .In c = false := by with_unfolding_all rfl) : EvT K X δ (.Compare (.Tuple [a, b] k pt) [.In] [c] pos) W (hasB ps (i, j)) :=
  EvT.cast (et_in (.t _) (ev_tup (ea_cons ha (ea_cons hb ea_nil hst2) hst)) hc (pl_plain (pl_pD (i, j))) (pl_plain (pl_psL ps)) hm) (has_any ps (i, j))
theorem et_niP {ps : List Pr} {i j : Int} {k : Nat} {pt : Pos} (ha : EvE K X δ a W (.int i)) (hb : EvE K X δ b W (.int j)) (hc : EvE K X δ c W (psD ps)) (hst : starEach [a, b] X.env = (false, eval a X.env) :: starEach [b] X.env := by rfl) (hst2 : starEach [b] X.env = (false, eval b X.env) :: starEach [] X.env := by rfl)
    (hm : behindInMarks .NotIn c = false := by with_unfolding_all rfl) : EvT K X δ (.Compare (.Tuple [a, b] k pt) [.NotIn] [c] pos) W (!hasB ps (i, j)) :=
  EvT.cast (et_notIn (.t _) (ev_tup (ea_cons ha (ea_cons hb ea_nil hst2) hst)) hc (pl_plain (pl_pD (i, j))) (pl_plain (pl_psL ps)) hm) (by rw [← has_any ps (i, j)]; rfl)
end
theorem pl_list_of {n : Nat} {ds : List PyData} (h : ∀ d ∈ ds, pl n d = true) (hn : n + 1 ≤ 64 := by decide) : Plain (.list ds) := pl_plain (pl_list h) hn
theorem pl_pick {n m : Nat} {f : Nat → PyData} {p : Nat → Bool} (h : ∀ i, pl n (f i) = true) (hn : n + 1 ≤ 64 := by decide) : Plain (.list (((List.range m).filter p).map f)) := pl_list_of (n := n) (fun d hd => by
  obtain ⟨i, _, rfl⟩ := List.mem_map.mp hd
  exact h i) hn
theorem pl_getD {n : Nat} {ds : List PyData} (h : ∀ d ∈ ds, pl n d = true) (i : Nat) : pl n (ds.getD i .none) = true := by
  rw [List.getD_eq_getElem?_getD]
  cases e : ds[i]? with
  | none =>
    show pl n .none = true
    simp [pl, PyData.canLay0, PyData.depth]
  | some d => exact h d (List.mem_of_getElem? e)
theorem any_range {α : Type} (l : List α) (x0 : α) (p : α → Bool) : ((List.range l.length).any fun i => p (l.getD i x0)) = l.any p := by
  rw [Bool.eq_iff_iff, List.any_eq_true, List.any_eq_true]
  constructor
  · rintro ⟨i, hi, h⟩
    have hi' := List.mem_range.mp hi
    rw [List.getD_eq_getElem?_getD, List.getElem?_eq_getElem hi'] at h
    exact ⟨_, List.getElem_mem hi', h⟩
  · rintro ⟨x, hx, h⟩
    obtain ⟨i, hi, rfl⟩ := List.mem_iff_getElem.mp hx
    refine ⟨i, List.mem_range.mpr hi, ?_⟩
    rw [List.getD_eq_getElem?_getD, List.getElem?_eq_getElem hi]
    exact h
section
variable {P : Program} {w : World} {K : PySem.W.Frag} {mg : Str → Option Value} {base : Heap}
theorem c_Lis_order (T : At K mg "_law_is_order" s_L_is_order) (B : Bn mg) (C1 : Cal P w K mg base CX0 1 "_law_whole" p_L_whole (SpP K R_whole)) (C3 : Cal P w K mg base CX0 3 "_law_is_pair" p_L_is_pair (SpP K R_is_pair)) : Cal P w K mg base CX0 4 "_law_is_order" p_L_is_order (SpP K R_Lis_order) := by
  refine cal_pure T b_L_is_order sc_L_is_order B (fun ds d h => ?_) fun f cdv A outer s H E => ?_
  · obtain ⟨a, rfl, _⟩ := h
    rfl
  intro X gX hr W ds d h
  obtain ⟨v, rfl, hT, rfl⟩ := h
  refine wb_when (et_w (ew_or (u := (match v with | .tuple ds => !decide ((ds.length : Int) = 2) | _ => false) || (!(match v with | .tuple (d :: _) => wholeD d 16 | _ => false) || !(match v with | .tuple [_, d] => isTup d | _ => false))) (et_not (et_val (ev_isT (ev_v 0)))) fun h => ?_)) (fun h1 U l => ?_) fun h1 U l => ?_
  · rcases tup_cases v with ⟨ds, rfl⟩ | h2
    · refine ew_or (et_neI (ev_len (.t _) (ev_v 0)) ev_int) fun h3 => ?_
      obtain ⟨x, y, rfl⟩ : ∃ x y, ds = [x, y] := by
        have h5 := of_decide_eq_true (by simpa using h3 : decide ((ds.length : Int) = 2) = true)
        rcases ds with _ | ⟨x, _ | ⟨y, _ | ⟨z, r⟩⟩⟩ <;> simp at h5
        · exact ⟨x, y, rfl⟩
        · omega
      exact ew_or (et_not (et_val (ev_call C1 (hr.mono (by decide)) (ea_cons (ev_ix (i := 0) (.t _) (ev_v 0) ev_int rfl) (ea_cons ev_int ea_nil)) ⟨x, 16, rfl, rfl⟩))) fun h4 => ew_or1 (et_not (et_val (ev_isT (ev_ix (i := 1) (.t _) (ev_v 0) ev_int rfl))))
    · rw [h2] at h; cases h
  · refine wb_ret ev_bl fun Z l2 => ⟨?_, l.tr l2⟩
    rcases order_cases v with ⟨n, ds, rfl⟩ | ⟨_, h2⟩
    · have h5 : (!wholeD (.int n) 16) = true := by simpa [isTup] using h1
      show PyData.bool false = PyData.bool (decide (0 ≤ n) && (decide (n ≤ 16) && _))
      rw [← Bool.and_assoc, show (decide (0 ≤ n) && decide (n ≤ 16)) = false from Bool.not_eq_true' _ |>.mp h5, Bool.false_and]
    · rw [h2]
  obtain ⟨n, ds, rfl, n0, n16⟩ : ∃ (n : Int) (ds : List PyData), v = .tuple [.int n, .tuple ds] ∧ 0 ≤ n ∧ n ≤ 16 := by
    rcases tup_cases v with ⟨ds, rfl⟩ | h2
    · rw [Bool.or_eq_false_iff, Bool.or_eq_false_iff, Bool.or_eq_false_iff] at h1
      have h5 := of_decide_eq_true (by simpa using h1.2.1 : decide ((ds.length : Int) = 2) = true)
      rcases ds with _ | ⟨x, _ | ⟨y, _ | ⟨z, r⟩⟩⟩ <;> simp at h5
      · have h6 : wholeD x 16 = true := by simpa using h1.2.2.1
        have h7 : isTup y = true := by simpa using h1.2.2.2
        obtain ⟨i, rfl, a1, a2⟩ := whole_int h6
        rcases tup_cases y with ⟨ds, rfl⟩ | h8
        · exact ⟨i, ds, rfl, a1, a2⟩
        · rw [h8] at h7; cases h7
      · omega
    · rw [h2] at h1; cases h1
  obtain ⟨hlen, hpl⟩ := hT _ _ rfl
  have ed : orderB (.tuple [.int n, .tuple ds]) = (ds.all (pairD · n) && (ascB (ds.map prOf) && chainB n.toNat (ds.map prOf))) := by
    show (decide (0 ≤ n) && (decide (n ≤ 16) && _)) = _
    rw [decide_eq_true n0, decide_eq_true n16, Bool.true_and, Bool.true_and]
  rw [ed]
  refine wb_asgT (ev_v 0) (tg_tup (tgs_cons (tg_name 1) (tgs_cons (tg_name 2) tgs_nil)) rfl) fun U2 l2 => ?_
  refine wb_when (t := !ds.all (pairD · n)) (EvT.cast (et_some (ev_lcNF [("_law_pair", 5)] 5 (fun i => !pairD (ds.getD i .none) n) (fun i => ds.getD i .none) (ei_t (ev_v 2)) (by omega) ?_ ?_) (pl_pick (n := 10) (pl_getD hpl))) ?_) (fun h2 U3 l3 => ?_) fun h2 U3 l3 => ?_
  · intro i d U hd l s H0 C cl fp gb
    rw [getD_some hd]
    exact et_not (et_val (ev_call C3 hr (ea_cons (ev_v 5) (ea_cons (ev_v 1) ea_nil)) ⟨d, n, rfl, rfl⟩))
  · intro i d U hd l s H0 C cl fp gb hp
    rw [getD_some hd]
    exact ev_v 5
  · rw [filt_empty, any_range ds .none (fun d => !pairD d n), any_not_all]
    congr 1
    congr 1
    funext x
    exact Bool.not_not _
  · refine wb_ret ev_bl fun Z l4 => ⟨?_, ((l.tr l2).tr l3).tr l4⟩
    rw [show ds.all (pairD · n) = false by simpa using h2, Bool.false_and]
  have hall : ds.all (pairD · n) = true := by simpa using h2
  have eds := psD_of hall
  rw [hall, Bool.true_and]
  generalize ds.map prOf = ps at eds ⊢
  subst eds
  have hps : ps.length ≤ 1000 := by simpa using hlen
  have sl2 : ∀ (δ' : Sd) (U' : Wd), δ'[2]? = some (some (.d (psD ps))) → True := fun _ _ _ => trivial
  refine wb_when (t := !ascB ps) (EvT.cast (et_some (ev_lcNF [("_law_k", 6)] 6 (fun i => !ltP (ps.getD i (0, 0)) (ps.getD (i + 1) (0, 0))) (fun i => .int (1 + (i : Int))) (ei_r2 ev_int (ev_len (.t _) (ev_v 2)) (by omega) (by rw [List.length_map]; omega)) (by rw [rngD_len]; omega) ?_ ?_) (pl_pick (n := 0) fun i => pl_int _ 0)) ?_) (fun h3 U4 l4 => ?_) fun h3 U4 l4 => ?_
  · intro i d U hd l s H0 C cl fp gb
    obtain ⟨hi, rfl⟩ := rngD_at hd
    rw [List.length_map] at hi
    have hi1 : i < ps.length := by omega
    have hi2 : i + 1 < ps.length := by omega
    exact et_not (et_ltT (ns := [(ps.getD i (0, 0)).1, (ps.getD i (0, 0)).2]) (ms := [(ps.getD (i + 1) (0, 0)).1, (ps.getD (i + 1) (0, 0)).2]) (ev_ix (i := i) (.t _) (ev_v 2) (EvE.cast (ev_sub (ev_v 6) ev_int) (by congr 1; omega)) (pD_at hi1))
      (ev_ix (i := i + 1) (.t _) (ev_v 2) (EvE.cast (ev_v 6) (by congr 1; omega)) (pD_at hi2)))
  · intro i d U hd l s H0 C cl fp gb hp
    obtain ⟨hi, rfl⟩ := rngD_at hd
    exact ev_v 6
  · rw [filt_empty, rngD_len, List.length_map, any_not_all]
    unfold ascB
    rw [show ((ps.length : Int) - 1).toNat = ps.length - 1 by omega]
    congr 1
    congr 1
    funext x
    exact Bool.not_not _
  · refine wb_ret ev_bl fun Z l5 => ⟨?_, (((l.tr l2).tr l3).tr l4).tr l5⟩
    rw [show ascB ps = false by simpa using h3, Bool.false_and]
  rw [show ascB ps = true by simpa using h3, Bool.true_and, chain_eq]
  have LW : Le W U4 := ((l.tr l2).tr l3).tr l4
  refine wb_for (ei_t (ev_v 2)) (fun i δ1 U => (∃ a b : Option Sl, δ1 = [some (.d (.tuple [.int n, psD ps])), some (.d (.int n)), some (.d (psD ps)), a, b, none, none, none]) ∧ (ps.take i).all (okP n.toNat ps) = true ∧ Le W U) (fun U lu => ⟨⟨none, none, rfl⟩, rfl, LW.tr lu⟩) ?_ ?_
  · rintro i d δ1 U hd ⟨⟨a, b, rfl⟩, hk, lw⟩ Z lz
    have hi : i < ps.length := by simpa using (List.getElem?_eq_some_iff.mp hd).1
    rw [pD_at hi] at hd
    obtain rfl := Option.some.inj hd
    have hpi : ps[i]? = some (ps.getD i (0, 0)) := by rw [List.getD_eq_getElem?_getD, List.getElem?_eq_getElem hi] <;> rfl
    refine ⟨_, _, tg_tup (tgs_cons (tg_name 3) (tgs_cons (tg_name 4) tgs_nil)) rfl, ?_⟩
    refine wb_when (t := !okP n.toNat ps (ps.getD i (0, 0))) (EvT.cast (et_some (ev_lcNF [("_law_z", 7)] 7 (fun z => hasB ps ((ps.getD i (0, 0)).2, (z : Int)) && !hasB ps ((ps.getD i (0, 0)).1, (z : Int))) (fun z => .int (z : Int)) (ei_r1 (ev_v 1) (by omega)) (by rw [rngN_len]; omega) ?_ ?_) (pl_pick (n := 0) fun i => pl_int _ 0)) ?_) (fun h4 U5 l5 => ?_) fun h4 U5 l5 => ?_
    · intro z d U hd l s H0 C cl fp gb
      obtain ⟨hz, rfl⟩ := rngN_at hd
      exact et_w (ew_and (et_inP (ev_v 4) (ev_v 7) (ev_v 2)) fun _ => ew_and1 (et_niP (ev_v 3) (ev_v 7) (ev_v 2)))
    · intro z d U hd l s H0 C cl fp gb hp
      obtain ⟨hz, rfl⟩ := rngN_at hd
      exact ev_v 7
    · rw [filt_empty, rngN_len, any_not_all]
      rfl
    · refine wb_ret ev_bl fun Z2 l6 => ⟨?_, ((lw.tr lz).tr l5).tr l6⟩
      rw [all_false hpi (by simpa using h4)]
    · refine wb_nil ⟨l5.g, ⟨_, _, rfl⟩, ?_, (lw.tr lz).tr l5⟩
      rw [all_take hpi, hk, show okP n.toNat ps (ps.getD i (0, 0)) = true by simpa using h4] <;> rfl
  · rintro δ1 U ⟨⟨a, b, rfl⟩, hk, lw⟩
    rw [List.length_map, List.take_length] at hk
    exact wb_ret ev_bl fun Z l6 => ⟨by rw [hk], lw.tr l6⟩
end
end Pk
set_option Elab.async false
set_option linter.all false
set_option maxRecDepth 100000
set_option maxHeartbeats 4000000
/-! lists of lists that are filled; lists that may change, read -/
namespace Pk
open PySem PySem.Spec L2
open PyProof.Rows hiding St
/-- D: a list of the lists as, all of which may change -/
structure NewL (W U : Wd) (D : Addr) (as : List Addr) : Prop where
  d : U.H D = some (.lst (as.map V.ref))
  dg : U.G D = none
  dn : W.H D = none
  nd : as.Nodup
  el : ∀ a ∈ as, U.H a = some (.lst []) ∧ U.G a = none ∧ W.H a = none ∧ a ≠ D
theorem Le.some {W U : Wd} (l : Le W U) {a : Addr} (h : U.H a = none) : W.H a = none := by
  cases q : W.H a with
  | none => rfl
  | some o => rw [l.h a o q] at h; cases h
theorem NewL.up {W U Z : Wd} {D : Addr} {as : List Addr} (n : NewL W U D as) (l : Le U Z) : NewL W Z D as :=
  ⟨l.h _ _ n.d, l.fr _ (by rw [n.d]; simp) n.dg, n.dn, n.nd, fun a ha => let ⟨e1, e2, e3, e4⟩ := n.el a ha; ⟨l.h _ _ e1, l.fr _ (by rw [e1]; simp) e2, e3, e4⟩⟩
section
variable {K : PySem.W.Frag} {X : Cx} [g : Good K X] {δ : Sd} {W : Wd} {tg iter e : Expr} {scope : Scope} {pos : Pos} {rest : List Stmt} {P : Po} {d : PyData}
theorem lists_read {kd : Bool} {vs : List Nat} {ds : List PyData} {lp : Pos} (hi : EvI kd K X δ tg iter W ds) (hsz : ds.length < 1000000)
    (ht : ∀ d, ∃ (δ2 : Sd) (is : List Nat), (∀ s H0 C cl fp, Good K (BX X scope s H0 C cl fp) → TgD kd K (BX X scope s H0 C cl fp) (wipeD δ vs) tg d δ2 is) ∧ (∀ i ∈ is, i ∈ vs)) :
    ∀ σ, SRep K W.G σ δ → ∀ Q : VK, (∀ D as U, Le W U → NewL W U D as → as.length = ds.length → Q (.ref D) U.H) → tLc (wI X tg iter) (bG X scope tg) (bTs X scope []) (bE X scope (.List [] lp)) vs σ W.H Q := fun σ r Q q => by
  refine hi W (Le.refl W) σ r _ fun It0 Z0 l0 wk => ?_
  intro D hD
  have hWD : W.H D = none := l0.some hD
  refine ⟨fun i m H1 => m = ds.length - i ∧ i ≤ ds.length ∧ ∃ (U : Wd) (as : List Addr), H1 = U.H ∧ Le W U ∧ Sub Z0.G U.G ∧ NewL W U D as ∧ as.length = i,
    ⟨ds.length, by simp, Nat.zero_le _, Z0.put D (.lst []) (Z0.gnone hD), [], rfl, Wd.put_le l0 hWD, Sub.rfl', ⟨upd_same, Z0.gnone hD, hWD, List.nodup_nil, fun a ha => absurd ha (by simp)⟩, rfl⟩, ?_⟩
  rintro i m H1 ⟨rfl, hle, U, as, rfl, lU, sg, n, hl⟩
  obtain ⟨w1, w2⟩ := wk i U sg
  by_cases hlt : i < ds.length
  · obtain ⟨go, yl⟩ := w1 ds[i] (List.getElem?_eq_getElem hlt)
    refine .inr ⟨go, fun H2 => ∃ (U : Wd) (as : List Addr), H2 = U.H ∧ Le W U ∧ Sub Z0.G U.G ∧ NewL W U D as ∧ as.length = i + 1, fun H2 z => ⟨ds.length - (i + 1), by omega, rfl, hlt, z⟩, fun x H2 hy => ?_⟩
    obtain ⟨Z, lz, rfl, rx⟩ := yl x H2 hy
    obtain ⟨δ2, is, ht, his⟩ := ht ds[i]
    have sz : Sub W.G Z.G := (lU.tr lz).g
    intro s H0 C cl fp
    refine ht s H0 C cl fp good_bx Z.G Z.H _ x Z.ex ((r.up sz).wipe vs) rx _ fun σ' r' w' => ⟨(w' vs his).trans (wipe_wipe vs), ?_⟩
    intro s1 H1 C1 cl1 fp1
    refine wts_nil (K := K) (X := BX X scope s1 H1 C1 cl1 fp1) (δ := δ2) (P := fun b V => b = true ∧ Z = V) ⟨rfl, rfl⟩ σ' r' _ fun b V _ ⟨eb, ev⟩ => ?_
    subst eb ev
    rw [if_pos rfl]
    intro s2 H2 C2 cl2 fp2
    refine (pe_lst (X := BX X scope s2 H2 C2 cl2 fp2) pa_nil).w ⟨Nat.zero_le _, fun p hp => ?_⟩
    have nZ := n.up lz
    have hpW : W.H p = none := (lU.tr lz).some hp
    have hpD : p ≠ D := fun z => by rw [z, nZ.d] at hp; cases hp
    have hpa : p ∉ as := fun ha => by rw [(nZ.el p ha).1] at hp; cases hp
    have gp : Z.G p = none := Z.gnone hp
    refine ⟨as.map V.ref, by show upd Z.H p (.lst []) D = _; rw [upd_ne hpD.symm]; exact nZ.d, szl (by rw [List.length_map]; omega), ((Z.put p (.lst []) gp).put D (.lst ((as ++ [p]).map V.ref)) nZ.dg), as ++ [p], ?_, Wd.put_le (Wd.put_le (lU.tr lz) hpW) hWD, sg.tr lz.g, ⟨upd_same, nZ.dg, hWD, ?_, fun a ha => ?_⟩, by rw [List.length_append, hl] <;> rfl⟩
    · show upd (upd Z.H p (.lst [])) D _ = upd (upd Z.H p (.lst [])) D _
      rw [List.map_append] <;> rfl
    · rw [List.nodup_append]
      exact ⟨nZ.nd, by simp, fun a ha b hb => by rw [List.mem_singleton.mp hb]; exact fun e => hpa (e ▸ ha)⟩
    · rcases List.mem_append.mp ha with ha | ha
      · obtain ⟨e1, e2, e3, e4⟩ := nZ.el a ha
        refine ⟨?_, e2, e3, e4⟩
        show upd (upd Z.H p (.lst [])) D _ a = _
        rw [upd_ne e4, upd_ne (fun e : a = p => hpa (by rw [← e]; exact ha))]
        exact e1
      · rw [List.mem_singleton.mp ha]
        refine ⟨?_, gp, hpW, hpD⟩
        show upd (upd Z.H p (.lst [])) D _ p = _
        rw [upd_ne hpD, upd_same]
  · have e : i = ds.length := by omega
    subst e
    exact .inl ⟨w2 (Nat.le_refl _), q D as U lU n hl⟩
/-- y = [[] for x in ..] -/
theorem wb_setLists (i : Nat) (own : List (Str × Nat)) {kd : Bool} {ds : List PyData} {y : Str} {py spos lp : Pos} (hi : EvI kd K X δ tg iter W ds) (hsz : ds.length < 1000000)
    (ht : ∀ d, ∃ (δ2 : Sd) (is : List Nat), (∀ s H0 C cl fp, Good K (BX X scope s H0 C cl fp) → TgD kd K (BX X scope s H0 C cl fp) (wipeD δ (own.map (·.2))) tg d δ2 is) ∧ (∀ i ∈ is, i ∈ own.map (·.2)))
    (h : ∀ D as U, Le W U → NewL W U D as → as.length = ds.length → WB K X (δ.set i (some (.v (.ref D)))) rest U P) (hy : X.N[i]? = some y := by rfl) (hyl : X.env.scope.names.lookup y = some .local := by rfl)
    (hsw : swapsWith (.ListComp (.List [] lp) [⟨tg, iter, [], 0⟩] scope pos) (some (.Name y py)) spos.line X.env = pure true := by exact sw_true rfl rfl rfl (by kernel_rfl)) (ok : BlkOk X.N X.env.scope scope own := by exact blkOk_by (by kernel_rfl)) (hs : ∀ x, foldedSetIterable iter X.env x = pure x := by intro _; rfl) :
    WB K X δ (.Assign [.Name y py] (.ListComp (.List [] lp) [⟨tg, iter, [], 0⟩] scope pos) spos :: rest) W P :=
  wb_cons fun σ r => (ps_setLc g.calm g.nd hy hyl hsw (pi_w X tg iter) ok (pg_b tg) (pts_b []) (pe_b (.List [] lp)) hs).w (lists_read hi hsz ht σ r _ fun D as U l n hl => ⟨_, U, rfl, SRep.set (s := .v (.ref D)) (r.up l.g) rfl i, h D as U l n hl⟩)
/-- xs[k].append(e), xs a list of lists -/
theorem wb_appIx (i : Nat) {x : Str} {ix : Expr} {px sp apos cpos : Pos} {D a : Addr} {as : List Addr} {k : Nat} {us : List V} (hD : W.H D = some (.lst (as.map V.ref))) (hk : as[k]? = some a) (ha : W.H a = some (.lst us)) (hg : W.G a = none) (hz : us.length < 1000000)
    (hix : EvE K X δ ix W (.int (k : Int))) (he : EvE K X δ e W d) (h : ∀ U v, Le W U → (hg' : U.G a = none) → Rp K U.G v d → WB K X δ rest (U.put a (.lst (us ++ [v])) hg') P) (hi : δ[i]? = some (some (.v (.ref D))) := by rfl)
    (hN : X.N[i]? = some x := by rfl) (hv : Vis X.env.scope x := by first | exact Or.inl rfl | exact Or.inr (Or.inl rfl) | exact Or.inr (Or.inr rfl))
    (hd : (x == ("__debug__" : Str)) = false := by decide) (hcd : (x == ("__classdict__" : Str)) = false := by decide) (hs0 : PlainIx ix := by exact fun _ _ => rfl)
    (hbase : attributeBase (.Subscript (.Name x px) ix sp) "append" X.env (eval (.Subscript (.Name x px) ix sp) X.env) = eval (.Subscript (.Name x px) ix sp) X.env := by rfl)
    (hfew : ((backTo cpos (starEach [e] X.env)).all (fun x => !x.1) && (backToKw cpos (keywordEach [] X.env)).all (fun x => x.1.isSome)
      && decide ([e].length + ([] : List Keyword).length + (if ([] : List Keyword).isEmpty then 0 else 1) < 30)) = true := by rfl)
    (hline : (apos.endLine == cpos.line) = true := by rfl) (hs : starEach [e] X.env = (false, eval e X.env) :: starEach [] X.env := by rfl) (hplain : (backTo cpos (starEach [] X.env)).any (·.1) = false := by rfl)
    (hsw : swapsWith (.Call (.Attribute (.Subscript (.Name x px) ix sp) "append" apos) [e] [] cpos) none pos.line X.env = pure false := by rfl) :
    WB K X δ (.Expr (.Call (.Attribute (.Subscript (.Name x px) ix sp) "append" apos) [e] [] cpos) pos :: rest) W P :=
  wb_cons fun σ r => by
    obtain ⟨v, e1, e2⟩ := r.at_ i _ hi
    obtain rfl : v = .ref D := e2
    refine (ps_expr (pe_bm PySem.F.plainAttrs_list PySem.F.slot_list_append PySem.F.type_list_append mt_append (pe_ix ix_seq (pe_var hN hv hd hcd) (pe_w X ix) hs0) (pa_cons (pe_w X e) pa_nil hs) hbase hfew hline hs hplain) hsw).w ?_
    refine ⟨.ref D, e1, hix W (Le.refl W) σ r _ fun v U l1 rv => ?_⟩
    have hD1 := l1.h _ _ hD
    have ha1 := l1.h _ _ ha
    have hat : atI (as.map V.ref) (k : Int) = some (V.ref a) := atI_nat (by rw [List.getElem?_map, hk] <;> rfl)
    refine .inl ⟨D, _, k, _, rfl, rv.int_inv, SqL.of hD1, hat, .inl ⟨rfl, us, SqL.of ha1⟩, he U l1 σ (r.up l1.g) _ fun v2 U2 l2 rv2 => ?_⟩
    have l := l1.tr l2
    have hg' : U2.G a = none := l.fr a (by rw [ha]; simp) hg
    exact ⟨a, us, v2, rfl, rfl, l.h a _ ha, szl hz, δ, U2.put a (.lst (us ++ [v2])) hg', rfl, r.up l.g, h U2 v2 l hg' rv2⟩
end
end Pk
set_option Elab.async false
set_option linter.all false
set_option maxRecDepth 100000
set_option maxHeartbeats 4000000
/-! dict(zip(t, u)) of two tuples -/
namespace PkZ
open PySem RZ
open PySem.Sem (wp)
section
variable {P : Program} {w : World} {A : Around} {E : Value → Shared → Prop} {s : Shared} {z TI TO T j1 j2 t1 t2 : Addr} {f : Bool} {oT : Obj} {n1 n2 : Nat} {us vs : Array Value}
/-- what zip's walk is over: two tuples, at these places of theirs -/
structure ZW (h : Heap) (TI j1 j2 t1 t2 : Addr) (n1 n2 : Nat) (us vs : Array Value) : Prop where
  ti : IsPair h TI (.ref j1) (.ref j2)
  a : h.IsTupleIter j1 t1 n1
  b : h.IsTupleIter j2 t2 n2
  c : h.IsTuple t1 us
  d : h.IsTuple t2 vs
theorem ZW.next {h g : Heap} (D : ZipApart z TI TO j1 j2 t1 t2) (Z : ZW h TI j1 j2 t1 t2 n1 n2 us vs) {m1 m2 : Nat} (ka : g.IsTupleIter j1 t1 m1) (kb : g.IsTupleIter j2 t2 m2) (k : ∀ c o, c ≠ z → c ≠ TO → c ≠ j1 → c ≠ j2 → h.get? c = some o → g.get? c = some o) : ZW g TI j1 j2 t1 t2 m1 m2 us vs :=
  ⟨k _ _ D.TIz D.TITO D.TIi1 D.TIi2 Z.ti, ka, kb, Z.c.at fun o e => k _ o D.l1z D.l1TO D.l1i1 D.l1i2 e, Z.d.at fun o e => k _ o D.l2z D.l2TO D.l2i1 D.l2i2 e⟩
theorem held_item {x y : Value} {Q : Value → Shared → Prop} (D : ZipApart z TI TO j1 j2 t1 t2) (hz : IsZipHeld s.heap z TI TO T f) (hT : s.heap.get? T = some oT) (Z : ZW s.heap TI j1 j2 t1 t2 n1 n2 us vs) (hx : us[n1]? = some x) (hy : vs[n2]? = some y)
    (hQ : ∀ g, IsZipHeld g z TI TO T true → g.IsTupleIter j1 t1 (n1 + 1) → g.IsTupleIter j2 t2 (n2 + 1) → IsPair g s.heap.objs.size x y → (∀ c o, c ≠ z → c ≠ j1 → c ≠ j2 → s.heap.get? c = some o → g.get? c = some o) → Q (.ref s.heap.objs.size) { s with heap := g }) :
    wpAny (model P w) A (Builtin.«zip.__next__» ⟨[.ref z], []⟩) (fun fin s' => ∃ v, fin = .done (.ret v) ∧ Q v s') E s := by
  show wpAny (model P w) A (field (.ref z) 2 >>= _) _ E s
  refine wpAny_bind (wpAny_field hz rfl (x := .bool false) rfl ?_)
  show wpAny (model P w) A (field (.ref z) 3 >>= _) _ E s
  refine wpAny_bind (wpAny_field hz rfl (x := .ref TI) rfl (wpAny_bind (wpAny_seqItems Z.ti rfl ?_)))
  show wpAny (model P w) A (Builtin.SmallTypes.ownedTupleIsFree (.ref z) >>= _) _ E s
  refine wpAny_bind (wpAny_tupleHeld_zip hz hT fun g1 z1 b1 => ?_)
  simp only [Bool.false_eq_true, if_false]
  refine wpAny_bind ?_
  rw [← Array.forIn_toList, List.forIn_cons]
  refine wpAny_bind (wpAny_bind (wpAny_holding ?_))
  refine wpAny_bind (nextOf_tuple_item (s := { s with heap := g1 }) (Z.a.extBut b1.extBut D.i1z) (Z.c.extBut b1.extBut D.l1z) hx fun g2 a2 b2 => wpAny_pure (wpAny_pure ?_))
  simp only [List.forIn_cons, List.forIn_nil]
  refine wpAny_bind (wpAny_bind (wpAny_holding ?_))
  refine wpAny_bind (nextOf_tuple_item (s := { s with heap := g2 }) ((Z.b.extBut b1.extBut D.i2z).extBut b2.extBut D.i12.symm) ((Z.d.extBut b1.extBut D.l2z).extBut b2.extBut D.l2i1) hy fun g3 a3 b3 => wpAny_pure (wpAny_pure (wpAny_pure ?_)))
  show wpAny (model P w) A (newTuple [x, y] >>= _) _ E _
  refine wpAny_bind (wpAny_newTuple (wpAny_pure ⟨_, rfl, ?_⟩))
  have hsz : g3.objs.size = s.heap.objs.size := b3.1.trans (b2.1.trans b1.1)
  have z3 : IsZipHeld g3 z TI TO T true := b3.extBut _ _ D.i2z.symm (b2.extBut _ _ D.i1z.symm z1)
  have up : ∀ c o, c ≠ z → c ≠ j1 → c ≠ j2 → s.heap.get? c = some o → g3.get? c = some o := fun c o q1 q2 q3 e => b3.extBut _ _ q3 (b2.extBut _ _ q2 (b1.extBut _ _ q1 e))
  have a2' : g3.IsTupleIter j1 t1 (n1 + 1) := a2.extBut b3.extBut D.i12
  show Q (.ref g3.objs.size) _
  have hp : IsPair (g3.push { cls := .type "tuple", data := .seq #[x, y] }) g3.objs.size x y := Heap.get?_push_size _ rfl
  rw [hsz] at hp ⊢
  exact hQ _ (Heap.get?_push_of_some _ z3) (a2'.at fun o e => Heap.get?_push_of_some _ e) (a3.at fun o e => Heap.get?_push_of_some _ e) hp fun c o q1 q2 q3 e => Heap.get?_push_of_some _ (up c o q1 q2 q3 e)
theorem held_end {Q : Fin → Shared → Prop} (hh : A.handled = none) (D : ZipApart z TI TO j1 j2 t1 t2) (hz : IsZipHeld s.heap z TI TO T f) (hT : s.heap.get? T = some oT) (Z : ZW s.heap TI j1 j2 t1 t2 n1 n2 us vs) (he : us[n1]? = none ∨ vs[n2]? = none)
    (hE : ∀ g e, (∀ c o, c ≠ z → c ≠ j1 → c ≠ j2 → s.heap.get? c = some o → g.get? c = some o) → (∃ o, g.get? e = some o ∧ o.cls = .type "StopIteration") → E (.ref e) { s with heap := g }) : wpAny (model P w) A (Builtin.«zip.__next__» ⟨[.ref z], []⟩) Q E s := by
  show wpAny (model P w) A (field (.ref z) 2 >>= _) _ E s
  refine wpAny_bind (wpAny_field hz rfl (x := .bool false) rfl ?_)
  show wpAny (model P w) A (field (.ref z) 3 >>= _) _ E s
  refine wpAny_bind (wpAny_field hz rfl (x := .ref TI) rfl (wpAny_bind (wpAny_seqItems Z.ti rfl ?_)))
  show wpAny (model P w) A (Builtin.SmallTypes.ownedTupleIsFree (.ref z) >>= _) _ E s
  refine wpAny_bind (wpAny_tupleHeld_zip hz hT fun g1 z1 b1 => ?_)
  simp only [Bool.false_eq_true, if_false]
  refine wpAny_bind ?_
  rw [← Array.forIn_toList, List.forIn_cons]
  refine wpAny_bind (wpAny_bind (wpAny_holding ?_))
  by_cases hx : n1 < us.size
  · have hy : vs[n2]? = none := he.resolve_left fun q => by rw [Array.getElem?_eq_getElem hx] at q; cases q
    refine wpAny_bind (nextOf_tuple_item (s := { s with heap := g1 }) (Z.a.extBut b1.extBut D.i1z) (Z.c.extBut b1.extBut D.l1z) (Array.getElem?_eq_getElem hx) fun g2 a2 b2 => wpAny_pure (wpAny_pure ?_))
    simp only [List.forIn_cons, List.forIn_nil]
    refine wpAny_bind (wpAny_bind (wpAny_holding ?_))
    refine wpAny_bind (nextOf_tuple_end (s := { s with heap := g2 }) hh ((Z.b.extBut b1.extBut D.i2z).extBut b2.extBut D.i12.symm) ((Z.d.extBut b1.extBut D.l2z).extBut b2.extBut D.l2i1) hy fun g3 e b3 q => ?_)
    exact hE g3 e (fun c o q1 q2 q3 x => b3 _ _ q3 (b2.extBut _ _ q2 (b1.extBut _ _ q1 x))) q
  · refine wpAny_bind (nextOf_tuple_end (s := { s with heap := g1 }) hh (Z.a.extBut b1.extBut D.i1z) (Z.c.extBut b1.extBut D.l1z) (Array.getElem?_eq_none (Nat.le_of_not_lt hx)) fun g2 e b2 q => ?_)
    exact hE g2 e (fun c o q1 q2 _ x => b2 _ _ q2 (b1.extBut _ _ q1 x)) q
theorem next_held {x y : Value} {Q : Option Value → Shared → Prop} (D : ZipApart z TI TO j1 j2 t1 t2) (hz : IsZipHeld s.heap z TI TO T f) (hT : s.heap.get? T = some oT) (Z : ZW s.heap TI j1 j2 t1 t2 n1 n2 us vs) (hx : us[n1]? = some x) (hy : vs[n2]? = some y)
    (hQ : ∀ g, IsZipHeld g z TI TO T true → g.IsTupleIter j1 t1 (n1 + 1) → g.IsTupleIter j2 t2 (n2 + 1) → IsPair g s.heap.objs.size x y → (∀ c o, c ≠ z → c ≠ j1 → c ≠ j2 → s.heap.get? c = some o → g.get? c = some o) → Q (some (.ref s.heap.objs.size)) { s with heap := g }) :
    wpAny (model P w) A (pyNext (.ref z)) Q E s := by
  have ty : s.TypeIs (.ref z) "zip" := ⟨_, hz, rfl⟩
  unfold pyNext
  refine wpAny_bind (wpAny_attempt (wpAny_callSpecial?_slot (name := Str.ofString "__next__") ty F.slot_zip_next (wpAny_call_entry F.slot_zip_next ty F.entry_zip_next ?_ (F.args_zip_next_1 _))))
  exact held_item D hz hT Z hx hy fun g q1 q2 q3 q4 q5 => wpAny_pure (hQ g q1 q2 q3 q4 q5)
theorem next_held_end {Q : Option Value → Shared → Prop} (hh : A.handled = none) (D : ZipApart z TI TO j1 j2 t1 t2) (hz : IsZipHeld s.heap z TI TO T f) (hT : s.heap.get? T = some oT) (Z : ZW s.heap TI j1 j2 t1 t2 n1 n2 us vs) (he : us[n1]? = none ∨ vs[n2]? = none)
    (hQ : ∀ g, (∀ c o, c ≠ z → c ≠ j1 → c ≠ j2 → s.heap.get? c = some o → g.get? c = some o) → Q none { s with heap := g }) : wpAny (model P w) A (pyNext (.ref z)) Q E s := by
  have ty : s.TypeIs (.ref z) "zip" := ⟨_, hz, rfl⟩
  unfold pyNext
  refine wpAny_bind (wpAny_attempt (wpAny_callSpecial?_slot (name := Str.ofString "__next__") ty F.slot_zip_next (wpAny_call_entry F.slot_zip_next ty F.entry_zip_next (held_end hh D hz hT Z he fun g e k q => ?_) (F.args_zip_next_1 _))))
  obtain ⟨o, ho, hc⟩ := q
  exact wpAny_bind (wpAny_isInstance (T := "StopIteration") (b := true) ⟨o, ho, hc⟩ isSubtype_stop (wpAny_pure (hQ _ k)))
/-- zip(t, u) as an argument of dict -/
theorem argZip (z TI TO j1 j2 t1 t2 : Addr) (D : ZipApart z TI TO j1 j2 t1 t2) (us vs : Array Value) : PairArg P w "zip" z [z, TI, TO, j1, j2, t1, t2] [z, TO, j1, j2] (min us.size vs.size) (fun i k v => us[i]? = some k ∧ vs[i]? = some v)
    (fun h => IsZip h z TI TO .none ∧ (∃ a b, IsPair h TO a b) ∧ ZW h TI j1 j2 t1 t2 0 0 us vs) where
  type := fun s q => ⟨_, q.1, rfl⟩
  notDict := by decide
  keep := fun h g q k => ⟨k _ _ q.1, let ⟨a, b, e⟩ := q.2.1; ⟨a, b, k _ _ e⟩, ZW.next D q.2.2 (q.2.2.a.at fun o e => k _ o e) (q.2.2.b.at fun o e => k _ o e) fun c o _ _ _ _ e => k c o e⟩
  there := fun h q b hb => by
    obtain ⟨z0, ⟨a, c, o0⟩, ⟨ti, ⟨o1, e1, _⟩, ⟨o2, e2, _⟩, ⟨o3, e3, _⟩, ⟨o4, e4, _⟩⟩⟩ := q
    simp only [List.mem_cons, List.not_mem_nil, or_false] at hb
    rcases hb with rfl | rfl | rfl | rfl | rfl | rfl | rfl <;> first | exact ⟨_, z0⟩ | exact ⟨_, ti⟩ | exact ⟨_, o0⟩ | exact ⟨_, e1⟩ | exact ⟨_, e2⟩ | exact ⟨_, e3⟩ | exact ⟨_, e4⟩
  sub := fun b hb => by
    simp only [List.mem_cons, List.not_mem_nil, or_false] at hb ⊢
    rcases hb with h | h | h | h <;> simp [h]
  noKeys := fun A s Q E hA q h => getAttrOr_miss_zip q.1 rfl rfl rfl zip_no_keys (by decide +kernel) hA h
  iter := fun A s d Q E hA q hd hdf h => by
    obtain ⟨z0, ⟨a0, b0, o0⟩, Z0⟩ := q
    simp only [List.mem_cons, List.not_mem_nil, or_false, not_or] at hdf
    obtain ⟨dz, dTI, dTO, d1, d2, dt1, dt2⟩ := hdf
    refine wpAny_pyIter_zip z0 (h z [z, TO, j1, j2] (fun i g => ZW g TI j1 j2 t1 t2 i i us vs ∧ ((IsZip g z TI TO .none ∧ ∃ a b, IsPair g TO a b) ∨ ∃ T f oT, IsZipHeld g z TI TO T f ∧ g.get? T = some oT ∧ T ≠ z ∧ T ≠ j1 ∧ T ≠ j2 ∧ T ≠ d)) s.heap s.toks ?_
      ⟨Z0, .inl ⟨z0, a0, b0, o0⟩⟩ (fun _ _ e => e) fun b hb => .inl hb)
    refine ⟨fun hm => ?_, fun i g1 g2 st k => ?_, fun i s1 Q1 E1 hi st hds hQ => ?_, fun s1 Q1 E1 st hQ => ?_⟩
    · simp only [List.mem_cons, List.not_mem_nil, or_false] at hm
      rcases hm with e | e | e | e
      · exact dz e
      · exact dTO e
      · exact d1 e
      · exact d2 e
    · obtain ⟨⟨c1, c2, c3, c4, c5⟩, c6⟩ := st
      refine ⟨⟨k _ _ (Ne.symm dTI) c1, c2.at fun o e => k _ o (Ne.symm d1) e, c3.at fun o e => k _ o (Ne.symm d2) e, c4.at fun o e => k _ o (Ne.symm dt1) e, c5.at fun o e => k _ o (Ne.symm dt2) e⟩, ?_⟩
      rcases c6 with ⟨e1, a, b, e2⟩ | ⟨T, f, oT, e1, e2, r1, r2, r3, r4⟩
      · exact .inl ⟨k _ _ (Ne.symm dz) e1, a, b, k _ _ (Ne.symm dTO) e2⟩
      · exact .inr ⟨T, f, oT, k _ _ (Ne.symm dz) e1, k _ _ r4 e2, r1, r2, r3, r4⟩
    · obtain ⟨Z, c6⟩ := st
      have ex := Array.getElem?_eq_getElem (Nat.lt_of_lt_of_le hi (Nat.min_le_left us.size vs.size))
      have ey := Array.getElem?_eq_getElem (Nat.lt_of_lt_of_le hi (Nat.min_le_right us.size vs.size))
      have lt : ∀ {c o}, s1.heap.get? c = some o → s1.heap.objs.size ≠ c := fun e => Nat.ne_of_gt (Heap.lt_size e)
      have m1 : s1.heap.objs.size ≠ j1 := let ⟨_, e, _⟩ := Z.a; lt e
      have m2 : s1.heap.objs.size ≠ j2 := let ⟨_, e, _⟩ := Z.b; lt e
      rcases c6 with ⟨e1, a, b, e2⟩ | ⟨T, f, oT, e1, e2, r1, r2, r3, r4⟩
      · refine pyNext_zipT_item D e1 Z.ti e2 Z.a Z.b Z.c Z.d ex ey fun g b1 b2 b3 b4 b5 _ k => ?_
        exact hQ s1.heap.objs.size _ _ g s1.toks ⟨ex, ey⟩ (.inl ⟨_, b5, rfl, _, rfl⟩) ⟨Z.next D b3 b4 k, .inr ⟨s1.heap.objs.size, false, _, b1, b5, lt e1, m1, m2, Nat.ne_of_gt hds⟩⟩
          fun c o hc e => k c o (fun x => hc (by simp [x])) (fun x => hc (by simp [x])) (fun x => hc (by simp [x])) (fun x => hc (by simp [x])) e
      · refine next_held D e1 e2 Z ex ey fun g b1 b3 b4 b5 k => ?_
        exact hQ s1.heap.objs.size _ _ g s1.toks ⟨ex, ey⟩ (.inl ⟨_, b5, rfl, _, rfl⟩) ⟨Z.next D b3 b4 fun c o q1 _ q2 q3 e => k c o q1 q2 q3 e, .inr ⟨T, true, oT, b1, k _ _ r1 r2 r3 e2, r1, r2, r3, r4⟩⟩
          fun c o hc e => k c o (fun x => hc (by simp [x])) (fun x => hc (by simp [x])) (fun x => hc (by simp [x])) e
    · obtain ⟨Z, c6⟩ := st
      have hend : us[min us.size vs.size]? = none ∨ vs[min us.size vs.size]? = none := by
        by_cases hle : us.size ≤ vs.size
        · exact .inl (Array.getElem?_eq_none (by omega))
        · exact .inr (Array.getElem?_eq_none (by omega))
      rcases c6 with ⟨e1, a, b, e2⟩ | ⟨T, f, oT, e1, e2, r1, r2, r3, r4⟩
      · exact pyNext_zipT_end hA D e1 Z.ti e2 Z.a Z.b Z.c Z.d hend fun g k => hQ g s1.toks fun c o hc e => k c o (fun x => hc (by simp [x])) (fun x => hc (by simp [x])) (fun x => hc (by simp [x])) (fun x => hc (by simp [x])) e
      · exact next_held_end hA D e1 e2 Z hend fun g k => hQ g s1.toks fun c o hc e => k c o (fun x => hc (by simp [x])) (fun x => hc (by simp [x])) (fun x => hc (by simp [x])) e
end
end PkZ
set_option Elab.async false
set_option linter.all false
set_option maxRecDepth 100000
set_option maxHeartbeats 4000000
namespace L2
open PySem PySem.Spec PyProof.Rows PkZ
/-- a dict with tuple keys, filled in this order -/
def zipK (acc : List (List Key × V)) (kbs : List (List Key × Addr)) (ws : List V) : List (List Key × V) := (kbs.zip ws).foldl (fun acc q => putK acc q.1.1 q.2) acc
theorem zipK_len : ∀ (kbs : List (List Key × Addr)) (ws : List V) (acc : List (List Key × V)), (zipK acc kbs ws).length ≤ acc.length + kbs.length
  | [], ws, acc => by simp [zipK]
  | kb :: kbs, [], acc => by simp [zipK]
  | kb :: kbs, v :: ws, acc => by
    have h := zipK_len kbs ws (putK acc kb.1 v)
    have h2 := length_putK acc kb.1 v
    rw [List.length_cons]
    show (zipK (putK acc kb.1 v) kbs ws).length ≤ _
    omega
theorem zipK_rel {H : Hp} : ∀ {kbs : List (List Key × Addr)} {ws : List V} {us : List Value} {acc : List (List Key × V)} {xs : List (List Key × Addr × Value)}, Vals ws us → KT H acc xs → (∀ kb ∈ kbs, H kb.2 = some (.tup (kb.1.map kV))) →
    KT H (zipK acc kbs ws) (storedAllH xs (List.zipWith (fun kb u => (kb.1, kb.2, u)) kbs us))
  | [], ws, us, acc, xs, r, k, h => by simpa [zipK, storedAllH] using k
  | kb :: kbs, _, _, acc, xs, .nil, k, h => by simpa [zipK, storedAllH] using k
  | kb :: kbs, v :: ws, u :: us, acc, xs, .cons rv r, k, h => zipK_rel (kbs := kbs) (acc := putK acc kb.1 v) (xs := storedH xs kb.1 kb.2 u) r (k.put kb.1 (h kb List.mem_cons_self) rv) fun q hq => h q (List.mem_cons_of_mem _ hq)
section
variable {X : Cx} {e e2 : Expr} {ta : TA} {p p2 pos pos2 : Pos}
/-- dict(zip(e, e2)), two tuples of one length, the first one's items tuples of ints and texts -/
def tDictZip (K : PySem.W.Frag) (ta : TA) : TE := fun σ H Q => ta σ H fun vs H1 => ∃ (a b : Addr) (kbs : List (List Key × Addr)) (ws : List V), vs = [.ref a, .ref b] ∧ SqT K H1 a (kbs.map fun kb => V.ref kb.2) ∧ SqT K H1 b ws ∧ kbs.length = ws.length ∧
  (∀ kb ∈ kbs, H1 kb.2 = some (.tup (kb.1.map kV))) ∧ ∀ D, H1 D = none → Q (.ref D) (upd H1 D (.dT (zipK [] kbs ws)))
theorem valRefs {vs : List Addr} : ∀ {us : List Value}, Vals (vs.map V.ref) us → us = vs.map Value.ref := by
  induction vs with
  | nil => intro us r; cases r; rfl
  | cons v vs ih =>
    intro us r
    cases r with
    | cons r1 r2 =>
      have e1 := ih r2
      subst e1
      cases r1
      rfl
theorem pe_dictZip (hcalm : X.calm = true) (hu : X.A.units + 3 < cLine) (hd : Gl X "dict") (md : X.mg "dict" = none) (hg : Gl X "zip") (hm : X.mg "zip" = none) (ha : PA X [e, e2] ta)
    (hs : starEach [e, e2] X.env = (false, eval e X.env) :: starEach [e2] X.env := by rfl) (hpl : (backTo pos (starEach [e2] X.env)).any (·.1) = false := by rfl)
    (hs0 : starEach [.Call (.Name "zip" p) [e, e2] [] pos] X.env = (false, eval (.Call (.Name "zip" p) [e, e2] [] pos) X.env) :: starEach [] X.env := by rfl) (hpl0 : (backTo pos2 (starEach [] X.env)).any (·.1) = false := by rfl) :
    PE X (.Call (.Name "dict" p2) [.Call (.Name "zip" p) [e, e2] [] pos] [] pos2) (tDictZip X.K ta) := by
  refine ⟨fun pins s σ H Q I h => Call_ (ld_blt I hd md PyProof.Rows.boot_dict (PyProof.Rows.callWith_type1 ?_ hs0 hpl0))⟩
  rw [hs0]
  refine Calls.spliced_cons (Call_ (ld_blt I hg hm PyProof.Rows.boot_zip (PyProof.Rows.callWith_type1 (thn (ha.run pos pins s σ H _ I h) fun us s1 ⟨vs, H1, I1, r1, q1⟩ => ?_) hs hpl)))
  obtain ⟨a, b, kbs, ws, ev, hqa, hqb, hl, hk, q⟩ := q1
  subst ev
  cases r1 with
  | cons ra rr =>
    cases rr with
    | cons rb rn =>
      cases rn
      cases ra
      cases rb
      obtain ⟨its, rv, p1, hz1⟩ := I1.tuple hqa
      obtain ⟨its2, rv2, p2, _⟩ := I1.tuple hqb
      have e1 : its = (kbs.map fun kb => kb.2).map Value.ref := valRefs (vs := kbs.map fun kb => kb.2) (by rw [List.map_map]; exact rv)
      obtain ⟨o1, ho1, _⟩ := id p1
      obtain ⟨o2, ho2, _⟩ := id p2
      have D := PySem.W.ktu_apart s1.heap.objs.size a b (Heap.lt_size ho1) (Heap.lt_size ho2)
      refine RZ.call_zipT (show s1.heap.IsTuple a its.toArray from p1) (show s1.heap.IsTuple b its2.toArray from p2) fun h' hz hTI hTO h1 h2 hsz k1 => Calls.spliced_nil ?_
      have l2 : its2.length = kbs.length := rv2.length.symm.trans hl.symm
      have l1 : its.length = kbs.length := by rw [e1]; simp
      have hn : min its.toArray.size its2.toArray.size = kbs.length := by simp [l1, l2]
      refine call_dict_pairsH (s := { s1 with heap := h' }) (knd := tupleKind (mixKind X.prog X.w)) (ps := List.zipWith (fun kb u => (kb.1, kb.2, u)) kbs its2) (PkZ.argZip _ _ _ _ _ _ _ D its.toArray its2.toArray) (I.ok.hd hcalm) (tupleKind_room_in1 (A := X.A.in1) (by show X.A.units + 1 + 1 < _; omega))
        ⟨hz, ⟨_, _, hTO⟩, ⟨hTI, h1, h2, (show s1.heap.IsTuple a its.toArray from p1).at fun o e => k1 _ o e, (show s1.heap.IsTuple b its2.toArray from p2).at fun o e => k1 _ o e⟩⟩ ⟨by rw [hn, List.length_zipWith, l2, Nat.min_self], fun i key v hr => ?_⟩ (fun g kg x hx => ?_) (by rw [hn]; rw [List.length_map] at hz1; exact hz1) fun h2 tk hd' k2 => ?_
      · obtain ⟨r1, r2⟩ := hr
        have hi : i < kbs.length := by
          have z := (Array.getElem?_eq_some_iff.mp r1).1
          simpa [l1] using z
        refine ⟨kbs[i].1, kbs[i].2, ?_, ?_⟩
        · rw [List.getElem?_zipWith, List.getElem?_eq_getElem hi]
          have z : its2[i]? = some v := by simpa using r2
          rw [z]
        · have z : its[i]? = some key := by simpa using r1
          rw [e1, List.getElem?_map, List.getElem?_map, List.getElem?_eq_getElem hi] at z
          exact (Option.some.inj z).symm
      · obtain ⟨i, hi⟩ := List.mem_iff_getElem?.mp hx
        rw [List.getElem?_zipWith] at hi
        cases ek : kbs[i]? with
        | none => rw [ek] at hi; cases hi
        | some kb =>
          cases eu : its2[i]? with
          | none => rw [ek, eu] at hi; cases hi
          | some u =>
            rw [ek, eu] at hi
            obtain rfl := Option.some.inj hi
            obtain ⟨o, items, n, ho, hc, hdt, hi2⟩ := key_of I1.hok (hk kb (List.mem_of_getElem? ek))
            have lt : kb.2 < s1.heap.objs.size := Heap.lt_size ho
            refine ⟨o, items, n, kg _ _ (Nat.ne_of_lt (Nat.lt_of_lt_of_le lt (by rw [hsz]; omega))) (fun hm => ?_) (k1 _ _ ho), hc, hdt, hi2⟩
            have hm2 : kb.2 = s1.heap.objs.size + 4 ∨ kb.2 = s1.heap.objs.size + 3 ∨ kb.2 = s1.heap.objs.size ∨ kb.2 = s1.heap.objs.size + 1 := by simpa using hm
            rcases hm2 with z | z | z | z <;> (rw [z] at lt; first | exact Nat.lt_irrefl _ lt | exact absurd lt (Nat.not_lt_of_le (Nat.le_add_right _ _)))
      · have hD : s1.heap.objs.size ≤ h'.objs.size := by rw [hsz]; omega
        have nD : H1 h'.objs.size = none := I1.hok.fresh hD
        have rel := zipK_rel (H := H1) (kbs := kbs) rv2 (acc := []) (xs := []) .nil hk
        obtain ⟨o, es, ep, g1, g2, g3, g4, _, g5⟩ := hd'
        have up : ∀ b o, s1.heap.get? b = some o → h2.get? b = some o := fun b o e => k2 b o (fun hm => by
          have lt : b < s1.heap.objs.size := Heap.lt_size e
          have hm2 : b = s1.heap.objs.size + 4 ∨ b = s1.heap.objs.size + 3 ∨ b = s1.heap.objs.size ∨ b = s1.heap.objs.size + 1 := by simpa using hm
          rcases hm2 with z | z | z | z <;> (rw [z] at lt; first | exact Nat.lt_irrefl _ lt | exact absurd lt (Nat.not_lt_of_le (Nat.le_add_right _ _)))) (k1 b o e)
        refine ⟨.ref h'.objs.size, upd H1 h'.objs.size (.dT (zipK [] kbs ws)), I1.laid (t' := tk) (a := h'.objs.size) up hD ⟨?_, ?_, _, rel.keeps fun c ys ec => ?_, o, es, ep, g1, g2, g3, g4, g5⟩, rfl, q _ nD⟩
        · have z := zipK_len kbs ws []
          rw [List.length_nil, Nat.zero_add] at z
          rw [List.length_map] at hz1
          exact Nat.le_trans z hz1
        · exact beq_eq_false_iff_ne.mpr (Nat.ne_of_gt (Nat.lt_of_lt_of_le I1.big hD))
        · rw [upd_ne (ne_of_none ec nD)]
          exact ec
end
end L2
set_option Elab.async false
set_option linter.all false
set_option maxRecDepth 100000
set_option maxHeartbeats 4000000
/-! {k: v for t in xs}, the keys tuples of ints and texts -/
namespace L2
open PySem PySem.Spec PyProof.Rows
/-- D[k] = v within the comprehension, k a tuple -/
theorem put_dictT {X : Cx} {pins : List (Addr × Obj)} {σ : St} {H : Hp} {s : Shared} {E : Value → Shared → Prop} {D b : Addr} {kvs : List (List Key × V)} {k : List Key} {v : V} {r : Value} {Q : Unit → Shared → Prop} (hu : X.A.units + 1 < cLine) (I : Inv X pins σ H s) (hD : H D = some (.dT kvs))
    (hk : H b = some (.tup (k.map kV))) (hz : kvs.length < sizeLine) (rv : RelV v r) (h : ∀ s', Inv X pins σ (upd H D (.dT (putK kvs k v))) s' → Q () s') : wpAny (model X.prog X.w) X.A (dictSet D (.ref b) r) Q E s := by
  obtain ⟨z, hd, xs, rel, dd⟩ := dt_of I.hok hD
  have hl : (putK kvs k v).length ≤ sizeLine := by have := length_putK kvs k v; omega
  refine wpAny_dictSet_heap (hsz := by rw [← Paired.length rel]; exact z) (show X.A.units < cLine by omega) (key_of I.hok hk) dd fun g dd' sb => h _ ?_
  obtain ⟨o, es, ep, ho, g2, g3, g4, _, g5⟩ := dd'
  refine d_write I (by rw [hD]; exact True.intro) sb ⟨o, ho⟩ ⟨hl, hd, _, (rel.put k hk rv).keeps fun c ys ec => ?_, o, es, ep, ho, g2, g3, g4, g5⟩
  rw [upd_ne (ne_of ec hD (fun z => nomatch z))]
  exact ec
section
variable {X : Cx}
/-- the reading: D the new dict; each turn puts one entry -/
def tDcT (wi : TI) (g : TG) (tk tv : TE) (vs : List Nat) : TE := fun σ H Q => wi σ H fun It0 H1 => ∀ D, H1 D = none → ∃ B : Nat → Nat → Hp → Prop, (∃ m, B 0 m (upd H1 D (.dT []))) ∧ ∀ i m H2, B i m H2 →
  (It0.stop i H2 ∧ Q (.ref D) H2) ∨ (It0.go i H2 ∧ ∃ C : Hp → Prop, (∀ H3, C H3 → ∃ m', m' < m ∧ B (i + 1) m' H3) ∧ ∀ x H3, It0.yld i H2 x H3 → g x (wipe σ vs) H3 fun σ4 H4 => wipe σ4 vs = wipe σ vs ∧
    tk σ4 H4 fun y H5 => tv σ4 H5 fun z H6 => ∃ kvs k b, y = .ref b ∧ H6 b = some (.tup (k.map kV)) ∧ H6 D = some (.dT kvs) ∧ kvs.length < sizeLine ∧ C (upd H6 D (.dT (putK kvs k z))))
theorem pe_dcT {kx vx tg iter : Expr} {scope : Scope} {own : List (Str × Nat)} {pos : Pos} {wi : TI} {g : TG} {tk tv : TE} (hc : X.calm = true) (hu : X.A.units + 1 < cLine) (hN : X.N.Nodup) (hi : PI X tg iter wi) (ok : BlkOk X.N X.env.scope scope own)
    (hg : ∀ (s : Shared) (H : Hp) (C : Addr) (cl : List (Str × Addr)) (fp : List Addr), PG (X.blk s H scope (compEnvC scope cl C X.env) fp) tg g) (hk : ∀ (s : Shared) (H : Hp) (C : Addr) (cl : List (Str × Addr)) (fp : List Addr), PE (X.blk s H scope (compEnvC scope cl C X.env) fp) kx tk)
    (he : ∀ (s : Shared) (H : Hp) (C : Addr) (cl : List (Str × Addr)) (fp : List Addr), PE (X.blk s H scope (compEnvC scope cl C X.env) fp) vx tv) (hs : ∀ x, foldedSetIterable iter X.env x = pure x := by intro _; rfl) : PE X (.DictComp kx vx [⟨tg, iter, [], 0⟩] scope pos) (tDcT wi g tk tv (own.map (·.2))) := by
  refine ⟨fun pins s σ H Q J0 h => ?_⟩
  rw [arm_eval_DictComp]
  have bound : ∀ y ∈ scope.names, y.2 = .free → ∃ c, X.env.cells.lookup y.1 = some c := fun y hy e => J0.ok.has _ ((ok.free y hy e).elim .inl .inr)
  refine wpAny_comprehension_free (use := none) rfl hs (closure_ok bound) ok.kind (fun y hy e => by rw [ok.uniq y hy, e]) (thn (hi.run pins s σ H _ J0 h) fun xv a1 q1 => thn q1 fun itv a2 q2 => ?_)
  obtain ⟨it, fp, tn, It0, H2, e0, J2, Tu, w2, f2, q⟩ := q2
  subst e0
  refine wpAny_newObj_type (newEnv_comp ?_)
  have hDn : H2 a2.heap.objs.size = none := J2.hok.fresh (Nat.le_refl _)
  obtain ⟨B, ⟨m0, b0⟩, turn⟩ := q a2.heap.objs.size hDn
  have J3 : Inv X pins σ (upd H2 a2.heap.objs.size (.dT [])) ({ a2 with heap := a2.heap.push { cls := .type "dict", data := .dict #[] } } : Shared) := J2.laid (t' := a2.toks) (fun b o e => Heap.get?_push_of_some _ e) (Nat.le_refl _) (dt_empty a2.heap J2.big)
  generalize hD : a2.heap.objs.size = D at J3 b0 turn hDn
  generalize ha3 : ({ a2 with heap := a2.heap.push { cls := .type "dict", data := .dict #[] } } : Shared) = a3 at J3
  have hh3 : a3.heap = a2.heap.push { cls := .type "dict", data := .dict #[] } := by rw [← ha3]
  have fpz : ∀ b ∈ fp, b < a2.heap.objs.size := fun b hb => let ⟨o, e, _⟩ := Tu.obj _ _ w2 b hb; Heap.lt_size e
  have f3 : ∀ b ∈ fp, FpOk X pins (upd H2 D (.dT [])) b ∧ b < a3.heap.objs.size := fun b hb => by
    have lt := fpz b hb
    refine ⟨⟨?_, (f2 b hb).2⟩, by rw [hh3, Heap.size_push]; exact Nat.lt_succ_of_lt lt⟩
    rw [upd_ne (by rw [← hD]; exact Nat.ne_of_lt lt)]
    exact (f2 b hb).1
  have w3 : tn 0 a3.heap := Tu.keep _ _ _ w2 fun b _ o e => by rw [hh3]; exact Heap.get?_push_of_some _ e
  have J4 := block_start J3 ok hN f3
  have pg := hg a3 (upd H2 D (.dT [])) a3.heap.objs.size (cellsFrom (a3.heap.objs.size + 1) scope.names (cloFrom X.env.cells scope.names [])) fp
  have pk := hk a3 (upd H2 D (.dT [])) a3.heap.objs.size (cellsFrom (a3.heap.objs.size + 1) scope.names (cloFrom X.env.cells scope.names [])) fp
  have pv := he a3 (upd H2 D (.dT [])) a3.heap.objs.size (cellsFrom (a3.heap.objs.size + 1) scope.names (cloFrom X.env.cells scope.names [])) fp
  have nfp : ∀ b ∈ fp, (upd H2 D (.dT [])) b = none := fun b hb => (f3 b hb).1.1
  show codeAny _ _ (.compStart (.DictComp kx vx [⟨tg, iter, [], 0⟩] scope pos) 0 (.ref it) (.ref D) (compEnvC scope (cellsFrom (a3.heap.objs.size + 1) scope.names (cloFrom X.env.cells scope.names [])) a3.heap.objs.size X.env)) (compPost (model X.prog X.w) X.A X.xe none (EP X pins σ Q) (.ref D) a3.heap.objs.size)
    { a3 with heap := pushCells (a3.heap.push { cls := .type "dict", data := .dict #[] }) scope.names }
  generalize hce : compEnvC scope (cellsFrom (a3.heap.objs.size + 1) scope.names (cloFrom X.env.cells scope.names [])) a3.heap.objs.size X.env = ce at J4 pg pk pv ⊢
  have cL : ce.locals = a3.heap.objs.size := by subst hce; rfl
  generalize hH3 : upd H2 D (.dT []) = H3 at J3 J4 pg pk pv b0 nfp f3
  generalize ha4 : ({ a3 with heap := pushCells (a3.heap.push { cls := .type "dict", data := .dict #[] }) scope.names } : Shared) = a4 at J4 ⊢
  have w4 : tn 0 a4.heap := Tu.keep _ _ _ w3 fun b _ o e => by rw [← ha4]; exact pushCells_keeps _ _ _ _ (Heap.get?_push_of_some _ e)
  have still : ∀ {σ' : St} {H' : Hp} {a' : Shared}, Inv (X.blk a3 H3 scope ce fp) [] σ' H' a' → (∀ b ∈ fp, H' b = none) → ∀ b ∈ fp, FpOk (X.blk a3 H3 scope ce fp) [] H' b := fun {σ' H' a'} J' n b hb =>
    ⟨n b hb, (J'.ok.exf b hb).1, J'.ok.exfs b hb, .inl hb, fun x c e => (J'.ok.exf b hb).2 x c e, fun p hp => absurd (show p ∈ ([] : List (Addr × Obj)) ++ [] from hp) (by simp)⟩
  have loop : codeAny (model X.prog X.w) X.A (.compLoop (.DictComp kx vx [⟨tg, iter, [], 0⟩] scope pos) 0 (.ref it) (.ref D) ce) (compPost (model X.prog X.w) X.A X.xe none (EP X pins σ Q) (.ref D) a3.heap.objs.size) a4 := by
    refine compLoop_anyD (fun n a' => ∃ i H', Inv (X.blk a3 H3 scope ce fp) [] (wipe σ (own.map (·.2))) H' a' ∧ tn i a'.heap ∧ (∀ b ∈ fp, H' b = none) ∧ B i n H') ?_ m0 ⟨0, H3, J4, w4, nfp, b0⟩
    rintro n a5 ⟨i, H5, J5, w5, n5, b5⟩
    rcases turn i n H5 b5 with ⟨stop, qq⟩ | ⟨go, C, hC, step⟩
    · refine thnF (Tu.done (X.blk a3 H3 scope ce fp) rfl rfl rfl hc i [] a5 _ H5 (fun _ _ => False) J5 (still J5 n5) w5 stop) fun r a6 ⟨hr, J6⟩ => ?_
      subst hr
      have J7 : Inv X pins σ H5 a6 := J3.call' (ch := fp) J6.os J6.base J6.hok J6.bare fun b hb => ⟨(f3 b hb).1.2.2.2.1, (f3 b hb).1.2.1, (f3 b hb).1.2.2.2.2.1, (f3 b hb).1.2.2.2.2.2⟩
      have nC : H5 a3.heap.objs.size = none := by rw [← cL]; exact J6.free
      obtain ⟨m, hn, _⟩ := J6.loc
      have hn : a6.heap.Ns ce.locals m := hn
      rw [cL] at hn
      refine ⟨m, hn, fun h'' sb => ?_⟩
      obtain ⟨y0, y1, y2, y3, y4, y5⟩ := J3.fpOk (Nat.le_refl _) nC
      exact ⟨.ref D, H5, J7.turned (t' := a6.toks) (fun b o hb e => (sb.2 b hb).trans e) nC y1 y3 y4 y5, rfl, qq⟩
    · refine thnF (Tu.item (X.blk a3 H3 scope ce fp) rfl rfl rfl hc i [] a5 _ H5 (fun _ _ => False) J5 (still J5 n5) w5 go) fun r a6 ⟨u, hr, h6⟩ => ?_
      subst hr
      refine thnF h6 fun _ a7 ⟨x, H7, J7, r7, y7, w7, n7⟩ => ?_
      refine thnF (pg.run _ a7 _ H7 x u _ (J7.pinned (still J7 n7) (Tu.obj _ _ w7)) r7 (step x H7 y7)) fun _ a8 ⟨σ8, H8, J8, hw8, q8⟩ => ?_
      have fin : ∀ {a' : Shared} {H' : Hp}, Inv (X.blk a3 H3 scope ce fp) ([] ++ pinsAt fp a7.heap) σ8 H' a' → C H' → ∃ m, m < n ∧ ∃ i H', Inv (X.blk a3 H3 scope ce fp) [] (wipe σ (own.map (·.2))) H' a' ∧ tn i a'.heap ∧ (∀ b ∈ fp, H' b = none) ∧ B i m H' := fun {a' H'} J' nx => by
        obtain ⟨m', hm, b'⟩ := hC H' nx
        have pin' : ∀ b ∈ fp, ∀ o, a7.heap.get? b = some o → a'.heap.get? b = some o ∧ H' b = none := fun b hb o e =>
          let z := J'.pin (b, o) (List.mem_append_right _ (List.mem_append_right _ (mem_pinsAt hb e)))
          ⟨z.1, z.2.1⟩
        refine ⟨m', hm, i + 1, H', (J'.unpinned (pins := [])).weak (by rw [← hw8, wipe_length]) (fun j v e => ?_), Tu.keep _ _ _ w7 fun b hb o e => (pin' b hb o e).1, fun b hb => ?_, b'⟩
        · rw [← hw8] at e
          exact (wipe_some e).1
        · obtain ⟨o, e, _⟩ := Tu.obj _ _ w7 b hb
          exact (pin' b hb o e).2
      refine wpAny_pure ?_
      rw [if_pos rfl]
      refine thnF (pk.run _ a8 σ8 H8 _ J8 q8) fun z a10 ⟨yk, H10, J10, r10, q10⟩ => ?_
      refine thnF (pv.run _ a10 σ8 H10 _ J10 q10) fun z2 a11 ⟨yv, H11, J11, r11, kvs, k, b, ek, hb11, hD11, hz11, nx⟩ => ?_
      subst ek
      obtain rfl : z = Value.ref b := r10
      exact put_dictT (X := X.blk a3 H3 scope ce fp) hu J11 hD11 hb11 hz11 r11 fun a12 J12 => fin J12 nx
  exact codeAny_compStart_dict loop (Tu.self X.A 0 _ _ _ w4 loop)
end
end L2
set_option Elab.async false
set_option linter.all false
set_option maxRecDepth 100000
set_option maxHeartbeats 4000000
/-! enumerate(t) of a tuple -/
namespace PkE
open PySem
open Sem (wp)
open AutoSeq1 (wpAny_loadPart')
theorem new_enumT (l : Addr) (items : Array Value) : Meets (Builtin.«enumerate.__new__» ⟨[.type "enumerate", .ref l], []⟩) (fun _ R s => s.heap.IsTuple l items ∧
    R (.ok (.ret (.ref (s.heap.push { cls := .type "tuple_iterator", data := .fields #[.ref l, .int 0 0] }).objs.size)))
      { s with heap := (s.heap.push { cls := .type "tuple_iterator", data := .fields #[.ref l, .int 0 0] }).push { cls := .type "enumerate", data := .fields #[.none, .bool false, .ref s.heap.objs.size, rawInt 0, .none, .none] } }) :=
  .of_wp fun P w A R s h => by
    obtain ⟨hp, g, d, tk, os⟩ := s
    obtain ⟨hT, h⟩ := h
    have hsub := sub_enumerate
    obtain ⟨ot, ht, hc, n, hd⟩ := id hT
    have hT' : Heap.IsTuple (Shared.heap ⟨hp, g, d, tk, os⟩) l items := hT
    obtain ⟨oc, od, odt, osl⟩ := ot
    have hc' : oc = .type "tuple" := hc
    have hd' : odt = .seq items n := hd
    subst hc' hd'
    wp_walk using wpAny_loadPart' ht
    refine wpAny_stack_any fun st => wpAny_pure ?_
    split
    · rename_i c _ _ _ _ _
      by_cases hce : (c == Value.type "enumerate") = true
      · rw [hce]
        wp_walk using wpAny_loadPart' ht, wpAny_pyIter_tuple hT'
        exact ⟨_, rfl, h⟩
      · rw [Bool.eq_false_iff.mpr hce]
        wp_walk using wpAny_loadPart' ht, wpAny_pyIter_tuple hT'
        exact ⟨_, rfl, h⟩
    · wp_walk using wpAny_loadPart' ht, wpAny_pyIter_tuple hT'
      exact ⟨_, rfl, h⟩
section
variable {P : Program} {w : World} {A : Around} {E : Value → Shared → Prop} {s : Shared}
theorem call_enumT {l : Addr} {items : Array Value} {Q : Value → Shared → Prop} (hL : s.heap.IsTuple l items)
    (h : ∀ g, IsEnum g (s.heap.objs.size + 1) s.heap.objs.size 0 .none → g.IsTupleIter s.heap.objs.size l 0 → (∀ b o, s.heap.get? b = some o → g.get? b = some o) → Q (.ref (s.heap.objs.size + 1)) { s with heap := g }) : wpAny (model P w) A (call (.type "enumerate") [.ref l]) Q E s := by
  refine callType_new F.called_enumerate (by decide) (F.typeCall_enumerate_1 _) (F.newCall_enumerate_1 _) (fun obj => F.args_object_init_2 obj _) F.entry_enumerate_new (new_enumT l items) ⟨hL, ?_⟩
  have hz : (s.heap.push { cls := .type "tuple_iterator", data := .fields #[.ref l, .int 0 0] }).objs.size = s.heap.objs.size + 1 := Heap.size_push ..
  have he := Heap.get?_push_size (s.heap.push { cls := .type "tuple_iterator", data := .fields #[.ref l, .int 0 0] }) (o := { cls := .type "enumerate", data := .fields #[.none, .bool false, .ref s.heap.objs.size, rawInt 0, .none, .none] }) rfl
  show _ ∧ _
  rw [hz] at he ⊢
  exact ⟨⟨_, he, rfl⟩, h _ he ⟨_, Heap.get?_push_of_some _ (Heap.get?_push_size _ rfl), rfl, rfl⟩ fun b o x => Heap.get?_push_of_some _ (Heap.get?_push_of_some _ x)⟩
end
end PkE
namespace L2
open PySem PySem.Spec PyProof.Rows
/-- the tuple at a, its items in new pairs with their places -/
def IteT (K : PySem.W.Frag) (a : Addr) : It :=
  ⟨fun i H => ∃ (xs : List V) (x : V), SqT K H a xs ∧ xs[i]? = some x, fun i H v H' => ∃ T x, v = .ref T ∧ H T = none ∧ H' = upd H T (.tup [.int (i : Nat), x]) ∧ ∀ xs, SqT K H a xs → xs[i]? = some x, fun i H => ∃ xs : List V, SqT K H a xs ∧ xs.length ≤ i⟩
theorem turn_enumT {P : Program} {w : World} {K : PySem.W.Frag} {elts : List Expr} {kk : Nat} {tpos : Pos} (a e it : Addr) (hat : a ≠ it) (hne : e ≠ it) (hea : e ≠ a) :
    Turn P w K (.Tuple elts kk tpos) (IteT K a) [e, it] e (fun i h => (∃ old, IsEnum h e it ((i : Nat) : Int) old) ∧ h.IsTupleIter it a i) where
  mem := List.mem_cons_self
  obj := fun i h st b hb => by
    obtain ⟨⟨old, he⟩, ⟨o, ho, hc, hd⟩⟩ := st
    rcases List.mem_cons.mp hb with rfl | hb
    · exact ⟨_, he, fun v q => nomatch q⟩
    · rw [List.mem_singleton] at hb
      exact ⟨o, by rw [hb]; exact ho, fun v q => by rw [hd] at q; cases q⟩
  keep := fun i h h' st k => let ⟨⟨old, he⟩, hi⟩ := st; ⟨⟨old, k e (by simp) _ he⟩, hi.at fun o q => k it (by simp) o q⟩
  item := by
    intro X hP hw hK hc i pins s σ H E I hf st hg
    subst hP hw hK
    obtain ⟨⟨old, he⟩, hit⟩ := st
    obtain ⟨xs, x, hq, hx⟩ := hg
    obtain ⟨its, rv, p, hz⟩ := I.tuple hq
    obtain ⟨u, hu, ru⟩ := rv.get hx
    have hel : e < s.heap.objs.size := Heap.lt_size he
    have hil : it < s.heap.objs.size := by obtain ⟨_, q, _⟩ := hit; exact Heap.lt_size q
    have hi : i < its.toArray.size := by simpa using (List.getElem?_eq_some_iff.mp hu).1
    refine wpAny_pyNext_enum_itemD (Draws.tuple (A := X.A.in1) (I.ok.hd hc) it a hat its.toArray) he ⟨hit, p⟩ hi hne (by simp [hne, hea]) fun x2 g tk hx2 ho st2 hT _ hk => ?_
    have ex : x2 = u := by
      have z : its[i]? = some x2 := by simpa using hx2
      rw [hu] at z
      exact (Option.some.inj z).symm
    subst ex
    refine ⟨_, rfl, wpAny_letOwnedTupleGo_enum (s := { s with heap := g, toks := tk + 1 }) ho fun g2 he' sb => ?_⟩
    have hT2 : g2.get? s.heap.objs.size = some { cls := .type "tuple", data := .seq #[.int i tk, x2] } := (sb.2 _ (Nat.ne_of_gt hel)).trans hT
    have new : ObjOk X.prog X.w (upd H s.heap.objs.size (.tup [.int (i : Nat), x])) g2 s.heap.objs.size (.tup [.int (i : Nat), x]) := ⟨by show 2 ≤ sizeLine; decide, [.int i tk, x2], .cons ⟨_, rfl⟩ (.cons ru .nil), ⟨_, hT2, rfl, _, rfl⟩⟩
    have I1 : Inv X pins σ (upd H s.heap.objs.size (.tup [.int (i : Nat), x])) { s with heap := g2, toks := tk + 1 } :=
      I.turnedNew (ch := [e, it]) (fun b ob hb q => (sb.2 b (fun z => hb (by simp [z]))).trans (hk b ob (fun z => hb (by simp [z])) (fun z => hb (by simp [z])) q)) hf (Nat.le_refl _) new
    refine ⟨.ref s.heap.objs.size, _, I1, rfl, ⟨_, x, rfl, I.hok.fresh (Nat.le_refl _), rfl, fun ys hy => by rw [I.tuple_inj hy hq]; exact hx⟩, ⟨⟨x2, ?_⟩, st2.1.at fun o q => (sb.2 it (Ne.symm hne)).trans q⟩, fun b hb => ?_⟩
    · rw [show ((i + 1 : Nat) : Int) = (i : Int) + 1 by omega]
      exact he'
    · have hb' : b < s.heap.objs.size := by
        rcases List.mem_cons.mp hb with rfl | hb
        · exact hel
        · rw [List.mem_singleton] at hb
          rw [hb]; exact hil
      rw [upd_ne (Nat.ne_of_lt hb')]
      exact (hf b hb).1
  done := by
    intro X hP hw hK hc i pins s σ H E I hf st hg
    subst hP hw hK
    obtain ⟨⟨old, he⟩, hit⟩ := st
    obtain ⟨xs, hq, hx⟩ := hg
    obtain ⟨its, rv, p, hz⟩ := I.tuple hq
    obtain ⟨f0, f1, f2, f3, f4, f5⟩ := hf it (by simp)
    have hl := rv.length
    have hT : s.TypeIs (.ref e) "enumerate" := ⟨_, he, rfl⟩
    unfold pyNext
    refine wpAny_bind (wpAny_attempt (wpAny_callSpecial?_slot (name := PySem.Str.ofString "__next__") hT PySem.F.slot_enumerate_next (wpAny_call_entry PySem.F.slot_enumerate_next hT PySem.F.entry_enumerate_next ?_ (PySem.F.args_enumerate_next_1 _))))
    show wpAny _ _ (field (.ref e) 2 >>= _) _ _ s
    refine wpAny_bind (wpAny_field he rfl (x := .ref it) rfl (wpAny_bind (wpAny_nextOf_tuple_end (A := X.A.in1) (I.ok.hd hc) hit p (by simp; omega) fun g x eb hx' => ?_)))
    obtain ⟨o, ho, hcl⟩ := hx'
    exact wpAny_bind (wpAny_isInstance (T := "StopIteration") (b := true) ⟨o, ho, hcl⟩ isSubtype_stop (wpAny_pure ⟨rfl, I.turned (t' := s.toks) (fun b o hb q => eb b o hb q) f0 f1 f3 f4 f5⟩))
  self := fun A i s Q E st h => let ⟨⟨_, he⟩, _⟩ := st; wpAny_pyIter_enum he h
def iEnumT (K : PySem.W.Frag) (ta : TA) : TI := fun σ H R => ta σ H fun vs H1 => ∃ a xs, vs = [.ref a] ∧ SqT K H1 a xs ∧ R (IteT K a) H1
theorem pi_enumT {X : Cx} {e : Expr} {ta : TA} {p pos tpos : Pos} {elts : List Expr} {kk : Nat} (hg : Gl X "enumerate") (hm : X.mg "enumerate" = none) (ha : PA X [e] ta) (hs : starEach [e] X.env = [(false, eval e X.env)] := by rfl) : PI X (.Tuple elts kk tpos) (.Call (.Name "enumerate" p) [e] [] pos) (iEnumT X.K ta) := by
  refine ⟨fun pins s σ H R I h => Call_ (ld_blt I hg hm boot_enumerate (PyProof.Rows.callWith_type1 (thn (ha.run pos pins s σ H _ I h) fun us s1 ⟨vs, H1, I1, r1, a, xs, ex, hq, q⟩ => ?_) hs rfl))⟩
  subst ex
  cases r1 with
  | cons r rr =>
    cases rr
    cases r
    obtain ⟨its, rv, p', hz⟩ := I1.tuple hq
    obtain ⟨o1, ho1, _⟩ := id p'
    have la : a < s1.heap.objs.size := Heap.lt_size ho1
    refine PkE.call_enumT p' fun g he hit hk => wpAny_pyIter_enum he ?_
    have I2 : Inv X pins σ H1 { s1 with heap := g } := I1.kept (t' := s1.toks) hk
    refine ⟨s1.heap.objs.size + 1, [s1.heap.objs.size + 1, s1.heap.objs.size], _, _, H1, rfl, I2, turn_enumT a (s1.heap.objs.size + 1) s1.heap.objs.size (Nat.ne_of_lt la) (Nat.succ_ne_self _) (Nat.ne_of_gt (Nat.lt_succ_of_lt la)), ⟨⟨.none, he⟩, hit⟩, fun b hb => ?_, q⟩
    have hle : s1.heap.objs.size ≤ b := by
      rcases List.mem_cons.mp hb with rfl | hb
      · exact Nat.le_add_right _ _
      · rw [List.mem_singleton] at hb
        rw [hb]; exact Nat.le_refl _
    exact I1.fpOk hle (I1.hok.fresh hle)
end L2
namespace Pk
open PySem PySem.Spec L2
open PyProof.Rows hiding St
section
variable {K : PySem.W.Frag} {X : Cx} [g : Good K X] {δ : Sd} {W : Wd} {a b e : Expr} {es : List Expr} {pos : Pos}
theorem walk_enumT {G : Hp} {p : Addr} {vs : List V} {xs : List PyData} (h1 : SqT K G p vs) (r1 : RpL K G vs xs) : Walk true K (IteT K p) G (enumD xs) := fun i U s => by
  have k1 := U.ex.t (s.t h1)
  refine ⟨fun d hd => ?_, fun hi => ⟨vs, k1, by rw [enumD_len] at hi; rw [r1.len]; exact hi⟩⟩
  obtain ⟨x, hx, rfl⟩ := enumD_at hd
  obtain ⟨v, hv, rv⟩ := r1.at hx
  refine ⟨⟨vs, v, k1, hv⟩, fun z H' hz => ?_⟩
  obtain ⟨T, v', rfl, hT, rfl, f1⟩ := hz
  have e1 := f1 vs k1
  rw [hv] at e1
  obtain rfl := Option.some.inj e1
  exact ⟨U.add T _ hT, U.add_le hT, rfl, .inr ⟨rfl, T, _, _, rfl, rfl, upd_same, ((RpL.cons (.int _) (.cons rv .nil)).up s).up (U.add_le hT).g⟩⟩
theorem ei_enumT {elts : List Expr} {kk : Nat} {tpos p : Pos} {xs : List PyData} (ha : EvE K X δ a W (.tuple xs)) (hg : Gl X "enumerate" := by rfl) (he : starEach [a] X.env = (false, eval a X.env) :: starEach [] X.env := by rfl) :
    EvI true K X δ (.Tuple elts kk tpos) (.Call (.Name "enumerate" p) [a] [] pos) W (enumD xs) := fun U l σ r R q =>
  (pi_enumT hg (g.bn _ (by simp)) (pa_cons (pe_w X a) pa_nil he) he).w (ha U l σ r _ fun v Z l2 rv => by
    obtain ⟨p1, vs, rfl, e2, e3⟩ := rv.tup_inv
    rw [g.hK]
    exact ⟨p1, vs, rfl, Z.ex.t e2, q _ Z l2 (walk_enumT e2 e3)⟩)
end
end Pk
set_option Elab.async false
set_option linter.all false
set_option maxRecDepth 100000
set_option maxHeartbeats 4000000
namespace Pk
open PySem PySem.Spec L2
open PyProof.Rows hiding St
section
variable {K : PySem.W.Frag} {X : Cx} [g : Good K X] {δ : Sd} {W : Wd} {P : Po} {rest : List Stmt}
/-- another look at the same heap -/
theorem wb_look {δ' : Sd} {F : Wd} (hH : F.H = W.H) (hr : ∀ σ, SRep K W.G σ δ → SRep K F.G σ δ') (h : WB K X δ' rest F P) : WB K X δ rest W P := fun σ r => by
  have z := h σ (hr σ r)
  rw [hH] at z
  exact z
/-- from here on the objects of this kind never change -/
def Wd.fix (W : Wd) (S : Addr → Bool) : Wd := ⟨fun a => if S a = true then W.H a else W.G a, W.H, fun a o e => by
  have e' : (if S a = true then W.H a else W.G a) = some o := e
  cases h : S a with
  | true => rw [h, if_pos rfl] at e'; exact e'
  | false => rw [h, if_neg (by decide)] at e'; exact W.ex a o e'⟩
theorem Wd.fix_g (W : Wd) (S : Addr → Bool) : Sub W.G (W.fix S).G := fun a o e => by
  show (if S a = true then W.H a else W.G a) = some o
  cases h : S a with
  | true => rw [if_pos rfl]; exact W.ex a o e
  | false => rw [if_neg (by decide)]; exact e
theorem Wd.fix_at {W : Wd} {S : Addr → Bool} {a : Addr} (h : S a = true) : (W.fix S).G a = W.H a := if_pos h
theorem Wd.fix_le {W U : Wd} {S : Addr → Bool} (l : Le W U) (h : ∀ a, S a = true → W.H a = none) : Le W (U.fix S) := ⟨l.g.tr (U.fix_g S), l.h, fun a h1 h2 => by
  show (if S a = true then U.H a else U.G a) = none
  cases z : S a with
  | true => exact absurd (h a z) h1
  | false => rw [if_neg (by decide)]; exact l.fr a h1 h2⟩
/-- a slot that held the very value now holds its data -/
theorem SRep.tell {G : Hp} {σ : St} {i : Nat} {v : V} {d : PyData} (r : SRep K G σ δ) (hi : δ[i]? = some (some (.v v))) (h : Rp K G v d) : SRep K G σ (δ.set i (some (.d d))) := by
  obtain ⟨u, e1, e2⟩ := r.at_ i _ hi
  have e2' : u = v := e2
  subst e2'
  have hl : i < σ.length := (List.getElem?_eq_some_iff.mp e1).1
  have q := r.set (v := u) (s := .d d) h i
  have e : σ.set i (some u) = σ := by
    apply List.ext_getElem?
    intro j
    by_cases hj : i = j
    · subst hj
      rw [List.getElem?_set_self hl, e1]
    · rw [List.getElem?_set_ne hj]
  rw [e] at q
  exact q
/-- .. a list -/
theorem wb_fixL (i : Nat) {l : Addr} {vs : List V} {ds : List PyData} (hl : W.H l = some (.lst vs)) (hg : W.G l = none) (hr : RpL K W.G vs ds) (h : ∀ F, F.H = W.H → Sub W.G F.G → (∀ B, Le B W → B.H l = none → Le B F) → F.G l = some (.lst vs) → WB K X (δ.set i (some (.d (.list ds)))) rest F P) (hi : δ[i]? = some (some (.v (.ref l))) := by rfl) : WB K X δ rest W P := by
  have sg := W.fix_g fun b => decide (b = l)
  have el : (W.fix fun b => decide (b = l)).G l = some (.lst vs) := (Wd.fix_at (decide_eq_true rfl)).trans hl
  exact wb_look (F := W.fix fun b => decide (b = l)) rfl (fun σ r => (r.up sg).tell hi (.lst el (hr.up sg))) (h _ rfl sg (fun B lb hB => Wd.fix_le lb fun a ha => by rw [of_decide_eq_true ha]; exact hB) el)
end
theorem nodup_inj {α : Type} {l : List α} (h : l.Nodup) {i j : Nat} {a : α} (hi : l[i]? = some a) (hj : l[j]? = some a) : i = j := by
  have key : ∀ {i j : Nat}, i < j → l[i]? = some a → l[j]? = some a → False := fun {i j} hij h1 h2 => by
    obtain ⟨b1, e1⟩ := List.getElem?_eq_some_iff.mp h1
    obtain ⟨b2, e2⟩ := List.getElem?_eq_some_iff.mp h2
    exact List.pairwise_iff_getElem.mp h i j b1 b2 hij (e1.trans e2.symm)
  rcases Nat.lt_trichotomy i j with q | q | q
  · exact (key q hi hj).elim
  · exact q
  · exact (key q hj hi).elim
/-! ### above_lists -/
def rowI (ps : List Pr) (x : Int) : List Int := (ps.filter fun p => decide (p.1 = x)).map (·.2)
def aboveD (n : Nat) (ps : List Pr) : PyData := .list ((List.range n).map fun x : Nat => iL (rowI ps (x : Int)))
def inN (n : Int) (ps : List Pr) : Prop := ∀ p ∈ ps, 0 ≤ p.1 ∧ p.1 < n ∧ 0 ≤ p.2 ∧ p.2 < n
theorem rowI_succ {ps : List Pr} {i : Nat} {p : Pr} (h : ps[i]? = some p) (x : Int) : rowI (ps.take (i + 1)) x = if p.1 = x then rowI (ps.take i) x ++ [p.2] else rowI (ps.take i) x := by
  unfold rowI
  rw [List.take_add_one, h, List.filter_append, List.map_append]
  by_cases e : p.1 = x
  · rw [if_pos e]; simp [e]
  · rw [if_neg e]; simp [e]
theorem rowI_len (ps : List Pr) (x : Int) : (rowI ps x).length ≤ ps.length := by
  unfold rowI
  rw [List.length_map]
  exact List.length_filter_le _ _
def R_above : List PyData → PyData → Prop := fun ds d => ∃ (n : Int) (ps : List Pr), ds = [.tuple [.int n, psD ps]] ∧ 0 ≤ n ∧ n ≤ 16 ∧ inN n ps ∧ ps.length ≤ 1000 ∧ d = aboveD n.toNat ps
theorem getD_pr {ps : List Pr} {i : Nat} (h : i < ps.length) : ps[i]? = some (ps.getD i (0, 0)) := by rw [List.getD_eq_getElem?_getD, List.getElem?_eq_getElem h] <;> rfl
theorem getD_mem {ps : List Pr} {i : Nat} (h : i < ps.length) : ps.getD i (0, 0) ∈ ps := List.mem_of_getElem? (getD_pr h)
section
variable {P : Program} {w : World} {K : PySem.W.Frag} {mg : Str → Option Value} {base : Heap}
theorem c_above (T : At K mg "above_lists" s_above_lists) (B : Bn mg) : Cal P w K mg base CX0 1 "above_lists" p_above_lists (SpP K R_above) := by
  refine cal_pure T b_above_lists sc_above_lists B (fun ds d h => ?_) fun f cdv A outer s H E => ?_
  · obtain ⟨n, ps, rfl, _⟩ := h
    rfl
  intro X gX hr W ds d h
  obtain ⟨n, ps, rfl, n0, n16, hin, hlen, rfl⟩ := h
  refine wb_setLists 2 [("x", 1)] (ei_r1 (ev_ix (i := 0) (.t _) (ev_v 0) ev_int rfl) (by omega)) (by rw [rngN_len]; omega) (fun d => ⟨_, [1], fun s H0 C cl fp gb => tg_name 1, by decide⟩) fun D as U l nl hal => ?_
  rw [rngN_len] at hal
  refine wb_for (ei_t (ev_ix (i := 1) (.t _) (ev_v 0) ev_int rfl)) (fun i δ1 Z => (∃ a b : Option Sl, δ1 = [some (.d (.tuple [.int n, psD ps])), a, some (.v (.ref D)), b]) ∧ Le W Z ∧ Z.H D = some (.lst (as.map V.ref)) ∧ Z.G D = none ∧
    ∀ (x : Nat) (a : Addr), as[x]? = some a → Z.H a = some (.lst ((rowI (ps.take i) (x : Int)).map V.int)) ∧ Z.G a = none) (fun Z lz => ⟨⟨none, none, rfl⟩, l.tr lz, (nl.up lz).d, (nl.up lz).dg, fun x a hx => ?_⟩) ?_ ?_
  · obtain ⟨e1, e2, _, _⟩ := (nl.up lz).el a (List.mem_of_getElem? hx)
    exact ⟨e1, e2⟩
  · rintro i d δ1 Vd hd ⟨⟨a, b, rfl⟩, lv, hD, gD, hrow⟩ Z lz
    have hi : i < ps.length := by simpa using (List.getElem?_eq_some_iff.mp hd).1
    rw [pD_at hi] at hd
    obtain rfl := Option.some.inj hd
    obtain ⟨q1, q2, q3, q4⟩ := hin _ (getD_mem hi)
    have hk : (ps.getD i (0, 0)).1.toNat < as.length := by omega
    have ek : ((ps.getD i (0, 0)).1.toNat : Int) = (ps.getD i (0, 0)).1 := by omega
    obtain ⟨e1, e2⟩ := hrow _ _ (List.getElem?_eq_getElem hk)
    refine ⟨_, _, tg_tup (tgs_cons (tg_name 1) (tgs_cons (tg_name 3) tgs_nil)) rfl, ?_⟩
    refine wb_appIx 2 (lz.h _ _ hD) (List.getElem?_eq_getElem hk) (lz.h _ _ e1) (lz.fr _ (by rw [e1]; simp) e2) (by rw [List.length_map]; have := rowI_len (ps.take i) (((ps.getD i (0, 0)).1.toNat : Nat) : Int); rw [List.length_take] at this; omega)
      (EvE.cast (ev_v 1) (by rw [ek])) (ev_v 3) fun U5 v l5 hg' rv => wb_nil ?_
    obtain rfl := rv.int_inv
    have wn : W.H (as[(ps.getD i (0, 0)).1.toNat]) = none := (nl.el _ (List.getElem_mem hk)).2.2.1
    have lw5 := (lv.tr lz).tr l5
    refine ⟨l5.g, ⟨_, _, rfl⟩, Wd.put_le lw5 wn, ?_, l5.fr _ (by rw [lz.h _ _ hD]; simp) (lz.fr _ (by rw [hD]; simp) gD), fun x a hx => ?_⟩
    · show upd U5.H _ _ D = _
      rw [upd_ne (Ne.symm (nl.el _ (List.getElem_mem hk)).2.2.2)]
      exact l5.h _ _ (lz.h _ _ hD)
    · obtain ⟨f1, f2⟩ := hrow x a hx
      refine ⟨?_, l5.fr _ (by rw [lz.h _ _ f1]; simp) (lz.fr _ (by rw [f1]; simp) f2)⟩
      show upd U5.H _ _ a = _
      rw [rowI_succ (getD_pr hi)]
      by_cases e : (ps.getD i (0, 0)).1 = (x : Int)
      · have ex : (ps.getD i (0, 0)).1.toNat = x := by omega
        have ea : as[(ps.getD i (0, 0)).1.toNat] = a := by
          rw [← ex, List.getElem?_eq_getElem hk] at hx
          exact Option.some.inj hx
        rw [if_pos e, ea, upd_same, ex, List.map_append] <;> rfl
      · have hxl : x < as.length := (List.getElem?_eq_some_iff.mp hx).1
        have ea : a ≠ as[(ps.getD i (0, 0)).1.toNat] := fun z => by
          have q := nodup_inj nl.nd hx (j := (ps.getD i (0, 0)).1.toNat) (by rw [List.getElem?_eq_getElem hk, z])
          omega
        rw [if_neg e, upd_ne ea]
        exact l5.h _ _ (lz.h _ _ f1)
  · rintro δ1 Vd ⟨⟨a, b, rfl⟩, lv, hD, gD, hrow⟩
    rw [List.length_map, List.take_length] at hrow
    have hS : ∀ b, (decide (b = D) || decide (b ∈ as)) = true → W.H b = none := fun b hb => by
      rw [Bool.or_eq_true] at hb
      rcases hb with hb | hb
      · rw [of_decide_eq_true hb]; exact nl.dn
      · exact (nl.el b (of_decide_eq_true hb)).2.2.1
    have sg := Vd.fix_g fun b => decide (b = D) || decide (b ∈ as)
    have rl : ∀ (m : Nat), m ≤ as.length → RpL K (Vd.fix fun b => decide (b = D) || decide (b ∈ as)).G ((as.take m).map V.ref) ((List.range m).map fun x : Nat => iL (rowI ps (x : Int))) := by
      intro m
      induction m with
      | zero => intro _; exact .nil
      | succ m ih =>
        intro hm
        have hm' : m < as.length := by omega
        rw [List.range_succ, List.map_append, List.take_add_one, List.getElem?_eq_getElem hm', List.map_append]
        obtain ⟨f1, _⟩ := hrow m _ (List.getElem?_eq_getElem hm')
        refine (ih (by omega)).app (.one (.lst ((Wd.fix_at ?_).trans f1) (RpL.of_ints _)))
        rw [Bool.or_eq_true]
        exact .inr (decide_eq_true (List.getElem_mem hm'))
    have hz := rl as.length (Nat.le_refl _)
    rw [List.take_length, hal] at hz
    refine wb_look (δ' := [some (.d (.tuple [.int n, psD ps])), a, some (.d (aboveD n.toNat ps)), b]) (F := Vd.fix fun b => decide (b = D) || decide (b ∈ as)) rfl (fun σ r => (r.up sg).tell (i := 2) rfl (.lst ((Wd.fix_at ?_).trans hD) hz)) ?_
    · rw [decide_eq_true rfl] <;> rfl
    · exact wb_ret (ev_v 2) fun Z l6 => ⟨rfl, (Wd.fix_le lv hS).tr l6⟩
end
end Pk
set_option Elab.async false
set_option linter.all false
set_option maxRecDepth 100000
set_option maxHeartbeats 4000000
namespace Pk
open PySem PySem.Spec L2
open PyProof.Rows hiding St
/-! ### dicts whose keys are pairs -/
def keyP (p : Pr) : List Key := [.inl p.1, .inl p.2]
theorem keyP_inj {p q : Pr} (h : keyP p = keyP q) : p = q := by
  obtain ⟨a, b⟩ := p
  obtain ⟨c, d⟩ := q
  simp only [keyP, List.cons.injEq, Sum.inl.injEq, and_true] at h
  rw [h.1, h.2]
theorem keyP_map (p : Pr) : (keyP p).map kV = [.int p.1, .int p.2] := rfl
/-- at D: a dict whose keys are the pairs ps; what it holds of them: f -/
def KeyD (G : Hp) (D : Addr) (f : Pr → Option V) : Prop := ∃ kvs, G D = some (.dT kvs) ∧ ∀ q : Pr, valV kvs (keyP q) = f q
theorem KeyD.up {G H : Hp} {D : Addr} {f : Pr → Option V} (h : KeyD G D f) (s : Sub G H) : KeyD H D f := by
  obtain ⟨kvs, e1, e2⟩ := h
  exact ⟨kvs, s _ _ e1, e2⟩
theorem Rp.pair {K : PySem.W.Frag} {G : Hp} {v : V} {p : Pr} (h : Rp K G v (pD p)) : ∃ b, v = .ref b ∧ G b = some (.tup ((keyP p).map kV)) := by
  have h' : Rp K G v (.tuple ([p.1, p.2].map PyData.int)) := h
  cases h' with
  | @tup b vs _ o e t r =>
    have t' : o = .tup vs := t
    rw [t', r.ints] at e
    exact ⟨b, rfl, e⟩
section
variable {K : PySem.W.Frag} {X : Cx} [g : Good K X] {δ : Sd} {W U : Wd} {a b c e : Expr} {es : List Expr} {pos : Pos} {d d1 d2 : PyData} {P : Po} {rest : List Stmt}
/-- (a, b) in the dict that the slot i holds -/
theorem ev_inK (i : Nat) {x : Str} {px pt : Pos} {kt : Nat} {D : Addr} {f : Pr → Option V} {m n : Int} (hD : KeyD W.G D f) (ha : EvE K X δ a W (.int m)) (hb : EvE K X δ b W (.int n)) (hi : δ[i]? = some (some (.v (.ref D))) := by rfl)
    (hN : X.N[i]? = some x := by rfl) (hv : Vis X.env.scope x := by first | exact Or.inl rfl | exact Or.inr (Or.inl rfl) | exact Or.inr (Or.inr rfl)) (hd : (x == ("__debug__" : Str)) = false := by decide) (hcd : (x == ("__classdict__" : Str)) = false := by decide)
    (hst : starEach [a, b] X.env = (false, eval a X.env) :: starEach [b] X.env := by rfl) (hst2 : starEach [b] X.env = (false, eval b X.env) :: starEach [] X.env := by rfl) (hm : behindInMarks .In (.Name x px) = false := by with_unfolding_all rfl) :
    EvE K X δ (.Compare (.Tuple [a, b] kt pt) [.In] [.Name x px] pos) W (.bool (f (m, n)).isSome) := fun U l σ s Q q => by
  obtain ⟨v, e1, e2⟩ := s.at_ i _ hi
  obtain rfl : v = .ref D := e2
  refine (pe_cmp (pc_din (by have := g.room.un; omega) (pe_w X (.Tuple [a, b] kt pt)) (pe_var hN hv hd hcd)) hm).w ?_
  refine (ev_tup (ea_cons ha (ea_cons hb ea_nil hst2) hst)) U l σ s _ fun v Z l2 rv => ?_
  obtain ⟨kvs, k1, k2⟩ := hD.up (l.tr l2).g
  obtain ⟨bb, rfl, hb2⟩ := Rp.pair (p := (m, n)) rv
  refine ⟨.ref D, e1, D, valV kvs (keyP (m, n)), rfl, DGet.t (Z.ex _ _ k1) (Z.ex _ _ hb2), ?_⟩
  rw [k2]
  exact q _ Z l2 (.bl _)
/-- .. as a test -/
theorem et_inK (i : Nat) {x : Str} {px pt : Pos} {kt : Nat} {D : Addr} {f : Pr → Option V} {m n : Int} (hD : KeyD W.G D f) (ha : EvE K X δ a W (.int m)) (hb : EvE K X δ b W (.int n)) (hi : δ[i]? = some (some (.v (.ref D))) := by rfl)
    (hN : X.N[i]? = some x := by rfl) (hv : Vis X.env.scope x := by first | exact Or.inl rfl | exact Or.inr (Or.inl rfl) | exact Or.inr (Or.inr rfl)) (hd : (x == ("__debug__" : Str)) = false := by decide) (hcd : (x == ("__classdict__" : Str)) = false := by decide)
    (hst : starEach [a, b] X.env = (false, eval a X.env) :: starEach [b] X.env := by rfl) (hst2 : starEach [b] X.env = (false, eval b X.env) :: starEach [] X.env := by rfl) (hm : behindInMarks .In (.Name x px) = false := by with_unfolding_all rfl) :
    EvT K X δ (.Compare (.Tuple [a, b] kt pt) [.In] [.Name x px] pos) W (f (m, n)).isSome := fun U l σ s Q q => by
  obtain ⟨v, e1, e2⟩ := s.at_ i _ hi
  obtain rfl : v = .ref D := e2
  refine (pt_cmp (pc_din (by have := g.room.un; omega) (pe_w X (.Tuple [a, b] kt pt)) (pe_var hN hv hd hcd)) hm).w ?_
  refine (ev_tup (ea_cons ha (ea_cons hb ea_nil hst2) hst)) U l σ s _ fun v Z l2 rv => ?_
  obtain ⟨kvs, k1, k2⟩ := hD.up (l.tr l2).g
  obtain ⟨bb, rfl, hb2⟩ := Rp.pair (p := (m, n)) rv
  refine ⟨.ref D, e1, D, valV kvs (keyP (m, n)), rfl, DGet.t (Z.ex _ _ k1) (Z.ex _ _ hb2), ?_⟩
  rw [k2]
  exact ⟨_, rfl, q Z l2⟩
/-- known[a, b] -/
theorem ev_getK (i : Nat) {x : Str} {px pt : Pos} {kt : Nat} {D : Addr} {f : Pr → Option V} {m n : Int} {v0 : V} (hD : KeyD W.G D f) (ha : EvE K X δ a W (.int m)) (hb : EvE K X δ b W (.int n)) (hf : f (m, n) = some v0) (hr : Rp K W.G v0 d) (hi : δ[i]? = some (some (.v (.ref D))) := by rfl)
    (hN : X.N[i]? = some x := by rfl) (hv : Vis X.env.scope x := by first | exact Or.inl rfl | exact Or.inr (Or.inl rfl) | exact Or.inr (Or.inr rfl)) (hd : (x == ("__debug__" : Str)) = false := by decide) (hcd : (x == ("__classdict__" : Str)) = false := by decide)
    (hst : starEach [a, b] X.env = (false, eval a X.env) :: starEach [b] X.env := by rfl) (hst2 : starEach [b] X.env = (false, eval b X.env) :: starEach [] X.env := by rfl) (hns : NoSl (.Tuple [a, b] kt pt) := by exact fun _ _ => rfl) :
    EvE K X δ (.Subscript (.Name x px) (.Tuple [a, b] kt pt) pos) W d := fun U l σ s Q q => by
  obtain ⟨v, e1, e2⟩ := s.at_ i _ hi
  obtain rfl : v = .ref D := e2
  refine (pe_dget (by have := g.room.un; omega) (pe_var hN hv hd hcd) (pe_w X (.Tuple [a, b] kt pt)) hns).w ⟨.ref D, e1, ?_⟩
  refine (ev_tup (ea_cons ha (ea_cons hb ea_nil hst2) hst)) U l σ s _ fun v Z l2 rv => ?_
  obtain ⟨kvs, k1, k2⟩ := hD.up (l.tr l2).g
  obtain ⟨bb, rfl, hb2⟩ := Rp.pair (p := (m, n)) rv
  refine ⟨D, v0, rfl, ?_, q _ Z l2 (hr.up (l.tr l2).g)⟩
  have z := DGet.t (Z.ex _ _ k1) (Z.ex _ _ hb2)
  rw [k2, hf] at z
  exact z
/-- {k: True for k in pairs} -/
theorem we_dcP (own : List (Str × Nat)) (j : Nat) {tg iter kx : Expr} {scope : Scope} {ps : List Pr} {jj : Nat} {cp : Pos} {y : Str} {i : Nat} {py spos : Pos} (hi : EvI false K X δ tg iter W (ps.map pD)) (hsz : ps.length < 1000000)
    (hk : ∀ p U, Le W U → ∀ s H0 C cl fp, Good K (BX X scope s H0 C cl fp) → EvE K (BX X scope s H0 C cl fp) ((wipeD δ (own.map (·.2))).set j (some (.d (pD p)))) kx U (pD p))
    (h : ∀ D U, Le W U → KeyD U.G D (fun q => if q ∈ ps then some (.bl true) else none) → WB K X (δ.set i (some (.v (.ref D)))) rest U P)
    (hN : X.N[i]? = some y := by rfl) (hx : Loc X.env.scope y := by first | exact Or.inl rfl | exact Or.inr rfl) (hsw : swapsWith (.DictComp kx (.Constant (.bool true) jj cp) [⟨tg, iter, [], 0⟩] scope pos) (some (.Name y py)) spos.line X.env = pure false := by rfl)
    (hf : X.fn y = true ∨ X.env.scope.names.lookup y = some .local := by first | exact .inl rfl | exact .inr rfl)
    (ht : Tg1 K X δ scope tg own j := by exact fun _ _ _ _ _ _ _ => tg_name _) (hj : j ∈ own.map (·.2) := by decide) (ok : BlkOk X.N X.env.scope scope own := by exact blkOk_by (by kernel_rfl)) (hs : ∀ x, foldedSetIterable iter X.env x = pure x := by intro _; rfl) :
    WB K X δ (.Assign [.Name y py] (.DictComp kx (.Constant (.bool true) jj cp) [⟨tg, iter, [], 0⟩] scope pos) spos :: rest) W P :=
  wb_cons fun σ r => by
    refine (ps_set g.nd hN hx (pe_dcT g.calm (by have := g.room.un; omega) g.nd (pi_w X tg iter) ok (pg_b tg) (pe_b kx) (fun s H0 C cl fp => pe_bl (b := true)) hs) hsw hf).w ?_
    refine hi W (Le.refl W) σ r _ fun It0 Z0 l0 wk => ?_
    intro D hD
    have hWD : W.H D = none := l0.some hD
    refine ⟨fun i m H1 => m = ps.length - i ∧ i ≤ ps.length ∧ ∃ (U : Wd) (kvs : List (List Key × V)), H1 = U.H ∧ Le W U ∧ Sub Z0.G U.G ∧ U.G D = none ∧ U.H D = some (.dT kvs) ∧ kvs.length ≤ i ∧ ∀ q : Pr, valV kvs (keyP q) = if q ∈ ps.take i then some (.bl true) else none,
      ⟨ps.length, by simp, Nat.zero_le _, Z0.put D (.dT []) (Z0.gnone hD), [], rfl, Wd.put_le l0 hWD, Sub.rfl', Z0.gnone hD, upd_same, Nat.le_refl _, fun q => by simp [valV_nil]⟩, ?_⟩
    rintro i m H1 ⟨rfl, hle, U, kvs, rfl, lU, sg, gD, eD, hl, hv⟩
    obtain ⟨w1, w2⟩ := wk i U sg
    by_cases hlt : i < ps.length
    · have hp := pD_at hlt
      obtain ⟨go, yl⟩ := w1 _ hp
      refine .inr ⟨go, fun H2 => ∃ (U : Wd) (kvs : List (List Key × V)), H2 = U.H ∧ Le W U ∧ Sub Z0.G U.G ∧ U.G D = none ∧ U.H D = some (.dT kvs) ∧ kvs.length ≤ i + 1 ∧ ∀ q : Pr, valV kvs (keyP q) = if q ∈ ps.take (i + 1) then some (.bl true) else none, fun H2 z => ⟨ps.length - (i + 1), by omega, rfl, hlt, z⟩, fun x H2 hy => ?_⟩
      obtain ⟨Z, lz, rfl, rx⟩ := yl x H2 hy
      have sz : Sub W.G Z.G := (lU.tr lz).g
      intro s H0 C cl fp
      refine ht _ s H0 C cl fp good_bx Z.G Z.H _ x Z.ex ((r.up sz).wipe _) rx _ fun σ' r' w' => ⟨(w' _ fun i h => by rw [List.mem_singleton.mp h]; exact hj).trans (wipe_wipe _), ?_⟩
      intro s1 H1 C1 cl1 fp1
      refine hk _ Z (lU.tr lz) s1 H1 C1 cl1 fp1 good_bx Z (Le.refl Z) σ' r' _ fun v Y ly rv => ?_
      obtain ⟨b, rfl, eb⟩ := Rp.pair rv
      have eY := ly.h _ _ (lz.h _ _ eD)
      have gY : Y.G D = none := ly.fr _ (by rw [lz.h _ _ eD]; simp) (lz.fr _ (by rw [eD]; simp) gD)
      have l2 := (lU.tr lz).tr ly
      refine ⟨kvs, keyP (ps.getD i (0, 0)), b, rfl, Y.ex _ _ eb, eY, szl (by omega), Y.put D (.dT (putK kvs (keyP (ps.getD i (0, 0))) (.bl true))) gY, _, rfl, Wd.put_le l2 hWD, (sg.tr lz.g).tr ly.g, gY, upd_same, ?_, fun q => ?_⟩
      · have := length_putK kvs (keyP (ps.getD i (0, 0))) (.bl true)
        omega
      · rw [valV_put, hv, List.take_add_one, getD_pr hlt]
        by_cases e : keyP q = keyP (ps.getD i (0, 0))
        · rw [if_pos e, if_pos (by rw [keyP_inj e]; simp)]
        · rw [if_neg e]
          show _ = if q ∈ List.take i ps ++ [ps.getD i (0, 0)] then some (V.bl true) else none
          have hq : q ≠ ps.getD i (0, 0) := fun z => e (by rw [z])
          by_cases h2 : q ∈ ps.take i
          · rw [if_pos h2, if_pos (List.mem_append_left _ h2)]
          · rw [if_neg h2, if_neg (fun z => (List.mem_append.mp z).elim h2 fun z => hq (List.mem_singleton.mp z))]
    · have e : i = ps.length := by omega
      subst e
      rw [List.take_length] at hv
      refine .inl ⟨w2 (by rw [List.length_map]; exact Nat.le_refl _), ?_⟩
      have sg2 := U.fix_g fun b => decide (b = D)
      refine ⟨_, U.fix fun b => decide (b = D), rfl, SRep.set (s := .v (.ref D)) (r.up (lU.g.tr sg2)) rfl _, h D _ (Wd.fix_le lU fun a ha => by rw [of_decide_eq_true ha]; exact hWD) ⟨kvs, (Wd.fix_at (decide_eq_true rfl)).trans eD, hv⟩⟩
end
end Pk
set_option Elab.async false
set_option linter.all false
set_option maxRecDepth 100000
set_option maxHeartbeats 4000000
namespace Pk
open PySem PySem.Spec L2
open PyProof.Rows hiding St
/-- the class NotOrder stands at C -/
structure HasO (P : Program) (K : PySem.W.Frag) (mg : Str → Option Value) (C : Addr) : Prop where
  g : mg "NotOrder" = some (.ref C)
  su : mg "super" = none
  cl : XCls K C
  em : PySem.W.exmOne K (.ref C) (.ref C) = some true
  xt : ∃ fI cc cda, PkX.XO P K C fI cc cda
structure HasP (P : Program) (K : PySem.W.Frag) (mg : Str → Option Value) (C : Addr) : Prop where
  g : mg "NotPatch" = some (.ref C)
  su : mg "super" = none
  cl : XCls K C
  em : PySem.W.exmOne K (.ref C) (.ref C) = some true
  xt : ∃ fI cc cda, PkX.XP P K C fI cc cda
theorem form_inv {v : PyData} (h : formB v = true) : ∃ (n : Int) (ps : List Pr), v = .tuple [.int n, psD ps] ∧ 0 ≤ n ∧ n ≤ 16 ∧ inN n ps ∧ ascB ps = true ∧ (∀ p ∈ ps, p.1 ≠ p.2) ∧ orderB v = chainB n.toNat ps := by
  rcases order_cases v with ⟨n, ds, rfl⟩ | ⟨h2, _⟩
  · have h' : (decide (0 ≤ n) && (decide (n ≤ 16) && (ds.all (pairD · n) && ascB (ds.map prOf)))) = true := h
    simp only [Bool.and_eq_true, decide_eq_true_eq] at h'
    obtain ⟨n0, n16, hp, ha⟩ := h'
    have eds := psD_of hp
    have key : ∀ p ∈ ds.map prOf, (0 ≤ p.1 ∧ p.1 < n ∧ 0 ≤ p.2 ∧ p.2 < n) ∧ p.1 ≠ p.2 := fun p hq => by
      obtain ⟨d, hd, rfl⟩ := List.mem_map.mp hq
      obtain ⟨_, a, b, c, d2, e⟩ := pD_of (List.all_eq_true.mp hp d hd)
      exact ⟨⟨a, b, c, d2⟩, e⟩
    refine ⟨n, ds.map prOf, by rw [psD, ← eds], n0, n16, fun p hq => (key p hq).1, ha, fun p hq => (key p hq).2, ?_⟩
    show (decide (0 ≤ n) && (decide (n ≤ 16) && (ds.all (pairD · n) && (ascB (ds.map prOf) && chainB n.toNat (ds.map prOf))))) = _
    rw [decide_eq_true n0, decide_eq_true n16, hp, ha] <;> rfl
  · rw [h2] at h; cases h
theorem form_order {v : PyData} (h : formB v = false) : orderB v = false := by
  rcases order_cases v with ⟨n, ds, rfl⟩ | ⟨_, h2⟩
  · have h' : (decide (0 ≤ n) && (decide (n ≤ 16) && (ds.all (pairD · n) && ascB (ds.map prOf)))) = false := h
    show (decide (0 ≤ n) && (decide (n ≤ 16) && (ds.all (pairD · n) && (ascB (ds.map prOf) && chainB n.toNat (ds.map prOf))))) = false
    cases hb : chainB n.toNat (ds.map prOf) with
    | true => rw [Bool.and_true]; exact h'
    | false => simp
  · exact h2
/-- the value comes back, or NotOrder flies -/
def SpNO (K : PySem.W.Frag) (C : Addr) : Sp := fun vs H Q E => ∃ (W : Wd) (v : PyData), W.H = H ∧ RpL K W.G vs [v] ∧ TameO v ∧ (orderB v = true → ∀ u U, Le W U → Rp K U.G u v → Q u U.H) ∧ (orderB v = false → ∀ d (U : Wd), Le W U → E (.ref C) d U.H)
section
variable {P : Program} {w : World} {K : PySem.W.Frag} {mg : Str → Option Value} {base : Heap} {CO : Addr}
theorem raisedO {W U : Wd} {d : Addr} {o : HO} (l : Le W U) (hd : U.H d = none) : ∃ Z : Wd, Le W Z ∧ Z.H = upd U.H d o := ⟨U.put d o (U.gnone hd), Wd.put_le l (l.some hd), rfl⟩
theorem all_in (ps : List Pr) (n : Nat) (p : Pr) (hin : inN (n : Int) ps) : ((rowI ps p.2).all fun z => decide ((p.1, z) ∈ ps)) = okP n ps p := by
  unfold okP
  rw [Bool.eq_iff_iff, List.all_eq_true, List.all_eq_true]
  constructor
  · intro h z hz
    cases hb : hasB ps (p.2, (z : Int)) with
    | false => rfl
    | true =>
      have hm := has_iff.mp hb
      have h2 := h (z : Int) (by
        unfold rowI
        exact List.mem_map.mpr ⟨(p.2, (z : Int)), List.mem_filter.mpr ⟨hm, decide_eq_true rfl⟩, rfl⟩)
      rw [has_iff.mpr (of_decide_eq_true h2)] <;> rfl
  · intro h z hz
    unfold rowI at hz
    obtain ⟨q, hq, rfl⟩ := List.mem_map.mp hz
    obtain ⟨hq1, hq2⟩ := List.mem_filter.mp hq
    have e1 : q.1 = p.2 := of_decide_eq_true hq2
    obtain ⟨_, _, q3, q4⟩ := hin q hq1
    have h2 := h q.2.toNat (List.mem_range.mpr (by omega))
    rw [show ((q.2.toNat : Nat) : Int) = q.2 by omega] at h2
    have hb : hasB ps (p.2, q.2) = true := has_iff.mpr (by rw [← e1]; exact hq1)
    rw [hb] at h2
    have h3 : hasB ps (p.1, q.2) = true := by simpa using h2
    exact decide_eq_true (has_iff.mp h3)
theorem all_range {α : Type} (l : List α) (x0 : α) (p : α → Bool) : ((List.range l.length).all fun i => p (l.getD i x0)) = l.all p := by
  rw [Bool.eq_iff_iff, List.all_eq_true, List.all_eq_true]
  constructor
  · intro h x hx
    obtain ⟨i, hi, rfl⟩ := List.mem_iff_getElem.mp hx
    have z := h i (List.mem_range.mpr hi)
    rwa [List.getD_eq_getElem?_getD, List.getElem?_eq_getElem hi] at z
  · intro h i hi
    have hi' := List.mem_range.mp hi
    rw [List.getD_eq_getElem?_getD, List.getElem?_eq_getElem hi']
    exact h _ (List.getElem_mem hi')
theorem c_need_order (T : At K mg "need_order" s_need_order) (B : Bn mg) (HO' : HasO P K mg CO) (C4 : Cal P w K mg base CX0 4 "has_form" p_has_form (SpP K R_has_form)) (C1 : Cal P w K mg base CX0 1 "above_lists" p_above_lists (SpP K R_above)) :
    Cal P w K mg base (L2.CX P w) 5 "need_order" p_need_order (SpNO K CO) := by
  refine cal_genX T b_need_order sc_need_order B (fun vs H Q E h => ?_) fun f cdv A outer s H E => ?_
  · obtain ⟨W, v, _, rs, _⟩ := h
    exact rs.len
  intro X gX hr tk po vs Q h
  obtain ⟨W, v, rfl, rs, hT, hQ, hE⟩ := h
  obtain ⟨fI, cc, cda, xt⟩ := HO'.xt
  have ins : ∀ (mb : Str → Option Value) (us : List Value), us.length = 1 → mb "super" = some (.type "super") → PkX.Inits P w K mg mb CO fI us (mOf us) := fun mb us hl hb => by
    obtain ⟨u, rfl⟩ := List.length_eq_one_iff.mp hl
    exact PkX.initsO xt HO'.cl.f HO'.su hb
  refine ⟨W, [v], fun d U => orderB v = true ∧ d = v ∧ Le W U, rfl, rs, fun u d U ⟨o, e, l⟩ rv => hQ o u U l (e ▸ rv), ?_⟩
  refine wb_when (t := !formB v) (et_not (et_val (ev_call C4 (hr.mono (by decide)) (ea_cons (ev_v 0) ea_nil) ⟨v, rfl, hT, rfl⟩))) (fun h1 U l => ?_) fun h1 U l => ?_
  · refine wb_raise (n := 1) tk xt HO'.cl HO'.g (by decide) ins (hr.mono (by decide)) (ea_cons ev_str ea_nil) rfl fun Z vs d lz rs hd => ?_
    obtain ⟨Y, ly, e⟩ := raisedO (o := .xd (fsOf vs)) (l.tr lz) hd
    rw [← e]
    exact hE (form_order (by simpa using h1)) _ Y ly
  obtain ⟨n, ps, rfl, n0, n16, hin, ha, _, hord⟩ := form_inv (v := v) (by simpa using h1)
  obtain ⟨hlen, _⟩ := hT _ _ rfl
  rw [List.length_map] at hlen
  refine we_dcP (i := 1) [("pair", 5)] 5 (ei_t (ev_ix (i := 1) (.t _) (ev_v 0) ev_int rfl)) (by omega) (fun p U l s H0 C cl fp gb => ev_v 5) fun D U2 l2 hD => ?_
  refine wb_asg 2 (ev_call C1 (hr.mono (by decide)) (ea_cons (ev_v 0) ea_nil) ⟨n, ps, rfl, n0, n16, hin, hlen, rfl⟩) fun U3 l3 => ?_
  have LW := (l.tr l2).tr l3
  have hD3 := hD.up l3.g
  refine wb_for (ei_t (ev_ix (i := 1) (.t _) (ev_v 0) ev_int rfl)) (fun i δ1 U => (∃ a b : Option Sl, δ1 = [some (.d (.tuple [.int n, psD ps])), some (.v (.ref D)), some (.d (aboveD n.toNat ps)), a, b, none, none]) ∧ (ps.take i).all (okP n.toNat ps) = true ∧ Le U3 U)
    (fun U lu => ⟨⟨none, none, rfl⟩, rfl, lu⟩) ?_ ?_ (hp := po)
  · rintro i d δ1 U hd ⟨⟨a, b, rfl⟩, hk, lw⟩ Z lz
    have hi : i < ps.length := by simpa using (List.getElem?_eq_some_iff.mp hd).1
    rw [pD_at hi] at hd
    obtain rfl := Option.some.inj hd
    obtain ⟨q1, q2, q3, q4⟩ := hin _ (getD_mem hi)
    have hZ := hD3.up (lw.tr lz).g
    refine ⟨_, _, tg_tup (tgs_cons (tg_name 3) (tgs_cons (tg_name 4) tgs_nil)) rfl, ?_⟩
    have hrow : ((List.range n.toNat).map fun x : Nat => iL (rowI ps (x : Int)))[(ps.getD i (0, 0)).2.toNat]? = some (iL (rowI ps (ps.getD i (0, 0)).2)) := by
      rw [List.getElem?_map, List.getElem?_range (by omega)]
      show some (iL (rowI ps (((ps.getD i (0, 0)).2.toNat : Nat) : Int))) = _
      rw [show (((ps.getD i (0, 0)).2.toNat : Nat) : Int) = (ps.getD i (0, 0)).2 by omega]
    refine wb_when (t := !okP n.toNat ps (ps.getD i (0, 0))) (et_not (et_val (EvE.cast (ev_allL (bs := (List.range (rowI ps (ps.getD i (0, 0)).2).length).map fun z => decide (((ps.getD i (0, 0)).1, (rowI ps (ps.getD i (0, 0)).2).getD z 0) ∈ ps)) (EvE.cast (ev_lcN [("z", 6)] 6 (fun z => .bool (decide (((ps.getD i (0, 0)).1, (rowI ps (ps.getD i (0, 0)).2).getD z 0) ∈ ps)))
      (ei_l (ev_ix (i := (ps.getD i (0, 0)).2.toNat) (.l _) (ev_v 2) (EvE.cast (ev_v 4) (by congr 1; omega)) hrow)) ?_ ?_) ?_)) ?_))) (fun h4 U5 l5 => ?_) fun h4 U5 l5 => ?_
    · rw [List.length_map]; have := rowI_len ps (ps.getD i (0, 0)).2; omega
    · intro z d U hd l s H0 C cl fp gb
      have hz : z < (rowI ps (ps.getD i (0, 0)).2).length := by simpa using (List.getElem?_eq_some_iff.mp hd).1
      rw [ints_at hz] at hd
      obtain rfl := Option.some.inj hd
      refine EvE.cast (ev_inK 1 (hZ.up l.g) (ev_v 3) (ev_v 6)) ?_
      congr 1
      split
      · rename_i h; rw [decide_eq_true h] <;> rfl
      · rename_i h; rw [decide_eq_false h] <;> rfl
    · rw [List.length_map, List.map_map] <;> rfl
    · rw [all_id_map, ← all_in ps n.toNat _ (by rw [show ((n.toNat : Nat) : Int) = n by omega]; exact hin)]
      rw [all_range (rowI ps (ps.getD i (0, 0)).2) 0 fun z => decide (((ps.getD i (0, 0)).1, z) ∈ ps)]
    · refine wb_raise (n := 1) tk xt HO'.cl HO'.g (by decide) ins (hr.mono (by decide)) (ea_cons ev_str ea_nil) rfl fun Y vs d ly rs hd => ?_
      obtain ⟨Y2, ly2, e⟩ := raisedO (o := .xd (fsOf vs)) ((((LW.tr lw).tr lz).tr l5).tr ly) hd
      rw [← e]
      exact hE (hord.trans (all_false (f := okP n.toNat ps) (getD_pr hi) (by simpa using h4))) _ Y2 ly2
    · refine wb_nil ⟨l5.g, ⟨_, _, rfl⟩, ?_, (lw.tr lz).tr l5⟩
      rw [all_take (getD_pr hi), hk, show okP n.toNat ps (ps.getD i (0, 0)) = true by simpa using h4] <;> rfl
  · rintro δ1 U ⟨⟨a, b, rfl⟩, hk, lw⟩
    rw [List.length_map, List.take_length] at hk
    exact wb_ret (ev_v 0) fun Z l6 => ⟨hord.trans hk, rfl, (LW.tr lw).tr l6⟩
def R_order : List PyData → PyData → Prop := R_Lis_order
theorem c_is_order (T : At K mg "is_order" s_is_order) (B : Bn mg) (HO' : HasO P K mg CO) (C5 : Cal P w K mg base (L2.CX P w) 5 "need_order" p_need_order (SpNO K CO)) : Cal P w K mg base CX0 6 "is_order" p_is_order (SpP K R_Lis_order) := by
  refine cal_pure T b_is_order sc_is_order B (fun ds d h => ?_) fun f cdv A outer s H E => ?_
  · obtain ⟨a, rfl, _⟩ := h
    rfl
  intro X gX hr W ds d h
  obtain ⟨v, rfl, hT, rfl⟩ := h
  refine wb_tryF (c := .ref CO) rfl rfl ⟨rfl, by decide, .inl HO'.g⟩ fun pn xe Wx tk gt hW => ?_
  refine wb_expr (we_callX tk C5 hr (ea_cons (ev_v 0) ea_nil) fun U vs l rs σ r Q q => ?_)
  refine ⟨U, v, rfl, rs, hT, fun ho u Z lz ru => q u v Z lz.g ru (wb_nil (wb_ret ev_bl fun Y ly => ⟨by rw [ho], (l.tr lz).tr ly⟩)), fun ho d Z lz => hW _ _ _ _ HO'.em ⟨by rw [ho], l.tr lz⟩⟩
end
end Pk
set_option Elab.async false
set_option linter.all false
set_option maxRecDepth 100000
set_option maxHeartbeats 4000000
namespace Pk
open PySem PySem.Spec L2
open PyProof.Rows hiding St
/-! ### sizes, tables -/
def intOf (d : PyData) : Int := match d with
  | .int i => i
  | _ => 0
theorem whole_intOf {d : PyData} {n : Int} (h : wholeD d n = true) : d = .int (intOf d) ∧ 0 ≤ intOf d ∧ intOf d ≤ n := by
  obtain ⟨i, rfl, a, b⟩ := whole_int h
  exact ⟨rfl, a, b⟩
theorem ints_of {ds : List PyData} {n : Int} (h : ds.all (wholeD · n) = true) : ds = (ds.map intOf).map PyData.int := by
  rw [List.map_map]
  conv => lhs; rw [← List.map_id ds]
  exact List.map_congr_left fun d hd => (whole_intOf (List.all_eq_true.mp h d hd)).1
def sizesB (v : PyData) (n : Int) : Bool := match v with
  | .tuple ds => decide ((ds.length : Int) = n) && (ds.all (wholeD · 8) && decide ((ds.map intOf).sum ≤ 40))
  | _ => false
def lineB (p : Int) (m : Int) (d : PyData) : Bool := match d with
  | .tuple es => decide ((es.length : Int) = m) && es.all (wholeD · (p - 1))
  | _ => false
def tableB (v : PyData) (p l m : Int) : Bool := match v with
  | .tuple ls => decide ((ls.length : Int) = l) && ls.all (lineB p m)
  | _ => false
def TameS (v : PyData) : Prop := ∀ ds, v = .tuple ds → ds.length ≤ 1000 ∧ ∀ x ∈ ds, pl 10 x = true
def TameTab (v : PyData) : Prop := ∀ ls, v = .tuple ls → ls.length ≤ 1000 ∧ ∀ l ∈ ls, pl 10 l = true ∧ ∀ es, l = .tuple es → es.length ≤ 1000
def R_sizes : List PyData → PyData → Prop := fun ds d => ∃ (v : PyData) (n : Int), ds = [v, iI n] ∧ TameS v ∧ d = .bool (sizesB v n)
def R_table : List PyData → PyData → Prop := fun ds d => ∃ (v : PyData) (p l m : Int), ds = [v, iI p, iI l, iI m] ∧ TameTab v ∧ d = .bool (tableB v p l m)
section
variable {P : Program} {w : World} {K : PySem.W.Frag} {mg : Str → Option Value} {base : Heap}
theorem c_are_sizes (T : At K mg "are_sizes" s_are_sizes) (B : Bn mg) (h8 : ∃ t, mg "MOST_HERE" = some (.int 8 t)) (h40 : ∃ t, mg "MOST_IN_ALL" = some (.int 40 t)) (C1 : Cal P w K mg base CX0 1 "is_number" p_is_number (SpP K R_whole)) :
    Cal P w K mg base CX0 2 "are_sizes" p_are_sizes (SpP K R_sizes) := by
  refine cal_pure T b_are_sizes sc_are_sizes B (fun ds d h => ?_) fun f cdv A outer s H E => ?_
  · obtain ⟨v, n, rfl, _⟩ := h
    rfl
  intro X gX hr W ds d h
  obtain ⟨v, n, rfl, hT, rfl⟩ := h
  refine wb_when (et_w (ew_or (u := match v with | .tuple ds => !decide ((ds.length : Int) = n) | _ => false) (et_not (et_val (ev_isT (ev_v 0)))) fun h => ew_or1 ?_)) (fun h1 U l => ?_) fun h1 U l => ?_
  · cases v with
    | tuple ds => exact et_neI (ev_len (.t _) (ev_v 0)) (ev_v 1)
    | _ => cases h
  · refine wb_ret ev_bl fun Z l2 => ⟨?_, l.tr l2⟩
    cases v with
    | tuple ds =>
      have h2 : (!decide ((ds.length : Int) = n)) = true := h1
      show PyData.bool false = PyData.bool (decide ((ds.length : Int) = n) && _)
      rw [Bool.not_eq_true' _ |>.mp h2, Bool.false_and]
    | _ => rfl
  obtain ⟨ds, rfl⟩ : ∃ ds, v = .tuple ds := by
    rcases tup_cases v with q | h2
    · exact q
    · rw [h2] at h1; cases h1
  have hl : decide ((ds.length : Int) = n) = true := by
    have h2 : (!decide ((ds.length : Int) = n)) = false := h1
    simpa using h2
  obtain ⟨hlen, hpl⟩ := hT _ rfl
  have ed : sizesB (.tuple ds) n = (ds.all (wholeD · 8) && decide ((ds.map intOf).sum ≤ 40)) := by
    show (decide _ && _) = _
    rw [hl, Bool.true_and]
  rw [ed]
  refine wb_ret (ev_and (EvE.cast (ev_allL (bs := (List.range ds.length).map fun i => wholeD (ds.getD i .none) 8) (EvE.cast (ev_lcN [("size", 2)] 2 (fun i => .bool (wholeD (ds.getD i .none) 8)) (ei_t (ev_v 0)) (by omega) ?_) ?_)) ?_) fun hp => ev_one ?_) fun Z l4 => ⟨rfl, l.tr l4⟩
  · intro i d U hd l s H0 C cl fp gb
    rw [getD_some hd]
    exact ev_call C1 hr (ea_cons (ev_v 2) (ea_cons (ev_gint h8) ea_nil)) ⟨d, 8, rfl, rfl⟩
  · rw [List.map_map] <;> rfl
  · rw [all_range_map (fun d => wholeD d 8)]
  · exact ev_le (ev_sumT (is := ds.map intOf) (EvE.cast (ev_v 0) (by rw [← ints_of hp]))) (ev_gint h40)
theorem c_is_table (T : At K mg "is_table" s_is_table) (B : Bn mg) (C1 : Cal P w K mg base CX0 1 "is_number" p_is_number (SpP K R_whole)) : Cal P w K mg base CX0 2 "is_table" p_is_table (SpP K R_table) := by
  refine cal_pure T b_is_table sc_is_table B (fun ds d h => ?_) fun f cdv A outer s H E => ?_
  · obtain ⟨v, p, l, m, rfl, _⟩ := h
    rfl
  intro X gX hr W ds d h
  obtain ⟨v, p, n, m, rfl, hT, rfl⟩ := h
  refine wb_when (et_w (ew_or (u := match v with | .tuple ds => !decide ((ds.length : Int) = n) | _ => false) (et_not (et_val (ev_isT (ev_v 0)))) fun h => ew_or1 ?_)) (fun h1 U l => ?_) fun h1 U l => ?_
  · cases v with
    | tuple ds => exact et_neI (ev_len (.t _) (ev_v 0)) (ev_v 2)
    | _ => cases h
  · refine wb_ret ev_bl fun Z l2 => ⟨?_, l.tr l2⟩
    cases v with
    | tuple ds =>
      have h2 : (!decide ((ds.length : Int) = n)) = true := h1
      show PyData.bool false = PyData.bool (decide ((ds.length : Int) = n) && _)
      rw [Bool.not_eq_true' _ |>.mp h2, Bool.false_and]
    | _ => rfl
  obtain ⟨ls, rfl⟩ : ∃ ds, v = .tuple ds := by
    rcases tup_cases v with q | h2
    · exact q
    · rw [h2] at h1; cases h1
  have hl : decide ((ls.length : Int) = n) = true := by
    have h2 : (!decide ((ls.length : Int) = n)) = false := h1
    simpa using h2
  obtain ⟨hlen, hpl⟩ := hT _ rfl
  have ed : tableB (.tuple ls) p n m = ls.all (lineB p m) := by
    show (decide _ && _) = _
    rw [hl, Bool.true_and]
  rw [ed]
  refine wb_for (ei_t (ev_v 0)) (fun i δ1 Z => (∃ a : Option Sl, δ1 = [some (.d (.tuple ls)), some (.d (.int p)), some (.d (.int n)), some (.d (.int m)), a, none]) ∧ (ls.take i).all (lineB p m) = true ∧ Le W Z) (fun Z lz => ⟨⟨none, rfl⟩, rfl, l.tr lz⟩) ?_ ?_
  · rintro i d δ1 V0 hd ⟨⟨a, rfl⟩, hk, lw⟩ Z lz
    refine ⟨_, _, tg_name 4, ?_⟩
    have hmem := List.mem_of_getElem? hd
    refine wb_when (et_w (ew_or (u := match d with | .tuple es => !decide ((es.length : Int) = m) | _ => false) (et_not (et_val (ev_isT (ev_v 4)))) fun h => ew_or1 ?_)) (fun h1 U l => ?_) fun h1 U l => ?_
    · cases d with
      | tuple ds => exact et_neI (ev_len (.t _) (ev_v 4)) (ev_v 3)
      | _ => cases h
    · refine wb_ret ev_bl fun Y l2 => ⟨?_, ((lw.tr lz).tr l).tr l2⟩
      rw [all_false hd]
      cases d with
      | tuple es =>
        have h2 : (!decide ((es.length : Int) = m)) = true := h1
        show (decide ((es.length : Int) = m) && _) = false
        rw [Bool.not_eq_true' _ |>.mp h2, Bool.false_and]
      | _ => rfl
    obtain ⟨es, rfl⟩ : ∃ ds, d = .tuple ds := by
      rcases tup_cases d with q | h2
      · exact q
      · rw [h2] at h1; cases h1
    have hl2 : decide ((es.length : Int) = m) = true := by
      have h2 : (!decide ((es.length : Int) = m)) = false := h1
      simpa using h2
    have hes := (hpl _ hmem).2 _ rfl
    have e2 : lineB p m (.tuple es) = es.all (wholeD · (p - 1)) := by
      show (decide _ && _) = _
      rw [hl2, Bool.true_and]
    refine wb_when (t := !es.all (wholeD · (p - 1))) (et_not (et_val (EvE.cast (ev_allL (bs := (List.range es.length).map fun i => wholeD (es.getD i .none) (p - 1)) (EvE.cast (ev_lcN [("entry", 5)] 5 (fun i => .bool (wholeD (es.getD i .none) (p - 1))) (ei_t (ev_v 4)) (by omega) ?_) ?_)) ?_))) (fun h4 U5 l5 => ?_) fun h4 U5 l5 => ?_
    · intro i d U hd l s H0 C cl fp gb
      rw [getD_some hd]
      exact ev_call C1 hr (ea_cons (ev_v 5) (ea_cons (ev_sub (ev_v 1) ev_int) ea_nil)) ⟨d, p - 1, rfl, rfl⟩
    · rw [List.map_map] <;> rfl
    · rw [all_range_map (fun d => wholeD d (p - 1))]
    · refine wb_ret ev_bl fun Y l2 => ⟨?_, (((lw.tr lz).tr l).tr l5).tr l2⟩
      rw [all_false hd (by rw [e2]; simpa using h4)]
    · refine wb_nil ⟨l.g.tr l5.g, ⟨_, rfl⟩, ?_, ((lw.tr lz).tr l).tr l5⟩
      rw [all_take hd, hk, e2, Bool.true_and]
      simpa using h4
  · rintro δ1 V0 ⟨⟨a, rfl⟩, hk, lw⟩
    rw [List.take_length] at hk
    exact wb_ret ev_bl fun Z l6 => ⟨by rw [hk], lw.tr l6⟩
theorem c_Lis_table (T : At K mg "_law_is_table" s_L_is_table) (B : Bn mg) (C1 : Cal P w K mg base CX0 1 "_law_whole" p_L_whole (SpP K R_whole)) : Cal P w K mg base CX0 2 "_law_is_table" p_L_is_table (SpP K R_table) := by
  refine cal_pure T b_L_is_table sc_L_is_table B (fun ds d h => ?_) fun f cdv A outer s H E => ?_
  · obtain ⟨v, p, l, m, rfl, _⟩ := h
    rfl
  intro X gX hr W ds d h
  obtain ⟨v, p, n, m, rfl, hT, rfl⟩ := h
  refine wb_when (et_w (ew_or (u := match v with | .tuple ds => !decide ((ds.length : Int) = n) | _ => false) (et_not (et_val (ev_isT (ev_v 0)))) fun h => ew_or1 ?_)) (fun h1 U l => ?_) fun h1 U l => ?_
  · cases v with
    | tuple ds => exact et_neI (ev_len (.t _) (ev_v 0)) (ev_v 2)
    | _ => cases h
  · refine wb_ret ev_bl fun Z l2 => ⟨?_, l.tr l2⟩
    cases v with
    | tuple ds =>
      have h2 : (!decide ((ds.length : Int) = n)) = true := h1
      show PyData.bool false = PyData.bool (decide ((ds.length : Int) = n) && _)
      rw [Bool.not_eq_true' _ |>.mp h2, Bool.false_and]
    | _ => rfl
  obtain ⟨ls, rfl⟩ : ∃ ds, v = .tuple ds := by
    rcases tup_cases v with q | h2
    · exact q
    · rw [h2] at h1; cases h1
  have hl : decide ((ls.length : Int) = n) = true := by
    have h2 : (!decide ((ls.length : Int) = n)) = false := h1
    simpa using h2
  obtain ⟨hlen, hpl⟩ := hT _ rfl
  have ed : tableB (.tuple ls) p n m = ls.all (lineB p m) := by
    show (decide _ && _) = _
    rw [hl, Bool.true_and]
  rw [ed]
  have hg : ∀ i, pl 10 (ls.getD i .none) = true := pl_getD fun d hd => (hpl d hd).1
  let sh : PyData → Bool := fun d => !(match d with | .tuple es => decide ((es.length : Int) = m) | _ => false)
  refine wb_when (t := ls.any sh) (EvT.cast (et_some (ev_lcNF [("_law_line", 4)] 4 (fun i => sh (ls.getD i .none)) (fun i => ls.getD i .none) (ei_t (ev_v 0)) (by omega) ?_ ?_) (pl_pick (n := 10) hg)) ?_) (fun h2 U2 l2 => ?_) fun h2 U2 l2 => ?_
  · intro i d U hd l s H0 C cl fp gb
    rw [getD_some hd]
    refine EvT.cast (et_w (ew_or (u := match d with | .tuple es => !decide ((es.length : Int) = m) | _ => false) (et_not (et_val (ev_isT (ev_v 4)))) fun h => ew_or1 ?_)) ?_
    · cases d with
      | tuple ds => exact et_neI (ev_len (.t _) (ev_v 4)) (ev_v 3)
      | _ => cases h
    · cases d <;> rfl
  · intro i d U hd l s H0 C cl fp gb hp
    rw [getD_some hd]
    exact ev_v 4
  · rw [filt_empty, any_range ls .none sh]
  · refine wb_ret ev_bl fun Y l3 => ⟨?_, (l.tr l2).tr l3⟩
    obtain ⟨d, hd, hs⟩ := List.any_eq_true.mp h2
    obtain ⟨i, hi⟩ := List.mem_iff_getElem?.mp hd
    rw [all_false hi]
    cases d with
    | tuple es =>
      have h3 : (!decide ((es.length : Int) = m)) = true := hs
      show (decide ((es.length : Int) = m) && _) = false
      rw [Bool.not_eq_true' _ |>.mp h3, Bool.false_and]
    | _ => rfl
  have hsh : ∀ d ∈ ls, ∃ es, d = .tuple es ∧ (es.length : Int) = m := fun d hd => by
    have h3 := List.any_eq_false.mp h2 d hd
    cases d with
    | tuple es =>
      refine ⟨es, rfl, ?_⟩
      have h4 : ¬ (!decide ((es.length : Int) = m)) = true := h3
      simpa using h4
    | _ => exact absurd rfl h3
  let bd : PyData → Bool := fun d => !lineB p m d
  refine wb_ret (EvE.cast (ev_none' (ev_lcNF [("_law_line", 4)] 4 (fun i => bd (ls.getD i .none)) (fun i => ls.getD i .none) (ei_t (ev_v 0)) (by omega) ?_ ?_) (pl_pick (n := 10) hg)) ?_) fun Y l3 => ⟨rfl, (l.tr l2).tr l3⟩
  · intro i d U hd l s H0 C cl fp gb
    rw [getD_some hd]
    have hmem := List.mem_of_getElem? hd
    obtain ⟨es, rfl, hm⟩ := hsh d hmem
    have hes := (hpl _ hmem).2 _ rfl
    refine EvT.cast (et_some (ev_lcNF [("_law_x", 5)] 5 (fun i => !wholeD (es.getD i .none) (p - 1)) (fun i => es.getD i .none) (ei_t (ev_v 4)) (by omega) ?_ ?_) (pl_pick (n := 10) (pl_getD fun d hd => pl_inv_t (hpl _ hmem).1 hd))) ?_
    · intro j d U hd l s H0 C cl fp gb
      rw [getD_some hd]
      exact et_not (et_val (ev_call C1 hr (ea_cons (ev_v 5) (ea_cons (ev_sub (ev_v 1) ev_int) ea_nil)) ⟨d, p - 1, rfl, rfl⟩))
    · intro j d U hd l s H0 C cl fp gb hp
      rw [getD_some hd]
      exact ev_v 5
    · rw [filt_empty, any_range es .none (fun d => !wholeD d (p - 1)), any_not_all]
      show _ = !(decide ((es.length : Int) = m) && _)
      rw [decide_eq_true hm, Bool.true_and]
      congr 1
      congr 1
      funext x
      exact Bool.not_not _
  · intro i d U hd l s H0 C cl fp gb hp
    rw [getD_some hd]
    exact ev_v 4
  · have e := filt_empty (List.range ls.length) (fun i => bd (ls.getD i .none)) (fun i => ls.getD i .none)
    rw [any_range ls .none bd, any_not_all] at e
    have e2 := congrArg (!·) e
    simp only [Bool.not_not] at e2
    rw [e2]
    congr 1
    congr 1
    funext x
    exact Bool.not_not _
end
end Pk
set_option Elab.async false
set_option linter.all false
set_option maxRecDepth 100000
set_option maxHeartbeats 4000000
namespace Pk
open PySem PySem.Spec L2
open PyProof.Rows hiding St
/-! ### tables of ints -/
abbrev Tb := List (List Int)
def tabD (T : Tb) : PyData := .tuple (T.map iT)
theorem tab_at {T : Tb} {i : Nat} (h : i < T.length) : (T.map iT)[i]? = some (iT (T.getD i [])) := by
  rw [List.getElem?_map, List.getElem?_eq_getElem h, List.getD_eq_getElem?_getD, List.getElem?_eq_getElem h] <;> rfl
theorem getD_in {T : Tb} {i : Nat} (h : i < T.length) : T.getD i [] ∈ T := by
  rw [List.getD_eq_getElem?_getD, List.getElem?_eq_getElem h]
  exact List.getElem_mem h
theorem getD0_in {r : List Int} {i : Nat} (h : i < r.length) : r.getD i 0 ∈ r := by
  rw [List.getD_eq_getElem?_getD, List.getElem?_eq_getElem h]
  exact List.getElem_mem h
def behRow (p : Int) (one : Tb) (m : Nat) (line : List Int) : List Int := (List.range m).map fun j => ((List.range one.length).map fun k => line.getD k 0 * (one.getD k []).getD j 0).sum % p
def behT (p : Int) (one other : Tb) (m : Nat) : Tb := other.map (behRow p one m)
theorem beh_len (p : Int) (one other : Tb) (m : Nat) : (behT p one other m).length = other.length := by unfold behT; rw [List.length_map]
theorem beh_succ {p : Int} {one other : Tb} {m i : Nat} (h : i < other.length) : behT p one (other.take (i + 1)) m = behT p one (other.take i) m ++ [behRow p one m (other.getD i [])] := by
  unfold behT
  rw [List.take_add_one, List.getElem?_eq_getElem h, List.map_append, List.getD_eq_getElem?_getD, List.getElem?_eq_getElem h] <;> rfl
def R_behind : List PyData → PyData → Prop := fun ds d => ∃ (p : Int) (one other : Tb) (m : Nat), ds = [iI p, tabD one, tabD other, iI (m : Int)] ∧ 0 < p ∧ m ≤ 1000 ∧ one.length ≤ 1000 ∧ other.length ≤ 1000 ∧
  (∀ r ∈ other, one.length ≤ r.length ∧ ∀ x ∈ r, 0 ≤ x ∧ x < 100) ∧ (∀ r ∈ one, m ≤ r.length) ∧ True ∧ d = tabD (behT p one other m)
section
variable {P : Program} {w : World} {K : PySem.W.Frag} {mg : Str → Option Value} {base : Heap}
theorem c_behind (T : At K mg "behind_table" s_behind_table) (B : Bn mg) : Cal P w K mg base CX0 1 "behind_table" p_behind_table (SpP K R_behind) := by
  refine cal_pure T b_behind_table sc_behind_table B (fun ds d h => ?_) fun f cdv A outer s H E => ?_
  · obtain ⟨p, one, other, m, rfl, _⟩ := h
    rfl
  intro X gX hr W ds d h
  obtain ⟨p, one, other, m, rfl, hp, hm, h1, h2, h3, h4, h5, rfl⟩ := h
  refine wb_new 4 fun l hl => ?_
  refine wb_for (ei_t (ev_v 2)) (fun i δ1 Z => (∃ a : Option Sl, δ1 = [some (.d (.int p)), some (.d (tabD one)), some (.d (tabD other)), some (.d (.int (m : Int))), some (.v (.ref l)), a, none, none]) ∧ Le W Z ∧ Z.G l = none ∧ ∃ vs, Z.H l = some (.lst vs) ∧ RpL K Z.G vs ((behT p one (other.take i) m).map iT)) (fun Z lz => ⟨⟨none, rfl⟩, (Wd.put_le (Le.refl W) hl).tr lz, lz.fr _ (by show upd W.H l _ l ≠ none; rw [upd_same]; simp) (W.gnone hl), [], lz.h _ _ upd_same, .nil⟩) ?_ ?_
  · rintro i d δ1 V0 hd ⟨⟨a, rfl⟩, lv, gl, vs, el, rv⟩ Z lz
    have hi : i < other.length := by simpa using (List.getElem?_eq_some_iff.mp hd).1
    rw [tab_at hi] at hd
    obtain rfl := Option.some.inj hd
    have hrow : other.getD i [] ∈ other := getD_in hi
    have hlv := rv.len
    rw [List.length_map, beh_len, List.length_take] at hlv
    refine ⟨_, _, tg_name 5, ?_⟩
    refine wb_app 4 (d := iT (behRow p one m (other.getD i []))) (lz.h _ _ el) (lz.fr _ (by rw [el]; simp) gl) (by omega) (EvE.cast (ev_toTup (.l _) (ev_lcN [("j", 6)] 6 (fun j => .int (((List.range one.length).map fun k => (other.getD i []).getD k 0 * (one.getD k []).getD j 0).sum % p)) (ei_r1 (ev_v 3) (by omega)) (by rw [rngN_len]; omega) ?_)) ?_) fun U v l1 hg' rv2 => wb_nil ?_
    · intro j d U hd l s H0 C cl fp gb
      obtain ⟨hj, rfl⟩ := rngN_at hd
      have hj' : j < m := by omega
      refine ev_mod (ev_sumL (is := (List.range one.length).map fun k => (other.getD i []).getD k 0 * (one.getD k []).getD j 0) (EvE.cast (ev_lcN [("k", 7)] 7 (fun k => .int ((other.getD i []).getD k 0 * (one.getD k []).getD j 0)) (ei_r1 (ev_len (.t _) (ev_v 1)) (by rw [List.length_map]; omega)) (by rw [rngN_len, List.length_map]; omega) ?_) ?_)) (ev_v 0) hp
      · intro k d U hd l s H0 C cl fp gb
        obtain ⟨hk, rfl⟩ := rngN_at hd
        have hk' : k < one.length := by simpa using hk
        have hkr : k < (other.getD i []).length := Nat.lt_of_lt_of_le hk' (h3 _ hrow).1
        have hjr : j < (one.getD k []).length := Nat.lt_of_lt_of_le hj' (h4 _ (getD_in hk'))
        have hx := (h3 _ hrow).2 _ (getD0_in hkr)
        exact ev_mul (ev_ix (i := k) (.t _) (ev_v 5) (ev_v 7) (ints_at hkr)) (ev_ix (i := j) (.t _) (ev_ix (i := k) (.t _) (ev_v 1) (ev_v 7) (tab_at hk')) (ev_v 6) (ints_at hjr)) (.inl ⟨by omega, by omega⟩)
      · rw [rngN_len, List.length_map, List.map_map] <;> rfl
    · rw [rngN_len, Int.toNat_natCast]
      show PyData.tuple _ = PyData.tuple ((behRow p one m (other.getD i [])).map PyData.int)
      unfold behRow
      rw [List.map_map] <;> rfl
    · have hl' := lz.h _ _ el
      refine ⟨l1.g, ⟨_, rfl⟩, Wd.put_le ((lv.tr lz).tr l1) hl, hg', _, upd_same, ?_⟩
      rw [beh_succ hi, List.map_append]
      exact (rv.up (lz.g.tr l1.g)).app (.one rv2)
  · rintro δ1 V0 ⟨⟨a, rfl⟩, lv, gl, vs, el, rv⟩
    rw [List.length_map, List.take_length] at rv
    refine wb_fixL 4 el gl rv fun F hF sg hle eF => ?_
    exact wb_ret (ev_toTup (.l _) (ev_v 4)) fun Z l6 => ⟨rfl, (hle W lv hl).tr l6⟩
theorem c_Lbehind (T : At K mg "_law_behind" s_L_behind) (B : Bn mg) : Cal P w K mg base CX0 1 "_law_behind" p_L_behind (SpP K R_behind) := by
  refine cal_pure T b_L_behind sc_L_behind B (fun ds d h => ?_) fun f cdv A outer s H E => ?_
  · obtain ⟨p, one, other, m, rfl, _⟩ := h
    rfl
  intro X gX hr W ds d h
  obtain ⟨p, one, other, m, rfl, hp, hm, h1, h2, h3, h4, h5, rfl⟩ := h
  refine wb_new 4 fun l hl => ?_
  refine wb_for (ei_t (ev_v 2)) (fun i δ1 Z => (∃ a : Option Sl, δ1 = [some (.d (.int p)), some (.d (tabD one)), some (.d (tabD other)), some (.d (.int (m : Int))), some (.v (.ref l)), a, none, none]) ∧ Le W Z ∧ Z.G l = none ∧ ∃ vs, Z.H l = some (.lst vs) ∧ RpL K Z.G vs ((behT p one (other.take i) m).map iT)) (fun Z lz => ⟨⟨none, rfl⟩, (Wd.put_le (Le.refl W) hl).tr lz, lz.fr _ (by show upd W.H l _ l ≠ none; rw [upd_same]; simp) (W.gnone hl), [], lz.h _ _ upd_same, .nil⟩) ?_ ?_
  · rintro i d δ1 V0 hd ⟨⟨a, rfl⟩, lv, gl, vs, el, rv⟩ Z lz
    have hi : i < other.length := by simpa using (List.getElem?_eq_some_iff.mp hd).1
    rw [tab_at hi] at hd
    obtain rfl := Option.some.inj hd
    have hrow : other.getD i [] ∈ other := getD_in hi
    have hlv := rv.len
    rw [List.length_map, beh_len, List.length_take] at hlv
    refine ⟨_, _, tg_name 5, ?_⟩
    refine wb_app 4 (d := iT (behRow p one m (other.getD i []))) (lz.h _ _ el) (lz.fr _ (by rw [el]; simp) gl) (by omega) (EvE.cast (ev_toTup (.l _) (ev_lcN [("_law_j", 6)] 6 (fun j => .int (((List.range one.length).map fun k => (other.getD i []).getD k 0 * (one.getD k []).getD j 0).sum % p)) (ei_r1 (ev_v 3) (by omega)) (by rw [rngN_len]; omega) ?_)) ?_) fun U v l1 hg' rv2 => wb_nil ?_
    · intro j d U hd l s H0 C cl fp gb
      obtain ⟨hj, rfl⟩ := rngN_at hd
      have hj' : j < m := by omega
      refine ev_mod (ev_toInt (ev_sumL (is := (List.range one.length).map fun k => (other.getD i []).getD k 0 * (one.getD k []).getD j 0) (EvE.cast (ev_lcN [("_law_k", 7)] 7 (fun k => .int ((other.getD i []).getD k 0 * (one.getD k []).getD j 0)) (ei_r1 (ev_len (.t _) (ev_v 1)) (by rw [List.length_map]; omega)) (by rw [rngN_len, List.length_map]; omega) ?_) ?_))) (ev_v 0) hp
      · intro k d U hd l s H0 C cl fp gb
        obtain ⟨hk, rfl⟩ := rngN_at hd
        have hk' : k < one.length := by simpa using hk
        have hkr : k < (other.getD i []).length := Nat.lt_of_lt_of_le hk' (h3 _ hrow).1
        have hjr : j < (one.getD k []).length := Nat.lt_of_lt_of_le hj' (h4 _ (getD_in hk'))
        have hx := (h3 _ hrow).2 _ (getD0_in hkr)
        exact ev_mul (ev_ix (i := k) (.t _) (ev_v 5) (ev_v 7) (ints_at hkr)) (ev_ix (i := j) (.t _) (ev_ix (i := k) (.t _) (ev_v 1) (ev_v 7) (tab_at hk')) (ev_v 6) (ints_at hjr)) (.inl ⟨by omega, by omega⟩)
      · rw [rngN_len, List.length_map, List.map_map] <;> rfl
    · rw [rngN_len, Int.toNat_natCast]
      show PyData.tuple _ = PyData.tuple ((behRow p one m (other.getD i [])).map PyData.int)
      unfold behRow
      rw [List.map_map] <;> rfl
    · have hl' := lz.h _ _ el
      refine ⟨l1.g, ⟨_, rfl⟩, Wd.put_le ((lv.tr lz).tr l1) hl, hg', _, upd_same, ?_⟩
      rw [beh_succ hi, List.map_append]
      exact (rv.up (lz.g.tr l1.g)).app (.one rv2)
  · rintro δ1 V0 ⟨⟨a, rfl⟩, lv, gl, vs, el, rv⟩
    rw [List.length_map, List.take_length] at rv
    refine wb_fixL 4 el gl rv fun F hF sg hle eF => ?_
    exact wb_ret (ev_toTup (.l _) (ev_v 4)) fun Z l6 => ⟨rfl, (hle W lv hl).tr l6⟩
end
end Pk
set_option Elab.async false
set_option linter.all false
set_option maxRecDepth 100000
set_option maxHeartbeats 4000000
namespace Pk
open PySem PySem.Spec L2
open PyProof.Rows hiding St
/-! ### the first place, ascending pairs -/
theorem find_at {n i : Nat} {f : Nat → Bool} (h : ∀ j, j < i → f j = false) (hi : i < n) (hf : f i = true) : (List.range n).find? f = some i := by
  induction n with
  | zero => omega
  | succ n ih =>
    rw [List.range_succ, List.find?_append]
    by_cases e : i = n
    · subst e
      have z : (List.range i).find? f = none := List.find?_eq_none.mpr fun j hj => by rw [h j (List.mem_range.mp hj)]; decide
      rw [z]
      simp [hf]
    · rw [ih (by omega)] <;> rfl
theorem find_none {n : Nat} {f : Nat → Bool} (h : ∀ j, j < n → f j = false) : (List.range n).find? f = none := List.find?_eq_none.mpr fun j hj => by rw [h j (List.mem_range.mp hj)]; decide
theorem ltP_iff (p q : Pr) : ltP p q = true ↔ p.1 < q.1 ∨ (p.1 = q.1 ∧ p.2 < q.2) := by
  unfold ltP
  rw [HT.lexLt_cons, HT.lexLt_cons, HT.lexLt_nil_nil]
  by_cases h : p.1 = q.1
  · rw [if_pos h]
    by_cases h2 : p.2 = q.2
    · rw [if_pos h2]; simp [h, h2]
    · rw [if_neg h2]; simp [h]
  · rw [if_neg h]; simp [h]
theorem asc_lt {ps : List Pr} (h : ascB ps = true) : ∀ (k i : Nat), i + k + 1 < ps.length → ltP (ps.getD i (0, 0)) (ps.getD (i + k + 1) (0, 0)) = true := by
  have step : ∀ i, i + 1 < ps.length → ltP (ps.getD i (0, 0)) (ps.getD (i + 1) (0, 0)) = true := fun i hi => List.all_eq_true.mp h i (List.mem_range.mpr (by omega))
  intro k
  induction k with
  | zero => exact fun i hi => step i hi
  | succ k ih =>
    intro i hi
    have h1 := (ltP_iff _ _).mp (ih i (by omega))
    have h2 := (ltP_iff _ _).mp (step (i + k + 1) (by omega))
    rw [show i + (k + 1) + 1 = i + k + 1 + 1 by omega, ltP_iff]
    omega
theorem asc_nodup {ps : List Pr} (h : ascB ps = true) : ps.Nodup := by
  rw [List.Nodup, List.pairwise_iff_getElem]
  intro i j hi hj hij e
  have z := (ltP_iff _ _).mp (asc_lt h (j - i - 1) i (by omega))
  rw [show i + (j - i - 1) + 1 = j by omega, List.getD_eq_getElem?_getD, List.getD_eq_getElem?_getD, List.getElem?_eq_getElem hi, List.getElem?_eq_getElem hj] at z
  simp only [Option.getD_some, e] at z
  omega
/-- the place of a pair -/
def ixP (ps : List Pr) (q : Pr) : Nat := ps.findIdx fun r => decide (r = q)
theorem ixP_at {ps : List Pr} {q : Pr} (h : q ∈ ps) : ps[ixP ps q]? = some q := by
  have hl : ixP ps q < ps.length := List.findIdx_lt_length_of_exists ⟨q, h, decide_eq_true rfl⟩
  rw [List.getElem?_eq_getElem hl]
  have z := List.findIdx_getElem (xs := ps) (p := fun r => decide (r = q)) (w := hl)
  exact congrArg some (of_decide_eq_true z)
theorem ixP_lt {ps : List Pr} {q : Pr} (h : q ∈ ps) : ixP ps q < ps.length := (List.getElem?_eq_some_iff.mp (ixP_at h)).1
theorem ixP_first {ps : List Pr} {q : Pr} {m : Nat} (h : m < ixP ps q) : ps[m]? ≠ some q := fun e => by
  have hl := (List.getElem?_eq_some_iff.mp e).1
  have z := List.not_of_lt_findIdx (xs := ps) (p := fun r => decide (r = q)) h
  have e2 : ps[m] = q := by
    rw [List.getElem?_eq_getElem hl] at e
    exact Option.some.inj e
  rw [e2, decide_eq_true rfl] at z
  cases z
/-! ### lead, put -/
def R_lead : List PyData → PyData → Prop := fun ds d => ∃ (p0 s : PyData) (n : PyData) (ps : List Pr) (ts : List PyData) (q : Pr), ds = [.tuple [p0, .tuple [n, psD ps], s, .tuple ts], iI q.1, iI q.2] ∧ q.1 ≠ q.2 ∧ q ∈ ps ∧ ts[ixP ps q]? = some d
def R_put : List PyData → PyData → Prop := fun ds d => ∃ (xs : List PyData) (k : Nat) (t : PyData), ds = [.tuple xs, iI (k : Int), t] ∧ xs.length ≤ 100000 ∧ d = .tuple (xs.take k ++ [t] ++ xs.drop (k + 1))
section
variable {P : Program} {w : World} {K : PySem.W.Frag} {mg : Str → Option Value} {base : Heap}
theorem c_lead (T : At K mg "_law_lead" s_L_lead) (B : Bn mg) : Cal P w K mg base CX0 2 "_law_lead" p_L_lead (SpP K R_lead) := by
  refine cal_pure T b_L_lead sc_L_lead B (fun ds d h => ?_) fun f cdv A outer s H E => ?_
  · obtain ⟨p0, s, n, ps, ts, q, rfl, _⟩ := h
    rfl
  intro X gX hr W ds d h
  obtain ⟨p0, s0, n, ps, ts, q, rfl, hne, hq, ht⟩ := h
  refine wb_when (t := decide (q.1 = q.2)) (et_eqI (ev_v 1) (ev_v 2)) (fun h1 U l => absurd (of_decide_eq_true h1) hne) fun h1 U l => ?_
  have hp : isPs (ps.map pD) = true := by
    cases ps with
    | nil => simp at hq
    | cons a r => rfl
  refine wb_ret (ev_ix (.t _) (ev_ix (i := 3) (.t _) (ev_v 0) ev_int rfl) (ev_tix (j := ixP ps q) (z := pD q) (ev_ix (i := 1) (.t _) (ev_ix (i := 1) (.t _) (ev_v 0) ev_int rfl) ev_int rfl) (ev_tup (ea_cons (ev_v 1) (ea_cons (ev_v 2) ea_nil))) hp (pl_plain (pl_psL ps)) (pl_plain (pl_pD q)) ?_ ?_ ?_) ht) fun Z l2 => ⟨rfl, l.tr l2⟩
  · rw [List.getElem?_map, ixP_at hq] <;> rfl
  · exact (eqv_pD q q).trans (decide_eq_true rfl)
  · intro m z' hm hz
    rw [List.getElem?_map] at hz
    cases e : ps[m]? with
    | none => rw [e] at hz; cases hz
    | some r =>
      rw [e] at hz
      obtain rfl := Option.some.inj hz
      exact (eqv_pD r q).trans (decide_eq_false fun e2 => ixP_first hm (e2 ▸ e))
theorem c_put (T : At K mg "_law_put" s_L_put) (B : Bn mg) : Cal P w K mg base CX0 1 "_law_put" p_L_put (SpP K R_put) := by
  refine cal_pure T b_L_put sc_L_put B (fun ds d h => ?_) fun f cdv A outer s H E => ?_
  · obtain ⟨xs, k, t, rfl, _⟩ := h
    rfl
  intro X gX hr W ds d h
  obtain ⟨xs, k, t, rfl, hl, rfl⟩ := h
  refine wb_ret (EvE.cast (ev_catT (ev_catT (ev_slT (i := none) (j := some (k : Int)) (ev_v 0) eo_none (eo_some (ev_v 1))) (ev_tup (ea_cons (ev_v 2) ea_nil)) ?_) (ev_slT (i := some ((k + 1 : Nat) : Int)) (j := none) (ev_v 0) (eo_some (EvE.cast (ev_add (i := (k : Int)) (j := 1) (ev_v 1) ev_int) (by congr 1))) eo_none) ?_) ?_) fun U l => ⟨rfl, l⟩
  · rw [cutD_to, List.length_take, List.length_singleton]; omega
  · rw [cutD_to, cutD_from, List.length_append, List.length_take, List.length_drop, List.length_singleton]; omega
  · rw [cutD_to, cutD_from]
end
/-! ### table_place -/
def szAt (ss : List Int) (x : Int) : Int := ss.getD x.toNat 0
def optI : Option Int → PyData
  | none => .none
  | some i => .int i
def badTab (p : Int) (ps : List Pr) (ss : List Int) (ts : List PyData) (i : Nat) : Bool := !tableB (ts.getD i .none) p (szAt ss (ps.getD i (0, 0)).2) (szAt ss (ps.getD i (0, 0)).1)
def tabIx (p : Int) (ps : List Pr) (ss : List Int) (t : PyData) : Option Int := match t with
  | .tuple ts => if ts.length = ps.length then ((List.range ps.length).find? (badTab p ps ss ts)).map fun i : Nat => (i : Int) else some (-1)
  | _ => some (-1)
def TameT (t : PyData) : Prop := ∀ ts, t = .tuple ts → ts.length ≤ 1000 ∧ ∀ x ∈ ts, pl 11 x = true ∧ TameTab x
def R_tplace : List PyData → PyData → Prop := fun ds d => ∃ (p n : Int) (ps : List Pr) (ss : List Int) (t : PyData), ds = [iI p, .tuple [.int n, psD ps], iT ss, t] ∧ inN n ps ∧ (ss.length : Int) = n ∧ TameT t ∧ d = optI (tabIx p ps ss t)
theorem sz_at {n : Int} {ps : List Pr} {ss : List Int} (hin : inN n ps) (hs : (ss.length : Int) = n) {q : Pr} (hq : q ∈ ps) : (ss.map PyData.int)[q.1.toNat]? = some (.int (szAt ss q.1)) ∧ (ss.map PyData.int)[q.2.toNat]? = some (.int (szAt ss q.2)) := by
  obtain ⟨a, b, c, d⟩ := hin q hq
  exact ⟨ints_at (by omega), ints_at (by omega)⟩
theorem toNat_int {i : Int} (h : 0 ≤ i) : PyData.int i = .int ((i.toNat : Nat) : Int) := by congr 1; omega
section
variable {P : Program} {w : World} {K : PySem.W.Frag} {mg : Str → Option Value} {base : Heap}
theorem c_table_place (T : At K mg "table_place" s_table_place) (B : Bn mg) (C2 : Cal P w K mg base CX0 2 "is_table" p_is_table (SpP K R_table)) : Cal P w K mg base CX0 3 "table_place" p_table_place (SpP K R_tplace) := by
  refine cal_pure T b_table_place sc_table_place B (fun ds d h => ?_) fun f cdv A outer s H E => ?_
  · obtain ⟨p, n, ps, ss, t, rfl, _⟩ := h
    rfl
  intro X gX hr W ds d h
  obtain ⟨p, n, ps, ss, t, rfl, hin, hs, hT, rfl⟩ := h
  refine wb_when (et_w (ew_or (u := match t with | .tuple ts => !decide ((ts.length : Int) = (ps.length : Int)) | _ => false) (et_not (et_val (ev_isT (ev_v 3)))) fun h => ew_or1 ?_)) (fun h1 U l => ?_) fun h1 U l => ?_
  · cases t with
    | tuple ts =>
      refine EvT.cast (et_neI (ev_len (.t _) (ev_v 3)) (ev_len (.t _) (ev_ix (i := 1) (.t _) (ev_v 1) ev_int rfl))) ?_
      rw [List.length_map]
    | _ => cases h
  · refine wb_ret (EvE.cast (ev_neg ev_int) ?_) fun Z l2 => ⟨rfl, l.tr l2⟩
    cases t with
    | tuple ts =>
      have h2 : (!decide ((ts.length : Int) = (ps.length : Int))) = true := h1
      have h3 : ¬ (ts.length : Int) = (ps.length : Int) := by simpa using h2
      show PyData.int (-1) = optI (if ts.length = ps.length then _ else _)
      rw [if_neg (by omega)] <;> rfl
    | _ => rfl
  obtain ⟨ts, rfl⟩ : ∃ ds, t = .tuple ds := by
    rcases tup_cases t with q | h2
    · exact q
    · rw [h2] at h1; cases h1
  have hl : ts.length = ps.length := by
    have h2 : (!decide ((ts.length : Int) = (ps.length : Int))) = false := h1
    have h3 : (ts.length : Int) = (ps.length : Int) := by simpa using h2
    omega
  obtain ⟨hlen, htab⟩ := hT _ rfl
  have ed : tabIx p ps ss (.tuple ts) = ((List.range ps.length).find? (badTab p ps ss ts)).map fun i : Nat => (i : Int) := if_pos hl
  rw [ed]
  refine wb_for (ei_enumT (ev_ix (i := 1) (.t _) (ev_v 1) ev_int rfl)) (fun i δ1 Z => (∃ a b c : Option Sl, δ1 = [some (.d (.int p)), some (.d (.tuple [.int n, psD ps])), some (.d (iT ss)), some (.d (.tuple ts)), a, b, c]) ∧ (∀ j, j < i → badTab p ps ss ts j = false) ∧ Le W Z) (fun Z lz => ⟨⟨none, none, none, rfl⟩, fun j hj => absurd hj (by omega), l.tr lz⟩) ?_ ?_
  · rintro i d δ1 V0 hd ⟨⟨a, b, c, rfl⟩, hk, lw⟩ Z lz
    obtain ⟨x, hx, rfl⟩ := enumD_at hd
    have hi : i < ps.length := by simpa using (List.getElem?_eq_some_iff.mp hx).1
    rw [pD_at hi] at hx
    obtain rfl := Option.some.inj hx
    have hq := getD_mem hi
    obtain ⟨q1, q2, q3, q4⟩ := hin _ hq
    obtain ⟨e1, e2⟩ := sz_at hin hs hq
    refine ⟨_, _, tg_tup (tgs_cons (tg_name 4) (tgs_cons (tg_tup (tgs_cons (tg_name 5) (tgs_cons (tg_name 6) tgs_nil)) rfl) tgs_nil)) rfl, ?_⟩
    have hti : ts[i]? = some (ts.getD i .none) := by rw [List.getD_eq_getElem?_getD, List.getElem?_eq_getElem (by omega)] <;> rfl
    refine wb_when (t := badTab p ps ss ts i) (et_not (et_val (ev_call (d := .bool (tableB (ts.getD i .none) p (szAt ss (ps.getD i (0, 0)).2) (szAt ss (ps.getD i (0, 0)).1))) C2 hr (ea_cons (ev_ix (i := i) (.t _) (ev_v 3) (ev_v 4) hti) (ea_cons (ev_v 0) (ea_cons (ev_ix (.t _) (ev_v 2) (EvE.cast (ev_v 6) (toNat_int q3)) e2) (ea_cons (ev_ix (.t _) (ev_v 2) (EvE.cast (ev_v 5) (toNat_int q1)) e1) ea_nil))))
      ⟨_, p, _, _, rfl, (htab _ (List.mem_of_getElem? hti)).2, rfl⟩))) (fun h4 U5 l5 => ?_) fun h4 U5 l5 => ?_
    · refine wb_ret (ev_v 4) fun Y l2 => ⟨?_, ((lw.tr lz).tr l5).tr l2⟩
      rw [find_at hk hi h4] <;> rfl
    · refine wb_nil ⟨l5.g, ⟨_, _, _, rfl⟩, fun j hj => ?_, (lw.tr lz).tr l5⟩
      by_cases e : j = i
      · rw [e]; exact h4
      · exact hk j (by omega)
  · rintro δ1 V0 ⟨⟨a, b, c, rfl⟩, hk, lw⟩
    rw [enumD_len, List.length_map] at hk
    refine wb_ret ev_non fun Z l6 => ⟨?_, lw.tr l6⟩
    rw [find_none hk] <;> rfl
end
end Pk
set_option Elab.async false
set_option linter.all false
set_option maxRecDepth 100000
set_option maxHeartbeats 4000000
namespace Pk
open PySem PySem.Spec L2
open PyProof.Rows hiding St
/-! ### dict(zip(pairs, tables)) -/
theorem zipK_out {k : List Key} : ∀ {kbs : List (List Key × Addr)} {ws : List V} {acc : List (List Key × V)}, k ∉ kbs.map (·.1) → valV (zipK acc kbs ws) k = valV acc k
  | [], ws, acc, _ => by simp [zipK]
  | kb :: kbs, [], acc, _ => by simp [zipK]
  | kb :: kbs, v :: ws, acc, h => by
    have h' : k ≠ kb.1 ∧ k ∉ kbs.map (·.1) := by simpa using h
    show valV (zipK (putK acc kb.1 v) kbs ws) k = _
    rw [zipK_out h'.2, valV_put, if_neg h'.1]
theorem zipK_in : ∀ {kbs : List (List Key × Addr)} {ws : List V} {acc : List (List Key × V)} {j : Nat} {kb : List Key × Addr} {v : V}, (kbs.map (·.1)).Nodup → kbs[j]? = some kb → ws[j]? = some v → valV (zipK acc kbs ws) kb.1 = some v
  | [], _, _, _, _, _, _, hk, _ => by simp at hk
  | _ :: _, [], _, _, _, _, _, _, hv => by simp at hv
  | k0 :: kbs, u :: ws, acc, 0, kb, v, nd, hk, hv => by
    have nd' : k0.1 ∉ kbs.map (·.1) ∧ (kbs.map (·.1)).Nodup := by rw [List.map_cons, List.nodup_cons] at nd; exact nd
    simp at hk hv
    subst hk hv
    show valV (zipK (putK acc k0.1 u) kbs ws) k0.1 = _
    rw [zipK_out nd'.1, valV_put, if_pos rfl]
  | k0 :: kbs, u :: ws, acc, j + 1, kb, v, nd, hk, hv => by
    have nd' : k0.1 ∉ kbs.map (·.1) ∧ (kbs.map (·.1)).Nodup := by rw [List.map_cons, List.nodup_cons] at nd; exact nd
    show valV (zipK (putK acc k0.1 u) kbs ws) kb.1 = _
    exact zipK_in nd'.2 (by simpa using hk) (by simpa using hv)
theorem keys_of {K : PySem.W.Frag} {G : Hp} : ∀ {ps : List Pr} {vs : List V}, RpL K G vs (ps.map pD) → ∃ kbs : List (List Key × Addr), vs = kbs.map (fun kb => V.ref kb.2) ∧ kbs.map (·.1) = ps.map keyP ∧ ∀ kb ∈ kbs, G kb.2 = some (.tup (kb.1.map kV))
  | [], _, h => by cases h; exact ⟨[], rfl, rfl, fun _ h => by simp at h⟩
  | p :: ps, _, h => by
    cases h with
    | cons h k =>
      obtain ⟨b, rfl, hb⟩ := Rp.pair h
      obtain ⟨kbs, e1, e2, e3⟩ := keys_of k
      refine ⟨(keyP p, b) :: kbs, by rw [e1] <;> rfl, by rw [List.map_cons, List.map_cons, e2], fun kb hm => ?_⟩
      rcases List.mem_cons.mp hm with rfl | hm
      · exact hb
      · exact e3 kb hm
theorem nodup_keys {ps : List Pr} (h : ps.Nodup) : (ps.map keyP).Nodup := by
  rw [List.Nodup, List.pairwise_map]
  exact h.imp fun ne e => ne (keyP_inj e)
section
variable {K : PySem.W.Frag} {X : Cx} [g : Good K X] {δ : Sd} {W U : Wd} {a b : Expr} {pos : Pos} {P : Po} {rest : List Stmt}
theorem wb_dictZip (i : Nat) {ps : List Pr} {ts : List PyData} {y : Str} {py p p2 spos pos2 : Pos} (ha : EvE K X δ a W (psD ps)) (hb : EvE K X δ b W (.tuple ts)) (hl : ts.length = ps.length) (nd : ps.Nodup)
    (h : ∀ D f U, Le W U → KeyD U.G D f → (∀ q, q ∉ ps → f q = none) → (∀ q ∈ ps, ∃ v, f q = some v ∧ Rp K U.G v (ts.getD (ixP ps q) .none)) → WB K X (δ.set i (some (.v (.ref D)))) rest U P)
    (hN : X.N[i]? = some y := by rfl) (hx : Loc X.env.scope y := by first | exact Or.inl rfl | exact Or.inr rfl) (hd : Gl X "dict" := by rfl) (hz : Gl X "zip" := by rfl) (hf : X.fn y = true ∨ X.env.scope.names.lookup y = some .local := by first | exact .inl rfl | exact .inr rfl)
    (hst : starEach [a, b] X.env = (false, eval a X.env) :: starEach [b] X.env := by rfl) (hst2 : starEach [b] X.env = (false, eval b X.env) :: starEach [] X.env := by rfl) (hpl : (backTo pos (starEach [b] X.env)).any (·.1) = false := by rfl)
    (hs0 : starEach [.Call (.Name "zip" p) [a, b] [] pos] X.env = (false, eval (.Call (.Name "zip" p) [a, b] [] pos) X.env) :: starEach [] X.env := by rfl) (hpl0 : (backTo pos2 (starEach [] X.env)).any (·.1) = false := by rfl)
    (hsw : swapsWith (.Call (.Name "dict" p2) [.Call (.Name "zip" p) [a, b] [] pos] [] pos2) (some (.Name y py)) spos.line X.env = pure false := by rfl) :
    WB K X δ (.Assign [.Name y py] (.Call (.Name "dict" p2) [.Call (.Name "zip" p) [a, b] [] pos] [] pos2) spos :: rest) W P :=
  wb_cons fun σ r => by
    refine (ps_set g.nd hN hx (pe_dictZip g.calm (by have := g.room.un; omega) hd (g.bn _ (by simp)) hz (g.bn _ (by simp)) (pa_cons (pe_w X a) (pa_cons (pe_w X b) pa_nil hst2) hst) hst hpl hs0 hpl0) hsw hf).w ?_
    refine ha W (Le.refl W) σ r _ fun va Z l ra => hb Z l σ (r.up l.g) _ fun vb Y l2 rb => ?_
    obtain ⟨a1, vs, rfl, sa, rla⟩ := (ra.up l2.g).tup_inv
    obtain ⟨b1, ws, rfl, sb, rlb⟩ := rb.tup_inv
    obtain ⟨kbs, e1, e2, e3⟩ := keys_of rla
    have lk : kbs.length = ps.length := by have := congrArg List.length e2; simpa using this
    rw [g.hK]
    refine ⟨a1, b1, kbs, ws, rfl, by rw [← e1]; exact Y.ex.t sa, Y.ex.t sb, by rw [rlb.len, hl, lk], fun kb hm => Y.ex _ _ (e3 kb hm), fun D hD => ?_⟩
    have lY := l.tr l2
    have sg := (Y.add_le (o := .dT (zipK [] kbs ws)) hD)
    refine ⟨_, Y.add D (.dT (zipK [] kbs ws)) hD, rfl, SRep.set (s := .v (.ref D)) (r.up (lY.tr sg).g) rfl i, h D (fun q => valV (zipK [] kbs ws) (keyP q)) _ (lY.tr sg) ⟨_, upd_same, fun q => rfl⟩ (fun q hq => ?_) fun q hq => ?_⟩
    · show valV (zipK [] kbs ws) (keyP q) = none
      rw [zipK_out, valV_nil]
      rw [e2]
      intro hm
      obtain ⟨r', hr', er⟩ := List.mem_map.mp hm
      exact hq (keyP_inj er ▸ hr')
    · have hj := ixP_at hq
      have hlt := ixP_lt hq
      have hk : kbs[ixP ps q]? = some (kbs[ixP ps q]'(by omega)) := List.getElem?_eq_getElem (by omega)
      have ek : (kbs[ixP ps q]'(by omega)).1 = keyP q := by
        have z : (kbs.map (·.1))[ixP ps q]? = (ps.map keyP)[ixP ps q]? := by rw [e2]
        rw [List.getElem?_map, List.getElem?_map, hk, hj] at z
        exact Option.some.inj z
      have ht : ts[ixP ps q]? = some (ts.getD (ixP ps q) .none) := by rw [List.getD_eq_getElem?_getD, List.getElem?_eq_getElem (by omega)] <;> rfl
      obtain ⟨v, hv, rv⟩ := rlb.at ht
      refine ⟨v, ?_, rv.up sg.g⟩
      show valV (zipK [] kbs ws) (keyP q) = some v
      rw [← ek]
      exact zipK_in (by rw [e2]; exact nodup_keys nd) hk hv
end
/-! ### ways_place -/
theorem eqv_intsAll : ∀ (a b : List Int), PyData.eqvAll (a.map PyData.int) (b.map PyData.int) = decide (a = b)
  | [], [] => by simp [PyData.eqvAll]
  | [], _ :: _ => by simp [PyData.eqvAll]
  | _ :: _, [] => by simp [PyData.eqvAll]
  | x :: a, y :: b => by
    rw [List.map_cons, List.map_cons]
    simp only [PyData.eqvAll]
    rw [eqv_int, eqv_intsAll a b]
    by_cases h : x = y <;> by_cases h2 : a = b <;> simp [h, h2]
theorem eqv_tabAll : ∀ (A B : Tb), PyData.eqvAll (A.map iT) (B.map iT) = decide (A = B)
  | [], [] => by simp [PyData.eqvAll]
  | [], _ :: _ => by simp [PyData.eqvAll]
  | _ :: _, [] => by simp [PyData.eqvAll]
  | x :: a, y :: b => by
    rw [List.map_cons, List.map_cons]
    simp only [PyData.eqvAll]
    rw [show PyData.eqv (iT x) (iT y) = decide (x = y) from by simp only [PyData.eqv]; exact eqv_intsAll x y, eqv_tabAll a b]
    by_cases h : x = y <;> by_cases h2 : a = b <;> simp [h, h2]
theorem eqv_tab (A B : Tb) : PyData.eqv (tabD A) (tabD B) = decide (A = B) := by
  show PyData.eqv (.tuple _) (.tuple _) = _
  simp only [PyData.eqv]
  exact eqv_tabAll A B
theorem pl_tab (A : Tb) : pl 2 (tabD A) = true := pl_tuple (n := 1) fun d h => by
  obtain ⟨r, _, rfl⟩ := List.mem_map.mp h
  exact pl_ints r
def tbAt (ps : List Pr) (Ts : List Tb) (q : Pr) : Tb := Ts.getD (ixP ps q) []
def wayBad (p : Int) (ps : List Pr) (ss : List Int) (Ts : List Tb) (i : Nat) (y : Int) : Bool := hasB ps ((ps.getD i (0, 0)).1, y) && (hasB ps (y, (ps.getD i (0, 0)).2) &&
  !decide (behT p (tbAt ps Ts ((ps.getD i (0, 0)).1, y)) (tbAt ps Ts (y, (ps.getD i (0, 0)).2)) (szAt ss (ps.getD i (0, 0)).1).toNat = Ts.getD i []))
def wayIx (p : Int) (n : Nat) (ps : List Pr) (ss : List Int) (Ts : List Tb) : Option Nat := (List.range ps.length).find? fun i => (List.range n).any fun y => wayBad p ps ss Ts i (y : Int)
def optN : Option Nat → PyData
  | none => .none
  | some i => .int (i : Int)
/-- a patch that is right but for the ways -/
structure Shape (p n : Int) (ps : List Pr) (ss : List Int) (Ts : List Tb) : Prop where
  p0 : 0 < p
  p13 : p ≤ 13
  n0 : 0 ≤ n
  n16 : n ≤ 16
  hin : inN n ps
  ne : ∀ q ∈ ps, q.1 ≠ q.2
  nd : ps.Nodup
  len : ps.length ≤ 1000
  sl : (ss.length : Int) = n
  s8 : ∀ s ∈ ss, 0 ≤ s ∧ s ≤ 8
  tl : Ts.length = ps.length
  tb : ∀ i, i < ps.length → ((Ts.getD i []).length : Int) = szAt ss (ps.getD i (0, 0)).2 ∧ ∀ r ∈ Ts.getD i [], (r.length : Int) = szAt ss (ps.getD i (0, 0)).1 ∧ ∀ x ∈ r, 0 ≤ x ∧ x ≤ p - 1
theorem Shape.sz {p n : Int} {ps : List Pr} {ss : List Int} {Ts : List Tb} (S : Shape p n ps ss Ts) (x : Int) : 0 ≤ szAt ss x ∧ szAt ss x ≤ 8 := by
  unfold szAt
  rw [List.getD_eq_getElem?_getD]
  cases h : ss[x.toNat]? with
  | none => exact ⟨by simp, by simp⟩
  | some v => exact S.s8 v (List.mem_of_getElem? h)
theorem Shape.at {p n : Int} {ps : List Pr} {ss : List Int} {Ts : List Tb} (S : Shape p n ps ss Ts) {q : Pr} (hq : q ∈ ps) : ((tbAt ps Ts q).length : Int) = szAt ss q.2 ∧ ∀ r ∈ tbAt ps Ts q, (r.length : Int) = szAt ss q.1 ∧ ∀ x ∈ r, 0 ≤ x ∧ x ≤ p - 1 := by
  have h := S.tb (ixP ps q) (ixP_lt hq)
  have e : ps.getD (ixP ps q) (0, 0) = q := by rw [List.getD_eq_getElem?_getD, ixP_at hq] <;> rfl
  rw [e] at h
  exact h
/-- what behind wants, and gets, of two ways in a row -/
theorem Shape.beh {p n : Int} {ps : List Pr} {ss : List Int} {Ts : List Tb} (S : Shape p n ps ss Ts) {x y z : Int} (h1 : (x, y) ∈ ps) (h2 : (y, z) ∈ ps) :
    R_behind [iI p, tabD (tbAt ps Ts (x, y)), tabD (tbAt ps Ts (y, z)), iI (szAt ss x)] (tabD (behT p (tbAt ps Ts (x, y)) (tbAt ps Ts (y, z)) (szAt ss x).toNat)) := by
  have a : ((tbAt ps Ts (x, y)).length : Int) = szAt ss y ∧ ∀ r ∈ tbAt ps Ts (x, y), (r.length : Int) = szAt ss x ∧ ∀ v ∈ r, 0 ≤ v ∧ v ≤ p - 1 := S.at h1
  have b : ((tbAt ps Ts (y, z)).length : Int) = szAt ss z ∧ ∀ r ∈ tbAt ps Ts (y, z), (r.length : Int) = szAt ss y ∧ ∀ v ∈ r, 0 ≤ v ∧ v ≤ p - 1 := S.at h2
  have sx := S.sz x
  have sy := S.sz y
  have sz := S.sz z
  have h13 := S.p13
  refine ⟨p, _, _, (szAt ss x).toNat, by rw [show iI (szAt ss x) = iI (((szAt ss x).toNat : Nat) : Int) from toNat_int sx.1], S.p0, by omega, by omega, by omega, fun r hr => ⟨?_, fun v hv => ?_⟩, fun r hr => ?_, trivial, rfl⟩
  · have c := (b.2 r hr).1
    have d : ((tbAt ps Ts (x, y)).length : Int) = szAt ss y := a.1
    have e : (r.length : Int) = szAt ss y := c
    omega
  · have c := (b.2 r hr).2 v hv
    omega
  · have c : (r.length : Int) = szAt ss x := (a.2 r hr).1
    omega
def R_ways : List PyData → PyData → Prop := fun ds d => ∃ (p n : Int) (ps : List Pr) (ss : List Int) (Ts : List Tb), ds = [iI p, .tuple [.int n, psD ps], iT ss, .tuple (Ts.map tabD)] ∧ Shape p n ps ss Ts ∧ d = optN (wayIx p n.toNat ps ss Ts)
theorem tabs_at {Ts : List Tb} {i : Nat} (h : i < Ts.length) : (Ts.map tabD)[i]? = some (tabD (Ts.getD i [])) := by
  rw [List.getElem?_map, List.getElem?_eq_getElem h, List.getD_eq_getElem?_getD, List.getElem?_eq_getElem h] <;> rfl
section
variable {P : Program} {w : World} {K : PySem.W.Frag} {mg : Str → Option Value} {base : Heap}
theorem c_ways_place (T : At K mg "ways_place" s_ways_place) (B : Bn mg) (C1 : Cal P w K mg base CX0 1 "behind_table" p_behind_table (SpP K R_behind)) : Cal P w K mg base CX0 2 "ways_place" p_ways_place (SpP K R_ways) := by
  refine cal_pure T b_ways_place sc_ways_place B (fun ds d h => ?_) fun f cdv A outer s H E => ?_
  · obtain ⟨p, n, ps, ss, t, rfl, _⟩ := h
    rfl
  intro X gX hr W ds d h
  obtain ⟨p, n, ps, ss, Ts, rfl, S, rfl⟩ := h
  have hn0 := S.n0
  have hn16 := S.n16
  refine wb_dictZip 4 (ev_ix (i := 1) (.t _) (ev_v 1) ev_int rfl) (ev_v 3) (by rw [List.length_map, S.tl]) S.nd fun D fd U l hD hout hinn => ?_
  refine wb_for (ei_enumT (ev_ix (i := 1) (.t _) (ev_v 1) ev_int rfl)) (fun i δ1 Z => (∃ a b c e : Option Sl, δ1 = [some (.d (.int p)), some (.d (.tuple [.int n, psD ps])), some (.d (iT ss)), some (.d (.tuple (Ts.map tabD))), some (.v (.ref D)), a, b, c, e]) ∧ (∀ j, j < i → ((List.range n.toNat).any fun y => wayBad p ps ss Ts j (y : Int)) = false) ∧ Le U Z)
    (fun Z lz => ⟨⟨none, none, none, none, rfl⟩, fun j hj => absurd hj (by omega), lz⟩) ?_ ?_
  · rintro i d δ1 V0 hd ⟨⟨a, b, c, e, rfl⟩, hk, lw⟩ Z lz
    obtain ⟨x, hx, rfl⟩ := enumD_at hd
    have hi : i < ps.length := by simpa using (List.getElem?_eq_some_iff.mp hx).1
    rw [pD_at hi] at hx
    obtain rfl := Option.some.inj hx
    have hq := getD_mem hi
    obtain ⟨q1, q2, q3, q4⟩ := S.hin _ hq
    obtain ⟨e1, e2⟩ := sz_at S.hin S.sl hq
    refine ⟨_, _, tg_tup (tgs_cons (tg_name 5) (tgs_cons (tg_tup (tgs_cons (tg_name 6) (tgs_cons (tg_name 7) tgs_nil)) rfl) tgs_nil)) rfl, ?_⟩
    refine wb_for (ei_r1 (ev_ix (i := 0) (.t _) (ev_v 1) ev_int rfl) (by omega)) (fun m δ2 Y => (∃ e : Option Sl, δ2 = [some (.d (.int p)), some (.d (.tuple [.int n, psD ps])), some (.d (iT ss)), some (.d (.tuple (Ts.map tabD))), some (.v (.ref D)), some (.d (.int (i : Int))), some (.d (.int (ps.getD i (0, 0)).1)), some (.d (.int (ps.getD i (0, 0)).2)), e]) ∧
      (∀ j, j < m → wayBad p ps ss Ts i (j : Int) = false) ∧ Le Z Y) (fun Y ly => ⟨⟨_, rfl⟩, fun j hj => absurd hj (by omega), ly⟩) ?_ ?_
    · rintro m d2 δ2 V1 hd2 ⟨⟨e, rfl⟩, hk2, lw2⟩ Y ly
      obtain ⟨hm, rfl⟩ := rngN_at hd2
      refine ⟨_, _, tg_name 8, ?_⟩
      have LZ := (lw.tr lz).tr (lw2.tr ly)
      have hDY := hD.up LZ.g
      have hf : ∀ q : Pr, (fd q).isSome = hasB ps q := fun q => by
        by_cases h : q ∈ ps
        · obtain ⟨v, hv, _⟩ := hinn q h
          rw [hv, has_iff.mpr h] <;> rfl
        · rw [hout q h]
          cases hb : hasB ps q with
          | true => exact absurd (has_iff.mp hb) h
          | false => rfl
      refine wb_when (t := hasB ps ((ps.getD i (0, 0)).1, (m : Int)) && hasB ps ((m : Int), (ps.getD i (0, 0)).2)) (EvT.cast (et_w (ew_and (t := (fd ((ps.getD i (0, 0)).1, (m : Int))).isSome) (u := (fd ((m : Int), (ps.getD i (0, 0)).2)).isSome) (et_inK 4 hDY (ev_v 6) (ev_v 8)) fun _ => ew_and1 (et_inK 4 hDY (ev_v 8) (ev_v 7)))) (by rw [hf, hf])) (fun h4 U5 l5 => ?_) fun h4 U5 l5 => ?_
      · rw [Bool.and_eq_true] at h4
        have p1 := has_iff.mp h4.1
        have p2 := has_iff.mp h4.2
        obtain ⟨v1, fv1, rv1⟩ := hinn _ p1
        obtain ⟨v2, fv2, rv2⟩ := hinn _ p2
        have g5 := (LZ.tr l5).g
        have t1 : (Ts.map tabD).getD (ixP ps ((ps.getD i (0, 0)).1, (m : Int))) .none = tabD (tbAt ps Ts ((ps.getD i (0, 0)).1, (m : Int))) := getD_some (tabs_at (by rw [S.tl]; exact ixP_lt p1))
        have t2 : (Ts.map tabD).getD (ixP ps ((m : Int), (ps.getD i (0, 0)).2)) .none = tabD (tbAt ps Ts ((m : Int), (ps.getD i (0, 0)).2)) := getD_some (tabs_at (by rw [S.tl]; exact ixP_lt p2))
        rw [t1] at rv1
        rw [t2] at rv2
        have wb : wayBad p ps ss Ts i (m : Int) = !decide (behT p (tbAt ps Ts ((ps.getD i (0, 0)).1, (m : Int))) (tbAt ps Ts ((m : Int), (ps.getD i (0, 0)).2)) (szAt ss (ps.getD i (0, 0)).1).toNat = Ts.getD i []) := by
          unfold wayBad
          rw [h4.1, h4.2, Bool.true_and, Bool.true_and]
        refine wb_when (t := wayBad p ps ss Ts i (m : Int)) (EvT.cast (et_neD (ev_call C1 hr (ea_cons (ev_v 0) (ea_cons (ev_getK 4 (hD.up g5) (ev_v 6) (ev_v 8) fv1 (rv1.up g5)) (ea_cons (ev_getK 4 (hD.up g5) (ev_v 8) (ev_v 7) fv2 (rv2.up g5)) (ea_cons (ev_ix (.t _) (ev_v 2) (EvE.cast (ev_v 6) (toNat_int q1)) e1) ea_nil)))) (S.beh p1 p2))
          (ev_ix (i := i) (.t _) (ev_v 3) (ev_v 5) (tabs_at (by rw [S.tl]; exact hi))) (pl_plain (pl_tab _)) (pl_plain (pl_tab _))) (by rw [eqv_tab, wb])) (fun h6 U6 l6 => ?_) fun h6 U6 l6 => ?_
        · refine wb_ret (ev_v 5) fun Y2 l7 => ⟨?_, l.tr (((LZ.tr l5).tr l6).tr l7)⟩
          unfold wayIx
          rw [find_at hk hi (List.any_eq_true.mpr ⟨m, List.mem_range.mpr (by omega), h6⟩)] <;> rfl
        · refine wb_nil (wb_nil ⟨l5.g.tr l6.g, ⟨_, rfl⟩, fun j hj => ?_, ((lw2.tr ly).tr l5).tr l6⟩)
          by_cases e : j = m
          · rw [e]; exact h6
          · exact hk2 j (by omega)
      · refine wb_nil ⟨l5.g, ⟨_, rfl⟩, fun j hj => ?_, (lw2.tr ly).tr l5⟩
        by_cases e : j = m
        · rw [e]
          unfold wayBad
          rw [← Bool.and_assoc, h4, Bool.false_and]
        · exact hk2 j (by omega)
    · rintro δ2 V1 ⟨⟨e, rfl⟩, hk2, lw2⟩
      rw [rngN_len] at hk2
      refine wb_nil ⟨lw2.g, ⟨_, _, _, _, rfl⟩, fun j hj => ?_, (lw.tr lz).tr lw2⟩
      by_cases e : j = i
      · rw [e]
        exact List.any_eq_false.mpr fun y hy => by rw [hk2 y (List.mem_range.mp hy)]; decide
      · exact hk j (by omega)
  · rintro δ1 V0 ⟨⟨a, b, c, e, rfl⟩, hk, lw⟩
    rw [enumD_len, List.length_map] at hk
    refine wb_ret ev_non fun Z l6 => ⟨?_, l.tr (lw.tr l6)⟩
    unfold wayIx
    rw [find_none hk] <;> rfl
end
end Pk
set_option Elab.async false
set_option linter.all false
set_option maxRecDepth 100000
set_option maxHeartbeats 4000000
namespace Pk
open PySem PySem.Spec L2
open PyProof.Rows hiding St
/-! ### what both say of a value -/
def primes : List Int := [2, 3, 5, 7, 11, 13]
def primeI (i : Int) : Bool := primes.any fun q => decide (q = i)
def primeB (d : PyData) : Bool := match d with
  | .int i => primeI i
  | _ => false
def nOf (o : PyData) : Int := match o with
  | .tuple (.int n :: _) => n
  | _ => 0
def psOf (o : PyData) : List Pr := match o with
  | .tuple [_, .tuple ds] => ds.map prOf
  | _ => []
def intsOf (s : PyData) : List Int := match s with
  | .tuple ds => ds.map intOf
  | _ => []
def tbOf (t : PyData) : Tb := match t with
  | .tuple ls => ls.map intsOf
  | _ => []
def tabsOf (t : PyData) : List Tb := match t with
  | .tuple ts => ts.map tbOf
  | _ => []
abbrev Br := Option (Str × Int)
def brT (p n : Int) (ps : List Pr) (ss : List Int) (t : PyData) : Br := match tabIx p ps ss t with
  | some i => some ("table", i)
  | none => match wayIx p n.toNat ps ss (tabsOf t) with
    | some i => some ("ways", (i : Int))
    | none => none
def br4 (p o s t : PyData) : Br := if (wholeD p 13 && primeB p) = false then some ("prime", -1) else if orderB o = false then some ("order", -1) else if sizesB s (nOf o) = false then some ("sizes", -1) else brT (intOf p) (nOf o) (psOf o) (intsOf s) t
def breachO (v : PyData) : Br := match v with
  | .tuple [p, o, s, t] => br4 p o s t
  | _ => some ("form", -1)
def brD : Br → PyData
  | some (r, i) => .tuple [.str r, .int i]
  | none => .none
def TameP (v : PyData) : Prop := ∀ p o s t, v = .tuple [p, o, s, t] → TameO o ∧ TameS s ∧ TameT t
def R_breach : List PyData → PyData → Prop := fun ds d => ∃ v, ds = [v] ∧ TameP v ∧ d = brD (breachO v)
theorem four_cases (v : PyData) : (∃ p o s t, v = .tuple [p, o, s, t]) ∨ breachO v = (some ((("form" : Str)), -1) : Br) := by
  rcases tup_cases v with ⟨ds, rfl⟩ | h
  · rcases ds with _ | ⟨a, _ | ⟨b, _ | ⟨c, _ | ⟨d, _ | ⟨e, r⟩⟩⟩⟩⟩ <;> first | exact .inl ⟨_, _, _, _, rfl⟩ | exact .inr rfl
  · cases v <;> first | exact .inr rfl | cases h
/-! the shape of what has passed -/
structure Ord (o : PyData) (n : Int) (ps : List Pr) : Prop where
  e : o = .tuple [.int n, psD ps]
  n0 : 0 ≤ n
  n16 : n ≤ 16
  hin : inN n ps
  ne : ∀ q ∈ ps, q.1 ≠ q.2
  nd : ps.Nodup
theorem ord_of {o : PyData} (h : orderB o = true) : Ord o (nOf o) (psOf o) := by
  have hf : formB o = true := by
    cases q : formB o with
    | true => rfl
    | false => rw [form_order q] at h; cases h
  obtain ⟨n, ps, rfl, n0, n16, hin, ha, hne, _⟩ := form_inv hf
  have e : psOf (.tuple [.int n, psD ps]) = ps := by
    show (ps.map pD).map prOf = ps
    rw [List.map_map]
    exact List.map_id ps
  rw [e]
  exact ⟨rfl, n0, n16, hin, hne, asc_nodup ha⟩
theorem siz_of {s : PyData} {n : Int} (h : sizesB s n = true) : s = iT (intsOf s) ∧ ((intsOf s).length : Int) = n ∧ ∀ x ∈ intsOf s, 0 ≤ x ∧ x ≤ 8 := by
  cases s with
  | tuple ds =>
    have h' : (decide ((ds.length : Int) = n) && (ds.all (wholeD · 8) && decide ((ds.map intOf).sum ≤ 40))) = true := h
    simp only [Bool.and_eq_true, decide_eq_true_eq] at h'
    obtain ⟨hl, ha, _⟩ := h'
    refine ⟨?_, by show (((ds.map intOf).length : Nat) : Int) = n; rw [List.length_map]; exact hl, fun x hx => ?_⟩
    · show PyData.tuple ds = .tuple ((ds.map intOf).map PyData.int)
      rw [← ints_of ha]
    · obtain ⟨d, hd, rfl⟩ := List.mem_map.mp hx
      exact (whole_intOf (List.all_eq_true.mp ha d hd)).2
  | _ => cases h
theorem tab_of {t : PyData} {p l m : Int} (h : tableB t p l m = true) : t = tabD (tbOf t) ∧ ((tbOf t).length : Int) = l ∧ ∀ r ∈ tbOf t, (r.length : Int) = m ∧ ∀ x ∈ r, 0 ≤ x ∧ x ≤ p - 1 := by
  cases t with
  | tuple ls =>
    have h' : (decide ((ls.length : Int) = l) && ls.all (lineB p m)) = true := h
    simp only [Bool.and_eq_true, decide_eq_true_eq] at h'
    obtain ⟨hl, ha⟩ := h'
    have key : ∀ d ∈ ls, d = iT (intsOf d) ∧ ((intsOf d).length : Int) = m ∧ ∀ x ∈ intsOf d, 0 ≤ x ∧ x ≤ p - 1 := fun d hd => by
      have h2 := List.all_eq_true.mp ha d hd
      cases d with
      | tuple es =>
        have h3 : (decide ((es.length : Int) = m) && es.all (wholeD · (p - 1))) = true := h2
        simp only [Bool.and_eq_true, decide_eq_true_eq] at h3
        refine ⟨?_, by show (((es.map intOf).length : Nat) : Int) = m; rw [List.length_map]; exact h3.1, fun x hx => ?_⟩
        · show PyData.tuple es = .tuple ((es.map intOf).map PyData.int)
          rw [← ints_of h3.2]
        · obtain ⟨d, hd, rfl⟩ := List.mem_map.mp hx
          exact (whole_intOf (List.all_eq_true.mp h3.2 d hd)).2
      | _ => cases h2
    refine ⟨?_, by show (((ls.map intsOf).length : Nat) : Int) = l; rw [List.length_map]; exact hl, fun r hr => ?_⟩
    · show PyData.tuple ls = .tuple ((ls.map intsOf).map iT)
      rw [List.map_map]
      congr 1
      conv => lhs; rw [← List.map_id ls]
      exact List.map_congr_left fun d hd => (key d hd).1
    · obtain ⟨d, hd, rfl⟩ := List.mem_map.mp hr
      exact (key d hd).2
  | _ => cases h
theorem find_none_inv {n : Nat} {f : Nat → Bool} (h : (List.range n).find? f = none) : ∀ j, j < n → f j = false := fun j hj => by
  have z := List.find?_eq_none.mp h j (List.mem_range.mpr hj)
  simpa using z
theorem shape_of {p n : Int} {ps : List Pr} {ss : List Int} {t o : PyData} (hp : 0 < p ∧ p ≤ 13) (O : Ord o n ps) (hlen : ps.length ≤ 1000) (hs : (ss.length : Int) = n) (h8 : ∀ x ∈ ss, 0 ≤ x ∧ x ≤ 8) (ht : tabIx p ps ss t = none) :
    t = .tuple ((tabsOf t).map tabD) ∧ Shape p n ps ss (tabsOf t) := by
  cases t with
  | tuple ts =>
    have h1 : (if ts.length = ps.length then ((List.range ps.length).find? (badTab p ps ss ts)).map fun i : Nat => (i : Int) else some (-1)) = none := ht
    by_cases hl : ts.length = ps.length
    · rw [if_pos hl, Option.map_eq_none_iff] at h1
      have key := find_none_inv h1
      have kt : ∀ i, i < ps.length → ts[i]? = some (ts.getD i .none) ∧ tableB (ts.getD i .none) p (szAt ss (ps.getD i (0, 0)).2) (szAt ss (ps.getD i (0, 0)).1) = true := fun i hi => by
        refine ⟨by rw [List.getD_eq_getElem?_getD, List.getElem?_eq_getElem (by omega)] <;> rfl, ?_⟩
        have z : (!tableB (ts.getD i .none) p (szAt ss (ps.getD i (0, 0)).2) (szAt ss (ps.getD i (0, 0)).1)) = false := key i hi
        simpa using z
      have gd : ∀ i, i < ps.length → (ts.map tbOf).getD i [] = tbOf (ts.getD i .none) := fun i hi => by
        rw [List.getD_eq_getElem?_getD, List.getElem?_map, (kt i hi).1] <;> rfl
      refine ⟨?_, ⟨hp.1, hp.2, O.n0, O.n16, O.hin, O.ne, O.nd, hlen, hs, h8, by show (ts.map tbOf).length = _; rw [List.length_map, hl], fun i hi => ?_⟩⟩
      · show PyData.tuple ts = .tuple ((ts.map tbOf).map tabD)
        rw [List.map_map]
        congr 1
        conv => lhs; rw [← List.map_id ts]
        refine List.map_congr_left fun d hd => ?_
        obtain ⟨i, hi⟩ := List.mem_iff_getElem?.mp hd
        have hil : i < ps.length := by rw [← hl]; exact (List.getElem?_eq_some_iff.mp hi).1
        obtain ⟨k1, k2⟩ := kt i hil
        rw [hi] at k1
        have e := Option.some.inj k1
        rw [← e] at k2
        exact (tab_of k2).1
      · show (((ts.map tbOf).getD i []).length : Int) = _ ∧ ∀ r ∈ (ts.map tbOf).getD i [], _
        rw [gd i hi]
        exact (tab_of (kt i hi).2).2
    · rw [if_neg hl] at h1; cases h1
  | _ => cases ht
theorem prime_pos {p : PyData} (h : (wholeD p 13 && primeB p) = true) : p = .int (intOf p) ∧ 2 ≤ intOf p ∧ intOf p ≤ 13 ∧ intOf p ∈ primes := by
  rw [Bool.and_eq_true] at h
  obtain ⟨e, a, b⟩ := whole_intOf h.1
  have h2 := h.2
  rw [e] at h2
  have h3 : (primes.any fun q => decide (q = intOf p)) = true := h2
  obtain ⟨q, hq, he⟩ := List.any_eq_true.mp h3
  have e2 := of_decide_eq_true he
  have hm : intOf p ∈ primes := e2 ▸ hq
  refine ⟨e, ?_, b, hm⟩
  simp [primes] at hm
  omega
section
variable {K : PySem.W.Frag} {X : Cx} [g : Good K X] {δ : Sd} {W U : Wd} {a b : Expr} {pos : Pos} {P : Po} {rest : List Stmt}
theorem prime_any (i : Int) : ((primes.map PyData.int).any fun z => PyData.eqv z (.int i)) = primeI i := by
  unfold primeI
  rw [List.any_map]
  congr 1
/-- the module's PRIMES -/
def HasPr (K : PySem.W.Frag) (mg : Str → Option Value) : Prop := ∃ q0 : Addr, mg "PRIMES" = some (.ref q0) ∧ ∀ H : Hp, SqT K H q0 (primes.map V.int)
theorem dpall_ints {K : PySem.W.Frag} {H : Hp} : ∀ is : List Int, DpAll K H (is.map V.int) (is.map PyData.int)
  | [] => .nil
  | i :: is => .cons (.int i) (dpall_ints is)
theorem et_niPr {i : Int} {p : Pos} (h : HasPr K X.mg) (ha : EvE K X δ a W (.int i)) (hg : Gl X "PRIMES" := by rfl) (hm : behindInMarks .NotIn (.Name "PRIMES" p) = false := by with_unfolding_all rfl) : EvT K X δ (.Compare a [.NotIn] [.Name "PRIMES" p] pos) W (!primeI i) := fun U l σ s Q q => by
  obtain ⟨q0, h1, h2⟩ := h
  refine (pt_cmpR (op_niQ (by have := g.room.un; omega)) (pe_w X a) (pe_glob (v := .ref q0) hg h1 rfl (by decide)) hm).w ?_
  refine ha U l σ s _ fun v Z lz rv => ?_
  refine ⟨.int i, primes.map PyData.int, ?_, .inr ?_, ?_, ?_, ?_⟩
  · rw [rv.int_inv]; exact .int i
  · exact .tup (by rw [g.hK]; exact h2 Z.H) (dpall_ints primes)
  · exact (pl_plain (n := 1) (pl_int i 1)).sh
  · exact (pl_plain (n := 1) (pl_intsL primes)).sh
  · rw [prime_any]
    exact ⟨_, rfl, q Z lz⟩
end
end Pk
set_option Elab.async false
set_option linter.all false
set_option maxRecDepth 100000
set_option maxHeartbeats 4000000
namespace Pk
open PySem PySem.Spec L2
open PyProof.Rows hiding St
section
variable {P : Program} {w : World} {K : PySem.W.Frag} {mg : Str → Option Value} {base : Heap} {CP : Addr}
theorem c_patch_breach (T : At K mg "patch_breach" s_patch_breach) (B : Bn mg) (hPr : HasPr K mg) (C1 : Cal P w K mg base CX0 1 "is_number" p_is_number (SpP K R_whole)) (C6 : Cal P w K mg base CX0 6 "is_order" p_is_order (SpP K R_Lis_order)) (C2 : Cal P w K mg base CX0 2 "are_sizes" p_are_sizes (SpP K R_sizes))
    (C3 : Cal P w K mg base CX0 3 "table_place" p_table_place (SpP K R_tplace)) (C4 : Cal P w K mg base CX0 2 "ways_place" p_ways_place (SpP K R_ways)) : Cal P w K mg base CX0 7 "patch_breach" p_patch_breach (SpP K R_breach) := by
  refine cal_pure T b_patch_breach sc_patch_breach B (fun ds d h => ?_) fun f cdv A outer s H E => ?_
  · obtain ⟨a, rfl, _⟩ := h
    rfl
  intro X gX hr W ds d h
  obtain ⟨v, rfl, hT, rfl⟩ := h
  refine wb_when (et_w (ew_or (u := match v with | .tuple ds => !decide ((ds.length : Int) = 4) | _ => false) (et_not (et_val (ev_isT (ev_v 0)))) fun h => ew_or1 ?_)) (fun h1 U l => ?_) fun h1 U l => ?_
  · cases v with
    | tuple ds => exact et_neI (ev_len (.t _) (ev_v 0)) ev_int
    | _ => cases h
  · refine wb_ret (ev_tup (ea_cons ev_str (ea_cons (ev_neg ev_int) ea_nil))) fun Z l2 => ⟨?_, l.tr l2⟩
    rcases four_cases v with ⟨p, o, s, t, rfl⟩ | h2
    · cases h1
    · rw [h2] <;> rfl
  obtain ⟨p, o, sz, t, rfl⟩ : ∃ p o s t, v = .tuple [p, o, s, t] := by
    rcases tup_cases v with ⟨ds, rfl⟩ | h2
    · have h2 : (!decide ((ds.length : Int) = 4)) = false := h1
      have h3 : (ds.length : Int) = 4 := by simpa using h2
      rcases ds with _ | ⟨a, _ | ⟨b, _ | ⟨c, _ | ⟨d, _ | ⟨e, r⟩⟩⟩⟩⟩ <;> simp at h3
      · exact ⟨_, _, _, _, rfl⟩
      · omega
    · rw [h2] at h1; cases h1
  obtain ⟨hO, hS, hTt⟩ := hT _ _ _ _ rfl
  show WB K X _ _ U { nx := fun _ U => brD (br4 p o sz t) = .none ∧ Le W U, rt := fun d' U => d' = brD (br4 p o sz t) ∧ Le W U }
  unfold br4
  refine wb_asgT (ev_v 0) (tg_tup (tgs_cons (tg_name 1) (tgs_cons (tg_name 2) (tgs_cons (tg_name 3) (tgs_cons (tg_name 4) tgs_nil)))) rfl) fun U2 l2 => ?_
  have L2' := l.tr l2
  refine wb_when (t := !(wholeD p 13 && primeB p)) (EvT.cast (et_w (ew_or (t := !wholeD p 13) (u := !primeB p) (et_not (et_val (ev_call C1 (hr.mono (by decide)) (ea_cons (ev_v 1) (ea_cons ev_int ea_nil)) ⟨p, 13, rfl, rfl⟩))) fun h => ew_or1 ?_)) (by rw [Bool.not_and])) (fun h2 U3 l3 => ?_) fun h2 U3 l3 => ?_
  · obtain ⟨i, rfl, _⟩ := whole_int (by simpa using h)
    exact et_niPr hPr (ev_v 1)
  · refine wb_ret (ev_tup (ea_cons ev_str (ea_cons (ev_neg ev_int) ea_nil))) fun Z l4 => ⟨?_, (L2'.tr l3).tr l4⟩
    rw [if_pos (Bool.not_eq_true' _ |>.mp h2)] <;> rfl
  have hp : (wholeD p 13 && primeB p) = true := by simpa using h2
  obtain ⟨ep, hp2, hp13, hpm⟩ := prime_pos hp
  rw [if_neg (by rw [hp]; decide)]
  refine wb_when (t := !orderB o) (et_not (et_val (ev_call C6 (hr.mono (by decide)) (ea_cons (ev_v 2) ea_nil) ⟨o, rfl, hO, rfl⟩))) (fun h3 U4 l4 => ?_) fun h3 U4 l4 => ?_
  · refine wb_ret (ev_tup (ea_cons ev_str (ea_cons (ev_neg ev_int) ea_nil))) fun Z l5 => ⟨?_, ((L2'.tr l3).tr l4).tr l5⟩
    rw [if_pos (by simpa using h3)] <;> rfl
  have ho : orderB o = true := by simpa using h3
  have O := ord_of ho
  rw [if_neg (by rw [ho]; decide)]
  generalize nOf o = n at O ⊢
  generalize psOf o = ps at O ⊢
  obtain rfl := O.e
  obtain ⟨hlen, _⟩ := hO _ _ rfl
  rw [List.length_map] at hlen
  refine wb_when (t := !sizesB sz n) (et_not (et_val (ev_call C2 (hr.mono (by decide)) (ea_cons (ev_v 3) (ea_cons (ev_ix (i := 0) (.t _) (ev_v 2) ev_int rfl) ea_nil)) ⟨sz, n, rfl, hS, rfl⟩))) (fun h4 U5 l5 => ?_) fun h4 U5 l5 => ?_
  · refine wb_ret (ev_tup (ea_cons ev_str (ea_cons (ev_neg ev_int) ea_nil))) fun Z l6 => ⟨?_, (((L2'.tr l3).tr l4).tr l5).tr l6⟩
    rw [if_pos (by simpa using h4)] <;> rfl
  have hs : sizesB sz n = true := by simpa using h4
  obtain ⟨es, hsl, hs8⟩ := siz_of hs
  rw [if_neg (by rw [hs]; decide)]
  have L5 := ((L2'.tr l3).tr l4).tr l5
  generalize intsOf sz = ss at es hsl hs8 ⊢
  generalize intOf p = pi at ep hp2 hp13 hpm ⊢
  subst es ep
  refine wb_asg 5 (ev_call C3 (hr.mono (by decide)) (ea_cons (ev_v 1) (ea_cons (ev_v 2) (ea_cons (ev_v 3) (ea_cons (ev_v 4) ea_nil)))) ⟨pi, n, ps, ss, t, rfl, O.hin, hsl, hTt, rfl⟩) fun U6 l6 => ?_
  unfold brT
  cases htx : tabIx pi ps ss t with
  | some i =>
    refine wb_when (t := true) (EvT.cast (et_notN (ev_v 5)) rfl) (fun _ U7 l7 => ?_) fun h => absurd h (by decide)
    exact wb_ret (ev_tup (ea_cons ev_str (ea_cons (ev_v 5) ea_nil))) fun Z l8 => ⟨rfl, ((L5.tr l6).tr l7).tr l8⟩
  | none =>
    refine wb_when (t := false) (EvT.cast (et_notN (ev_v 5)) rfl) (fun h => absurd h (by decide)) fun _ U7 l7 => ?_
    obtain ⟨et, S⟩ := shape_of ⟨by omega, hp13⟩ O hlen hsl hs8 htx
    generalize tabsOf t = Ts at et S ⊢
    subst et
    refine wb_asg 5 (ev_call C4 (hr.mono (by decide)) (ea_cons (ev_v 1) (ea_cons (ev_v 2) (ea_cons (ev_v 3) (ea_cons (ev_v 4) ea_nil)))) ⟨pi, n, ps, ss, Ts, rfl, S, rfl⟩) fun U8 l8 => ?_
    have L8 := ((L5.tr l6).tr l7).tr l8
    show WB K X _ _ U8 { nx := fun _ U => brD (match wayIx pi n.toNat ps ss Ts with | some i => some ("ways", (i : Int)) | none => none) = .none ∧ Le W U, rt := fun d' U => d' = brD (match wayIx pi n.toNat ps ss Ts with | some i => some ("ways", (i : Int)) | none => none) ∧ Le W U }
    cases hw : wayIx pi n.toNat ps ss Ts with
    | some i =>
      refine wb_when (t := true) (EvT.cast (et_notN (ev_v 5)) rfl) (fun _ U9 l9 => ?_) fun h => absurd h (by decide)
      exact wb_ret (ev_tup (ea_cons ev_str (ea_cons (ev_v 5) ea_nil))) fun Z l10 => ⟨rfl, (L8.tr l9).tr l10⟩
    | none =>
      refine wb_when (t := false) (EvT.cast (et_notN (ev_v 5)) rfl) (fun h => absurd h (by decide)) fun _ U9 l9 => ?_
      exact wb_ret ev_non fun Z l10 => ⟨rfl, (L8.tr l9).tr l10⟩
/-- the value comes back, or NotPatch flies with the breach -/
def SpNP (K : PySem.W.Frag) (C : Addr) : Sp := fun vs H Q E => ∃ (W : Wd) (v : PyData), W.H = H ∧ RpL K W.G vs [v] ∧ TameP v ∧ (breachO v = none → ∀ u U, Le W U → Rp K U.G u v → Q u U.H) ∧
  (∀ r i, breachO v = some (r, i) → ∀ d (U : Wd), Le W U → U.H d = some (.xd [(("place" : Str), .int i), (("rule" : Str), .str r)]) → E (.ref C) (some d) U.H)
theorem c_need_patch (T : At K mg "need_patch" s_need_patch) (B : Bn mg) (HP' : HasP P K mg CP) (C7 : Cal P w K mg base CX0 7 "patch_breach" p_patch_breach (SpP K R_breach)) : Cal P w K mg base (L2.CX P w) 8 "need_patch" p_need_patch (SpNP K CP) := by
  refine cal_genX T b_need_patch sc_need_patch B (fun vs H Q E h => ?_) fun f cdv A outer s H E => ?_
  · obtain ⟨W, v, _, rs, _⟩ := h
    exact rs.len
  intro X gX hr tk po vs Q h
  obtain ⟨W, v, rfl, rs, hT, hQ, hE⟩ := h
  obtain ⟨fI, cc, cda, xt⟩ := HP'.xt
  have ins : ∀ (mb : Str → Option Value) (us : List Value), us.length = 2 → mb "super" = some (.type "super") → PkX.Inits P w K mg mb CP fI us (mOf us) := fun mb us hl hb => by
    obtain ⟨u, u2, rfl⟩ : ∃ u u2, us = [u, u2] := by
      rcases us with _ | ⟨a, _ | ⟨b, _ | ⟨c, r⟩⟩⟩ <;> simp at hl
      exact ⟨a, b, rfl⟩
    exact PkX.initsP xt HP'.cl.f HP'.su hb
  refine ⟨W, [v], fun d U => breachO v = none ∧ d = v ∧ Le W U, rfl, rs, fun u d U ⟨o, e, l⟩ rv => hQ o u U l (e ▸ rv), ?_⟩
  refine wb_asg 1 (ev_call C7 hr (ea_cons (ev_v 0) ea_nil) ⟨v, rfl, hT, rfl⟩) fun U l => ?_
  cases hb : breachO v with
  | some ri =>
    obtain ⟨r, i⟩ := ri
    refine wb_when (t := true) (EvT.cast (et_notN (ev_v 1)) rfl) (fun _ U2 l2 => ?_) fun h => absurd h (by decide)
    refine wb_raise (n := 2) (ds := [.str r, .int i]) tk xt HP'.cl HP'.g (by decide) ins (hr.mono (by decide)) (ea_cons (ev_ix (i := 0) (.t [.str r, .int i]) (ev_v 1) ev_int rfl) (ea_cons (ev_ix (i := 1) (.t [.str r, .int i]) (ev_v 1) ev_int rfl) ea_nil)) rfl fun Z vs d lz rs hd => ?_
    obtain ⟨u, u2, rfl, r1, r2⟩ := rs.two_inv
    obtain rfl := r1.str_inv
    obtain rfl := r2.int_inv
    exact hE r i hb d (Z.put d _ (Z.gnone hd)) (Wd.put_le ((l.tr l2).tr lz) (((l.tr l2).tr lz).some hd)) upd_same
  | none =>
    refine wb_when (t := false) (EvT.cast (et_notN (ev_v 1)) rfl) (fun h => absurd h (by decide)) fun _ U2 l2 => ?_
    exact wb_ret (ev_v 0) fun Z l3 => ⟨rfl, rfl, (l.tr l2).tr l3⟩
end
end Pk
set_option Elab.async false
set_option linter.all false
set_option maxRecDepth 100000
set_option maxHeartbeats 4000000
namespace Pk
open PySem PySem.Spec L2
open PyProof.Rows hiding St
section
variable {P : Program} {w : World} {K : PySem.W.Frag} {mg : Str → Option Value} {base : Heap}
theorem c_Lbreach (T : At K mg "_law_breach" s_L_breach) (B : Bn mg) (C1 : Cal P w K mg base CX0 1 "_law_whole" p_L_whole (SpP K R_whole)) (C4 : Cal P w K mg base CX0 4 "_law_is_order" p_L_is_order (SpP K R_Lis_order)) (C2 : Cal P w K mg base CX0 2 "_law_is_table" p_L_is_table (SpP K R_table))
    (C3 : Cal P w K mg base CX0 1 "_law_behind" p_L_behind (SpP K R_behind)) (C5 : Cal P w K mg base CX0 2 "_law_lead" p_L_lead (SpP K R_lead)) : Cal P w K mg base CX0 5 "_law_breach" p_L_breach (SpP K R_breach) := by
  refine cal_pure T b_L_breach sc_L_breach B (fun ds d h => ?_) fun f cdv A outer s H E => ?_
  · obtain ⟨a, rfl, _⟩ := h
    rfl
  intro X gX hr W ds d h
  obtain ⟨v, rfl, hT, rfl⟩ := h
  refine wb_when (et_w (ew_or (u := match v with | .tuple ds => !decide ((ds.length : Int) = 4) | _ => false) (et_not (et_val (ev_isT (ev_v 0)))) fun h => ew_or1 ?_)) (fun h1 U l => ?_) fun h1 U l => ?_
  · cases v with
    | tuple ds => exact et_neI (ev_len (.t _) (ev_v 0)) ev_int
    | _ => cases h
  · refine wb_ret (ev_tup (ea_cons ev_str (ea_cons (ev_neg ev_int) ea_nil))) fun Z l2 => ⟨?_, l.tr l2⟩
    rcases four_cases v with ⟨p, o, s, t, rfl⟩ | h2
    · cases h1
    · rw [h2] <;> rfl
  obtain ⟨p, o, sz, t, rfl⟩ : ∃ p o s t, v = .tuple [p, o, s, t] := by
    rcases tup_cases v with ⟨ds, rfl⟩ | h2
    · have h2 : (!decide ((ds.length : Int) = 4)) = false := h1
      have h3 : (ds.length : Int) = 4 := by simpa using h2
      rcases ds with _ | ⟨a, _ | ⟨b, _ | ⟨c, _ | ⟨d, _ | ⟨e, r⟩⟩⟩⟩⟩ <;> simp at h3
      · exact ⟨_, _, _, _, rfl⟩
      · omega
    · rw [h2] at h1; cases h1
  obtain ⟨hO, hS, hTt⟩ := hT _ _ _ _ rfl
  show WB K X _ _ U { nx := fun _ U => brD (br4 p o sz t) = .none ∧ Le W U, rt := fun d' U => d' = brD (br4 p o sz t) ∧ Le W U }
  unfold br4
  refine wb_asgT (ev_v 0) (tg_tup (tgs_cons (tg_name 1) (tgs_cons (tg_name 2) (tgs_cons (tg_name 3) (tgs_cons (tg_name 4) tgs_nil)))) rfl) fun U2 l2 => ?_
  have L2' := l.tr l2
  refine wb_when (t := !(wholeD p 13 && primeB p)) (EvT.cast (et_w (ew_or (t := !wholeD p 13) (u := !primeB p) (et_not (et_val (ev_call C1 (hr.mono (by decide)) (ea_cons (ev_v 1) (ea_cons ev_int ea_nil)) ⟨p, 13, rfl, rfl⟩))) fun h => ew_or1 ?_)) (by rw [Bool.not_and])) (fun h2 U3 l3 => ?_) fun h2 U3 l3 => ?_
  · obtain ⟨i, rfl, _⟩ := whole_int (by simpa using h)
    refine EvT.cast (et_notIn (ds := primes.map PyData.int) (.t _) (ev_v 1) (ev_tup (ea_cons ev_int (ea_cons ev_int (ea_cons ev_int (ea_cons ev_int (ea_cons ev_int (ea_cons ev_int ea_nil))))))) (pl_plain (n := 1) (pl_int i 1)) (pl_plain (n := 1) (pl_intsL primes))) ?_
    rw [prime_any] <;> rfl
  · refine wb_ret (ev_tup (ea_cons ev_str (ea_cons (ev_neg ev_int) ea_nil))) fun Z l4 => ⟨?_, (L2'.tr l3).tr l4⟩
    rw [if_pos (Bool.not_eq_true' _ |>.mp h2)] <;> rfl
  have hp : (wholeD p 13 && primeB p) = true := by simpa using h2
  obtain ⟨ep, hp2, hp13, hpm⟩ := prime_pos hp
  rw [if_neg (by rw [hp]; decide)]
  refine wb_when (t := !orderB o) (et_not (et_val (ev_call C4 hr (ea_cons (ev_v 2) ea_nil) ⟨o, rfl, hO, rfl⟩))) (fun h3 U4 l4 => ?_) fun h3 U4 l4 => ?_
  · refine wb_ret (ev_tup (ea_cons ev_str (ea_cons (ev_neg ev_int) ea_nil))) fun Z l5 => ⟨?_, ((L2'.tr l3).tr l4).tr l5⟩
    rw [if_pos (by simpa using h3)] <;> rfl
  have ho : orderB o = true := by simpa using h3
  have O := ord_of ho
  rw [if_neg (by rw [ho]; decide)]
  generalize nOf o = n at O ⊢
  generalize psOf o = ps at O ⊢
  obtain rfl := O.e
  have n0 := O.n0
  have n16 := O.n16
  obtain ⟨hlen, _⟩ := hO _ _ rfl
  rw [List.length_map] at hlen
  refine wb_when (et_w (ew_or (u := match sz with | .tuple ds => !decide ((ds.length : Int) = n) | _ => false) (et_not (et_val (ev_isT (ev_v 3)))) fun h => ew_or1 ?_)) (fun h4 U5 l5 => ?_) fun h4 U5 l5 => ?_
  · cases sz with
    | tuple ds => exact et_neI (ev_len (.t _) (ev_v 3)) (ev_ix (i := 0) (.t _) (ev_v 2) ev_int rfl)
    | _ => cases h
  · refine wb_ret (ev_tup (ea_cons ev_str (ea_cons (ev_neg ev_int) ea_nil))) fun Z l6 => ⟨?_, (((L2'.tr l3).tr l4).tr l5).tr l6⟩
    have e : sizesB sz n = false := by
      cases sz with
      | tuple ds =>
        have h5 : (!decide ((ds.length : Int) = n)) = true := h4
        show (decide ((ds.length : Int) = n) && _) = false
        rw [Bool.not_eq_true' _ |>.mp h5, Bool.false_and]
      | _ => rfl
    rw [if_pos e] <;> rfl
  obtain ⟨ds, rfl⟩ : ∃ ds, sz = .tuple ds := by
    rcases tup_cases sz with q | h5
    · exact q
    · rw [h5] at h4; cases h4
  have hln : (ds.length : Int) = n := by
    have h5 : (!decide ((ds.length : Int) = n)) = false := h4
    simpa using h5
  obtain ⟨hsl0, hspl⟩ := hS _ rfl
  have esz : sizesB (.tuple ds) n = (ds.all (wholeD · 8) && decide ((ds.map intOf).sum ≤ 40)) := by
    show (decide _ && _) = _
    rw [decide_eq_true hln, Bool.true_and]
  refine wb_when (t := !sizesB (.tuple ds) n) (EvT.cast (et_w (ew_or (t := !ds.all (wholeD · 8)) (u := !decide ((ds.map intOf).sum ≤ 40)) (EvT.cast (et_some (ev_lcNF [("_law_size", 10)] 10 (fun i => !wholeD (ds.getD i .none) 8) (fun i => ds.getD i .none) (ei_t (ev_v 3)) (by omega) ?_ ?_) (pl_pick (n := 10) (pl_getD hspl))) ?_) fun h => ew_or1 ?_)) (by rw [esz, Bool.not_and])) (fun h5 U6 l6 => ?_) fun h5 U6 l6 => ?_
  · intro i d U hd l s H0 C cl fp gb
    rw [getD_some hd]
    exact et_not (et_val (ev_call C1 (hr.mono (by decide)) (ea_cons (ev_v 10) (ea_cons ev_int ea_nil)) ⟨d, 8, rfl, rfl⟩))
  · intro i d U hd l s H0 C cl fp gb hp
    rw [getD_some hd]
    exact ev_v 10
  · rw [filt_empty, any_range ds .none (fun d => !wholeD d 8), any_not_all]
    congr 1
    congr 1
    funext x
    exact Bool.not_not _
  · refine EvT.cast (et_gt (ev_sumT (is := ds.map intOf) (EvE.cast (ev_v 3) (by rw [← ints_of (by simpa using h)]))) ev_int) ?_
    by_cases hh : (ds.map intOf).sum ≤ 40
    · rw [decide_eq_true hh, decide_eq_false (by omega)] <;> rfl
    · rw [decide_eq_false hh, decide_eq_true (by omega)] <;> rfl
  · refine wb_ret (ev_tup (ea_cons ev_str (ea_cons (ev_neg ev_int) ea_nil))) fun Z l7 => ⟨?_, ((((L2'.tr l3).tr l4).tr l5).tr l6).tr l7⟩
    rw [if_pos (by simpa using h5)] <;> rfl
  have hs : sizesB (.tuple ds) n = true := by simpa using h5
  obtain ⟨es, hsl, hs8⟩ := siz_of hs
  rw [if_neg (by rw [hs]; decide)]
  have L6 := (((L2'.tr l3).tr l4).tr l5).tr l6
  generalize intsOf (.tuple ds) = ss at es hsl hs8 ⊢
  rw [es]
  generalize intOf p = pi at ep hp2 hp13 hpm ⊢
  subst ep
  unfold brT
  refine wb_when (et_w (ew_or (u := match t with | .tuple ts => !decide ((ts.length : Int) = (ps.length : Int)) | _ => false) (et_not (et_val (ev_isT (ev_v 4)))) fun h => ew_or1 ?_)) (fun h6 U7 l7 => ?_) fun h6 U7 l7 => ?_
  · cases t with
    | tuple ts =>
      refine EvT.cast (et_neI (ev_len (.t _) (ev_v 4)) (ev_len (.t _) (ev_ix (i := 1) (.t _) (ev_v 2) ev_int rfl))) ?_
      rw [List.length_map]
    | _ => cases h
  · refine wb_ret (ev_tup (ea_cons ev_str (ea_cons (ev_neg ev_int) ea_nil))) fun Z l8 => ⟨?_, (L6.tr l7).tr l8⟩
    have e : tabIx pi ps ss t = some (-1) := by
      cases t with
      | tuple ts =>
        have h7 : (!decide ((ts.length : Int) = (ps.length : Int))) = true := h6
        have h8 : ¬ (ts.length : Int) = (ps.length : Int) := by simpa using h7
        exact if_neg (by omega)
      | _ => rfl
    rw [e] <;> rfl
  obtain ⟨ts, rfl⟩ : ∃ ds, t = .tuple ds := by
    rcases tup_cases t with q | h7
    · exact q
    · rw [h7] at h6; cases h6
  have htl : ts.length = ps.length := by
    have h7 : (!decide ((ts.length : Int) = (ps.length : Int))) = false := h6
    have h8 : (ts.length : Int) = (ps.length : Int) := by simpa using h7
    omega
  obtain ⟨_, htab⟩ := hTt _ rfl
  have ed : tabIx pi ps ss (.tuple ts) = ((List.range ps.length).find? (badTab pi ps ss ts)).map fun i : Nat => (i : Int) := if_pos htl
  have L7 := L6.tr l7
  refine wb_for (ei_r1 (ev_len (.t _) (ev_v 4)) (by omega)) (fun i δ1 Z => (∃ a b c : Option Sl, δ1 = [some (.d (.tuple [.int pi, .tuple [.int n, psD ps], iT ss, .tuple ts])), some (.d (.int pi)), some (.d (.tuple [.int n, psD ps])), some (.d (iT ss)), some (.d (.tuple ts)), a, b, c, none, none, none]) ∧ (∀ j, j < i → badTab pi ps ss ts j = false) ∧ Le U7 Z) (fun Z lz => ⟨⟨none, none, none, rfl⟩, fun j hj => absurd hj (by omega), lz⟩) ?_ ?_
  · rintro i d δ1 V0 hd ⟨⟨a, b, c, rfl⟩, hk, lw⟩ Z lz
    obtain ⟨hi0, rfl⟩ := rngN_at hd
    have hi : i < ps.length := by omega
    have hq := getD_mem hi
    obtain ⟨q1, q2, q3, q4⟩ := O.hin _ hq
    obtain ⟨e1, e2⟩ := sz_at O.hin hsl hq
    refine ⟨_, _, tg_name 5, ?_⟩
    refine wb_asgT (ev_ix (i := i) (.t _) (ev_ix (i := 1) (.t _) (ev_v 2) ev_int rfl) (ev_v 5) (pD_at hi)) (tg_tup (tgs_cons (tg_name 6) (tgs_cons (tg_name 7) tgs_nil)) rfl) fun Y ly => ?_
    have hti : ts[i]? = some (ts.getD i .none) := by rw [List.getD_eq_getElem?_getD, List.getElem?_eq_getElem (by omega)] <;> rfl
    refine wb_when (t := badTab pi ps ss ts i) (et_not (et_val (ev_call (d := .bool (tableB (ts.getD i .none) pi (szAt ss (ps.getD i (0, 0)).2) (szAt ss (ps.getD i (0, 0)).1))) C2 (hr.mono (by decide)) (ea_cons (ev_ix (i := i) (.t _) (ev_v 4) (ev_v 5) hti) (ea_cons (ev_v 1) (ea_cons (ev_ix (.t _) (ev_v 3) (EvE.cast (ev_v 7) (toNat_int q3)) e2) (ea_cons (ev_ix (.t _) (ev_v 3) (EvE.cast (ev_v 6) (toNat_int q1)) e1) ea_nil))))
      ⟨_, pi, _, _, rfl, (htab _ (List.mem_of_getElem? hti)).2, rfl⟩))) (fun h8 U8 l8 => ?_) fun h8 U8 l8 => ?_
    · refine wb_ret (ev_tup (ea_cons ev_str (ea_cons (ev_v 5) ea_nil))) fun Y2 l9 => ⟨?_, L7.tr ((((lw.tr lz).tr ly).tr l8).tr l9)⟩
      rw [ed, find_at hk hi h8] <;> rfl
    · refine wb_nil ⟨ly.g.tr l8.g, ⟨_, _, _, rfl⟩, fun j hj => ?_, ((lw.tr lz).tr ly).tr l8⟩
      by_cases e : j = i
      · rw [e]; exact h8
      · exact hk j (by omega)
  · rintro δ1 V0 ⟨⟨a, b, c, rfl⟩, hk, lw⟩
    rw [rngN_len, Int.toNat_natCast, htl] at hk
    have htx : tabIx pi ps ss (.tuple ts) = none := by rw [ed, find_none hk] <;> rfl
    rw [htx]
    obtain ⟨et, S⟩ := shape_of ⟨by omega, hp13⟩ O hlen hsl hs8 htx
    generalize tabsOf (.tuple ts) = Ts at et S ⊢
    have et2 : ts = Ts.map tabD := by
      have et3 : PyData.tuple ts = .tuple (Ts.map tabD) := et
      injection et3
    subst et2
    clear et htx ed htab
    have L8 := L7.tr lw
    refine wb_for (ei_r1 (ev_len (.t _) (ev_v 4)) (by omega)) (fun i δ1 Z => (∃ a b c e f h : Option Sl, δ1 = [some (.d (.tuple [.int pi, .tuple [.int n, psD ps], iT ss, .tuple (Ts.map tabD)])), some (.d (.int pi)), some (.d (.tuple [.int n, psD ps])), some (.d (iT ss)), some (.d (.tuple (Ts.map tabD))), a, b, c, e, f, none]) ∧
      (∀ j, j < i → ((List.range n.toNat).any fun y => wayBad pi ps ss Ts j (y : Int)) = false) ∧ Le V0 Z) (fun Z lz => ⟨⟨_, _, _, none, none, none, rfl⟩, fun j hj => absurd hj (by omega), lz⟩) ?_ ?_
    · rintro i d δ1 V1 hd ⟨⟨a, b, c, e, f, h, rfl⟩, hk, lw⟩ Z lz
      obtain ⟨hi0, rfl⟩ := rngN_at hd
      have hi : i < ps.length := by omega
      have hq := getD_mem hi
      obtain ⟨q1, q2, q3, q4⟩ := S.hin _ hq
      obtain ⟨e1, e2⟩ := sz_at S.hin S.sl hq
      refine ⟨_, _, tg_name 5, ?_⟩
      refine wb_asgT (ev_ix (i := i) (.t _) (ev_ix (i := 1) (.t _) (ev_v 2) ev_int rfl) (ev_v 5) (pD_at hi)) (tg_tup (tgs_cons (tg_name 6) (tgs_cons (tg_name 8) tgs_nil)) rfl) fun Y0 ly0 => ?_
      refine wb_for (ei_r1 (ev_ix (i := 0) (.t _) (ev_v 2) ev_int rfl) (by omega)) (fun m δ2 Y => (∃ c f : Option Sl, δ2 = [some (.d (.tuple [.int pi, .tuple [.int n, psD ps], iT ss, .tuple (Ts.map tabD)])), some (.d (.int pi)), some (.d (.tuple [.int n, psD ps])), some (.d (iT ss)), some (.d (.tuple (Ts.map tabD))), some (.d (.int (i : Int))), some (.d (.int (ps.getD i (0, 0)).1)), c, some (.d (.int (ps.getD i (0, 0)).2)), f, none]) ∧
        (∀ j, j < m → wayBad pi ps ss Ts i (j : Int) = false) ∧ Le Y0 Y) (fun Y ly => ⟨⟨_, _, rfl⟩, fun j hj => absurd hj (by omega), ly⟩) ?_ ?_
      · rintro m d2 δ2 V2 hd2 ⟨⟨c, f, rfl⟩, hk2, lw2⟩ Y ly
        obtain ⟨hm, rfl⟩ := rngN_at hd2
        refine ⟨_, _, tg_name 7, ?_⟩
        have LZ := ((lw.tr lz).tr ly0).tr (lw2.tr ly)
        refine wb_when (t := hasB ps ((ps.getD i (0, 0)).1, (m : Int)) && hasB ps ((m : Int), (ps.getD i (0, 0)).2)) (et_w (ew_and (et_inP (ev_v 6) (ev_v 7) (ev_ix (i := 1) (.t _) (ev_v 2) ev_int rfl)) fun _ => ew_and1 (et_inP (ev_v 7) (ev_v 8) (ev_ix (i := 1) (.t _) (ev_v 2) ev_int rfl)))) (fun h4 U5 l5 => ?_) fun h4 U5 l5 => ?_
        · rw [Bool.and_eq_true] at h4
          have p1 := has_iff.mp h4.1
          have p2 := has_iff.mp h4.2
          have wb : wayBad pi ps ss Ts i (m : Int) = !decide (behT pi (tbAt ps Ts ((ps.getD i (0, 0)).1, (m : Int))) (tbAt ps Ts ((m : Int), (ps.getD i (0, 0)).2)) (szAt ss (ps.getD i (0, 0)).1).toNat = Ts.getD i []) := by
            unfold wayBad
            rw [h4.1, h4.2, Bool.true_and, Bool.true_and]
          refine wb_asg 9 (ev_call C3 (hr.mono (by decide)) (ea_cons (ev_v 1) (ea_cons (ev_call C5 (hr.mono (by decide)) (ea_cons (ev_v 0) (ea_cons (ev_v 6) (ea_cons (ev_v 7) ea_nil))) ⟨_, _, _, ps, _, ((ps.getD i (0, 0)).1, (m : Int)), rfl, S.ne _ p1, p1, tabs_at (by rw [S.tl]; exact ixP_lt p1)⟩)
            (ea_cons (ev_call C5 (hr.mono (by decide)) (ea_cons (ev_v 0) (ea_cons (ev_v 7) (ea_cons (ev_v 8) ea_nil))) ⟨_, _, _, ps, _, ((m : Int), (ps.getD i (0, 0)).2), rfl, S.ne _ p2, p2, tabs_at (by rw [S.tl]; exact ixP_lt p2)⟩) (ea_cons (ev_ix (.t _) (ev_v 3) (EvE.cast (ev_v 6) (toNat_int q1)) e1) ea_nil)))) (S.beh p1 p2)) fun U6 l6 => ?_
          refine wb_when (t := wayBad pi ps ss Ts i (m : Int)) (EvT.cast (et_neD (ev_v 9) (ev_ix (i := i) (.t _) (ev_v 4) (ev_v 5) (tabs_at (by rw [S.tl]; exact hi))) (pl_plain (pl_tab _)) (pl_plain (pl_tab _))) (by rw [eqv_tab, wb])) (fun h6 U7 l7 => ?_) fun h6 U7 l7 => ?_
          · refine wb_ret (ev_tup (ea_cons ev_str (ea_cons (ev_v 5) ea_nil))) fun Y2 l9 => ⟨?_, L8.tr ((((LZ.tr l5).tr l6).tr l7).tr l9)⟩
            unfold wayIx
            rw [find_at hk hi (List.any_eq_true.mpr ⟨m, List.mem_range.mpr (by omega), h6⟩)] <;> rfl
          · refine wb_nil (wb_nil ⟨(l5.g.tr l6.g).tr l7.g, ⟨_, _, rfl⟩, fun j hj => ?_, (((lw2.tr ly).tr l5).tr l6).tr l7⟩)
            by_cases e : j = m
            · rw [e]; exact h6
            · exact hk2 j (by omega)
        · refine wb_nil ⟨l5.g, ⟨_, _, rfl⟩, fun j hj => ?_, (lw2.tr ly).tr l5⟩
          by_cases e : j = m
          · rw [e]
            unfold wayBad
            rw [← Bool.and_assoc, h4, Bool.false_and]
          · exact hk2 j (by omega)
      · rintro δ2 V2 ⟨⟨c, f, rfl⟩, hk2, lw2⟩
        rw [rngN_len] at hk2
        refine wb_nil ⟨ly0.g.tr lw2.g, ⟨_, _, _, _, _, none, rfl⟩, fun j hj => ?_, ((lw.tr lz).tr ly0).tr lw2⟩
        by_cases e : j = i
        · rw [e]
          exact List.any_eq_false.mpr fun y hy => by rw [hk2 y (List.mem_range.mp hy)]; decide
        · exact hk j (by omega)
    · rintro δ1 V1 ⟨⟨a, b, c, e, f, h, rfl⟩, hk, lw⟩
      rw [rngN_len, Int.toNat_natCast, htl] at hk
      refine wb_ret ev_non fun Z l6 => ⟨?_, L8.tr (lw.tr l6)⟩
      unfold wayIx
      rw [find_none hk] <;> rfl
end
end Pk
set_option Elab.async false
set_option linter.all false
set_option maxRecDepth 100000
set_option maxHeartbeats 4000000
/-! how long what is shown gets -/
namespace Pk
open PySem PySem.Spec L2
open PyProof.Rows hiding St
/-- no dicts, small ints, short, of this depth and bulk -/
structure Sm (k b : Nat) (d : PyData) : Prop where
  nd : noD d = true
  sh : d.showable = true
  dep : d.depth ≤ k
  blk : d.bulk ≤ b
  lv : d.leavesShort 8 = true
theorem small_int : ∀ k : Nat, k < 1002 → ((PyData.int ((k : Int) - 1)).showable && (PyData.int ((k : Int) - 1)).leavesShort 8) = true := by
  have h : ((List.range 1002).all fun k => (PyData.int ((k : Int) - 1)).showable && (PyData.int ((k : Int) - 1)).leavesShort 8) = true := by decide +kernel
  exact fun k hk => List.all_eq_true.mp h k (List.mem_range.mpr hk)
theorem sm_int {i : Int} (h : -1 ≤ i ∧ i ≤ 1000) : Sm 0 0 (.int i) := by
  have z := small_int (i + 1).toNat (by omega)
  rw [show (((i + 1).toNat : Nat) : Int) - 1 = i by omega, Bool.and_eq_true] at z
  exact ⟨rfl, z.1, by simp [PyData.depth], by simp [PyData.bulk], z.2⟩
theorem sm_none : Sm 0 0 .none := ⟨rfl, by simp [PyData.showable], by simp [PyData.depth], by simp [PyData.bulk], by simp [PyData.leavesShort]⟩
theorem sm_up {k b k' b' : Nat} {d : PyData} (h : Sm k b d) (hk : k ≤ k') (hb : b ≤ b') : Sm k' b' d := ⟨h.nd, h.sh, Nat.le_trans h.dep hk, Nat.le_trans h.blk hb, h.lv⟩
theorem sm_all {k b : Nat} : ∀ {ds : List PyData}, (∀ d ∈ ds, Sm k b d) → noDs ds = true ∧ PyData.showableAll ds = true ∧ PyData.depthAll ds ≤ k ∧ PyData.bulkAll ds ≤ (b + 1) * ds.length ∧ PyData.leavesShortAll 8 ds = true
  | [], _ => ⟨rfl, by simp [PyData.showableAll], by simp [PyData.depthAll], by simp [PyData.bulkAll], by simp [PyData.leavesShortAll]⟩
  | d :: ds, h => by
    have a := h d List.mem_cons_self
    obtain ⟨b1, b2, b3, b4, b5⟩ := sm_all (ds := ds) fun x hx => h x (List.mem_cons_of_mem _ hx)
    have a3 := a.dep
    have a4 := a.blk
    refine ⟨by show (noD d && noDs ds) = true; rw [a.nd, b1] <;> rfl, by simp only [PyData.showableAll]; rw [a.sh, b2] <;> rfl, by simp only [PyData.depthAll]; omega, ?_, by simp only [PyData.leavesShortAll]; rw [a.lv, b5] <;> rfl⟩
    simp only [PyData.bulkAll]
    rw [List.length_cons, Nat.mul_add, Nat.mul_one]
    omega
theorem sm_tup {k b n : Nat} {ds : List PyData} (h : ∀ d ∈ ds, Sm k b d) (hn : ds.length ≤ n) : Sm (k + 1) ((b + 1) * n) (.tuple ds) := by
  obtain ⟨b1, b2, b3, b4, b5⟩ := sm_all h
  have hm : (b + 1) * ds.length ≤ (b + 1) * n := Nat.mul_le_mul_left _ hn
  exact ⟨b1, by simpa only [PyData.showable] using b2, by simp only [PyData.depth]; omega, by simp only [PyData.bulk]; omega, by simpa only [PyData.leavesShort] using b5⟩
theorem sm_lst {k b n : Nat} {ds : List PyData} (h : ∀ d ∈ ds, Sm k b d) (hn : ds.length ≤ n) : Sm (k + 1) ((b + 1) * n) (.list ds) := by
  obtain ⟨b1, b2, b3, b4, b5⟩ := sm_all h
  have hm : (b + 1) * ds.length ≤ (b + 1) * n := Nat.mul_le_mul_left _ hn
  exact ⟨b1, by simpa only [PyData.showable] using b2, by simp only [PyData.depth]; omega, by simp only [PyData.bulk]; omega, by simpa only [PyData.leavesShort] using b5⟩
theorem Sm.shw {k b : Nat} {d : PyData} (h : Sm k b d) (f : d = .none ∨ ∃ ds, d = .tuple ds ∨ d = .list ds) (hk : k ≤ 60 := by decide) (hb : b ≤ 1000000 := by decide) : Shw d := by
  refine ⟨h.nd, h.sh, Nat.le_trans h.dep hk, ?_, f⟩
  have z := PyData.shown_le_bulk 8 (Nat.le_refl _) d h.lv
  have := h.blk
  rw [sizeLine_eq]
  omega
/-! the breaches -/
def ruleOk (r : Str) : Prop := r ∈ (["form", "prime", "order", "sizes", "table", "ways"] : List Str)
theorem sm_rule {r : Str} (h : ruleOk r) : Sm 0 6 (.str r) := by
  have key : ∀ x ∈ (["form", "prime", "order", "sizes", "table", "ways"] : List Str), ((PyData.str x).leavesShort 8 && decide ((PyData.str x).bulk ≤ 6)) = true := by decide +kernel
  have z := key r h
  rw [Bool.and_eq_true] at z
  exact ⟨rfl, by simp [PyData.showable], by simp [PyData.depth], of_decide_eq_true z.2, z.1⟩
theorem find_lt {n i : Nat} {f : Nat → Bool} (h : (List.range n).find? f = some i) : i < n := List.mem_range.mp (List.mem_of_find?_eq_some h)
theorem br_ok {v : PyData} {r : Str} {i : Int} (hT : TameP v) (h : breachO v = some (r, i)) : ruleOk r ∧ -1 ≤ i ∧ i ≤ 1000 := by
  rcases four_cases v with ⟨p, o, s, t, rfl⟩ | h2
  · have h' : br4 p o s t = some (r, i) := h
    unfold br4 at h'
    split at h'
    · obtain ⟨rfl, rfl⟩ := Prod.mk.inj (Option.some.inj h')
      exact ⟨by simp [ruleOk], by omega, by omega⟩
    split at h'
    · obtain ⟨rfl, rfl⟩ := Prod.mk.inj (Option.some.inj h')
      exact ⟨by simp [ruleOk], by omega, by omega⟩
    rename_i ho
    split at h'
    · obtain ⟨rfl, rfl⟩ := Prod.mk.inj (Option.some.inj h')
      exact ⟨by simp [ruleOk], by omega, by omega⟩
    have O := ord_of (by simpa using ho : orderB o = true)
    have hl : (psOf o).length ≤ 1000 := by
      have z := ((hT _ _ _ _ rfl).1 _ _ O.e).1
      rwa [List.length_map] at z
    unfold brT at h'
    split at h'
    · rename_i j hj
      obtain ⟨rfl, rfl⟩ := Prod.mk.inj (Option.some.inj h')
      refine ⟨by simp [ruleOk], ?_⟩
      cases t with
      | tuple ts =>
        have hj' : (if ts.length = (psOf o).length then ((List.range (psOf o).length).find? (badTab (intOf p) (psOf o) (intsOf s) ts)).map fun i : Nat => (i : Int) else some (-1)) = some j := hj
        split at hj'
        · obtain ⟨m, hm, rfl⟩ := Option.map_eq_some_iff.mp hj'
          have := find_lt hm
          omega
        · obtain rfl := Option.some.inj hj'
          omega
      | _ =>
        obtain rfl := Option.some.inj (hj : some (-1) = some j)
        omega
    · split at h'
      · rename_i m hm
        obtain ⟨rfl, rfl⟩ := Prod.mk.inj (Option.some.inj h')
        have : m < (psOf o).length := find_lt hm
        exact ⟨by simp [ruleOk], by omega, by omega⟩
      · cases h'
  · rw [h2] at h
    obtain ⟨rfl, rfl⟩ := Prod.mk.inj (Option.some.inj h)
    exact ⟨by simp [ruleOk], by omega, by omega⟩
theorem sm_br {v : PyData} (hT : TameP v) : Sm 1 14 (brD (breachO v)) := by
  cases h : breachO v with
  | none => exact sm_up sm_none (by decide) (by decide)
  | some ri =>
    obtain ⟨r, i⟩ := ri
    obtain ⟨h1, h2⟩ := br_ok hT h
    show Sm 1 14 (.tuple [.str r, .int i])
    exact sm_tup (b := 6) (n := 2) (fun d hd => by
      rcases List.mem_cons.mp hd with rfl | hd
      · exact sm_rule h1
      · rw [List.mem_singleton.mp hd]
        exact sm_up (sm_int h2) (by decide) (by decide)) (by simp)
theorem br_form (b : Br) : brD b = .none ∨ ∃ ds, brD b = .tuple ds ∨ brD b = .list ds := by
  cases b with
  | none => exact .inl rfl
  | some ri => exact .inr ⟨_, .inl rfl⟩
theorem shw_br {v : PyData} (hT : TameP v) : Shw (brD (breachO v)) := (sm_br hT).shw (br_form _)
/-- a value without a breach -/
theorem br_none {v : PyData} (hT : TameP v) (h : breachO v = none) : ∃ (p n : Int) (ps : List Pr) (ss : List Int) (Ts : List Tb), v = .tuple [.int p, .tuple [.int n, psD ps], iT ss, .tuple (Ts.map tabD)] ∧ Shape p n ps ss Ts := by
  rcases four_cases v with ⟨p, o, s, t, rfl⟩ | h2
  · have h' : br4 p o s t = none := h
    unfold br4 at h'
    split at h'
    · cases h'
    rename_i hp
    split at h'
    · cases h'
    rename_i ho
    split at h'
    · cases h'
    rename_i hs
    obtain ⟨ep, hp2, hp13, _⟩ := prime_pos (by simpa using hp : (wholeD p 13 && primeB p) = true)
    have O := ord_of (by simpa using ho : orderB o = true)
    obtain ⟨es, hsl, hs8⟩ := siz_of (by simpa using hs : sizesB s (nOf o) = true)
    have hl : (psOf o).length ≤ 1000 := by
      have z := ((hT _ _ _ _ rfl).1 _ _ O.e).1
      rwa [List.length_map] at z
    unfold brT at h'
    split at h'
    · cases h'
    rename_i ht
    obtain ⟨et, S⟩ := shape_of ⟨by omega, hp13⟩ O hl hsl hs8 ht
    exact ⟨_, _, _, _, _, by rw [← ep, ← O.e, ← es, ← et], S⟩
  · rw [h2] at h; cases h
theorem shw_val {v : PyData} (hT : TameP v) (h : breachO v = none) : Shw v := by
  obtain ⟨p, n, ps, ss, Ts, rfl, S⟩ := br_none hT h
  have n0 := S.n0
  have n16 := S.n16
  have p0 := S.p0
  have p13 := S.p13
  have s1 : Sm 4 80000 (.int p) := sm_up (sm_int (by omega)) (by decide) (by decide)
  have s2 : Sm 4 80000 (.tuple [.int n, psD ps]) := by
    refine sm_up (sm_tup (k := 2) (b := 3000) (n := 2) (fun d hd => ?_) (by simp)) (by decide) (by decide)
    rcases List.mem_cons.mp hd with rfl | hd
    · exact sm_up (sm_int (by omega)) (by decide) (by decide)
    · rw [List.mem_singleton.mp hd]
      refine sm_up (sm_tup (k := 1) (b := 2) (n := 1000) (fun d hd => ?_) (by rw [List.length_map]; exact S.len)) (by decide) (by decide)
      obtain ⟨q, hq, rfl⟩ := List.mem_map.mp hd
      obtain ⟨a, b, c, e⟩ := S.hin q hq
      refine sm_up (sm_tup (k := 0) (b := 0) (n := 2) (fun d hd => ?_) (by simp)) (by decide) (by decide)
      rcases List.mem_cons.mp hd with rfl | hd
      · exact sm_int (by omega)
      · rw [List.mem_singleton.mp hd]
        exact sm_int (by omega)
  have s3 : Sm 4 80000 (iT ss) := by
    have hsl := S.sl
    refine sm_up (sm_tup (k := 0) (b := 0) (n := 16) (fun d hd => ?_) (by rw [List.length_map]; omega)) (by decide) (by decide)
    obtain ⟨q, hq, rfl⟩ := List.mem_map.mp hd
    have := S.s8 q hq
    exact sm_int (by omega)
  have s4 : Sm 4 80000 (.tuple (Ts.map tabD)) := by
    refine sm_up (sm_tup (k := 2) (b := 72) (n := 1000) (fun d hd => ?_) (by rw [List.length_map, S.tl]; exact S.len)) (by decide) (by decide)
    obtain ⟨T, hT, rfl⟩ := List.mem_map.mp hd
    obtain ⟨i, hi⟩ := List.mem_iff_getElem?.mp hT
    have hil : i < ps.length := by rw [← S.tl]; exact (List.getElem?_eq_some_iff.mp hi).1
    have hb := S.tb i hil
    have e : Ts.getD i [] = T := by rw [List.getD_eq_getElem?_getD, hi] <;> rfl
    rw [e] at hb
    have z1 := S.sz (ps.getD i (0, 0)).1
    have z2 := S.sz (ps.getD i (0, 0)).2
    refine sm_tup (k := 1) (b := 8) (n := 8) (fun d hd => ?_) (by rw [List.length_map]; omega)
    obtain ⟨r, hr, rfl⟩ := List.mem_map.mp hd
    obtain ⟨hr1, hr2⟩ := hb.2 r hr
    refine sm_tup (k := 0) (b := 0) (n := 8) (fun d hd => ?_) (by rw [List.length_map]; omega)
    obtain ⟨x, hx, rfl⟩ := List.mem_map.mp hd
    have := hr2 x hx
    exact sm_int (by omega)
  refine (sm_tup (k := 4) (b := 80000) (n := 4) (fun d hd => ?_) (by simp)).shw (.inr ⟨_, .inl rfl⟩)
  simp only [List.mem_cons, List.not_mem_nil, or_false] at hd
  rcases hd with rfl | rfl | rfl | rfl
  · exact s1
  · exact s2
  · exact s3
  · exact s4
end Pk
set_option Elab.async false
set_option linter.all false
set_option maxRecDepth 100000
set_option maxHeartbeats 4000000
/-! isinstance of a caught error that has fields -/
namespace PkY
open PySem PySem.Spec PySem.Calls PyProof.Rows PySem.W
section
variable {P : Program} {w : World} {A : Around} {E : Value → Shared → Prop} {s : Shared} {K : Frag} {x D : Addr} {ob : Obj} {od : Option Obj}
theorem bound_class (C : L2.ExcC K D) : findObj K D od "__class__" = some (.bind (.builtin "getset_descriptor.__get__") (.builtin "object.__class__")) := by
  obtain ⟨cd, hc, _⟩ := any_some C.hd
  unfold findObj
  have h1 := C.ha
  have h2 := C.hn
  have h3 := C.ht
  rw [hc, Option.bind_some, h1, Option.bind_some]
  simp [h2, h3]
theorem class_of {Q : Option Value → Shared → Prop} (C : L2.ExcC K D) (X : K.In s.heap) (J : InstAt s.heap x ob D od) (q : Q (some (.ref D)) { s with toks := s.toks + 1 }) : wpAny (model P w) A (getAttr? (.ref x) "__class__") Q E s := by
  have no : (Value.builtin "BaseException.__getattribute__" == Value.builtin "object.__getattribute__") = false := by decide +kernel
  obtain ⟨hp, g, d, t, os⟩ := s
  have ty := J.type (M := model P w)
  have isE : Looks (model P w) hp (isInstance (.ref x) (.type "BaseException")) true := ty.andThen (looks_subIn X C.hs)
  unfold getAttr? getAttrBy? getAttrBy
  refine wpAny_bind (wpAny_mkText (wpAny_bind (wpAny_attempt (wpAny_holding (wpAny_bind (ty.at (wpAny_bind ((looks_findIn X C.hg).at ?_))))))))
  show wpAny _ _ (if (onTheHeap (Value.ref D) && Value.builtin "BaseException.__getattribute__" == Value.builtin "object.__getattribute__") = true then _ else _) _ _ _
  rw [show (onTheHeap (Value.ref D) && Value.builtin "BaseException.__getattribute__" == Value.builtin "object.__getattribute__") = false by rw [no]; rfl, if_neg (by decide)]
  unfold getAttrByItsOwn hookBefore
  refine wpAny_bind ?_
  rw [if_pos (by rfl : onTheHeap (Value.ref D) = true)]
  refine (looks_findIn X C.hk).at (wpAny_bind (wpAny_attempt (wpAny_holding ?_)))
  unfold callGetattribute
  rw [show (false && onTheHeap (Value.builtin "BaseException.__getattribute__")) = false from rfl, if_neg (by decide)]
  unfold boundAndCalled
  rw [PySem.F.excAttr_ValueError.ga.bind (.ref x)]
  refine wpAny_bind (wpAny_pure ?_)
  show wpAny _ _ (call (.builtin "BaseException.__getattribute__") [.ref x, .str "__class__" t]) _ _ _
  refine wpAny_call (codeAny_call_builtin PySem.F.excAttr_ValueError.ga.plain PySem.F.entry_bexc_ga (@check_slot (model P w) _ _ ⟨hp, g, d, t + 1, os⟩ "BaseException.__getattribute__" "BaseException" "__getattribute__" (.ref x) [.str "__class__" t] [] _ (by decide +kernel) (by decide +kernel) isE (PySem.F.args_bexc_ga (.ref x) (.str "__class__" t)) ?_))
  unfold Builtin.«object.__getattribute__»
  refine wpAny_bind (wpAny_of_eq (a := ((Value.ref x : Value), [Value.str "__class__" t])) (by first | rfl | (simp only [slotArgs]; rfl)) (wpAny_bind (wpAny_pure (wpAny_bind (ty.at (wpAny_bind ((looks_find X J (bound_class C)).at ?_)))))))
  show wpAny _ _ (holding [Value.builtin "object.__class__"] (call (.builtin "getset_descriptor.__get__") [.builtin "object.__class__", .ref x, .ref D]) >>= ret) _ _ _
  refine wpAny_bind (wpAny_holding (wpAny_call (class_get (s := ⟨hp, g, d, t + 1, os⟩) (ox := ob) (od := od) X J C.hm (wpAny_pure ?_))))
  show wpAny _ _ (handedOut (.ref D)) _ _ _
  rw [handedOut_of (v := .ref D) rfl]
  first
    | exact wpAny_pure (wpAny_pure q)
    | exact wpAny_pure q
    | exact wpAny_pure (wpAny_bind (wpAny_pure (wpAny_pure q)))
theorem kit_err (C : L2.ExcC K D) : KitX K (.ref x) (.ref D) (fun h => InstAt h x ob D od) where
  ty := fun _ _ _ J => J.type
  it := fun _ _ X _ => by
    obtain ⟨cd, hc, _⟩ := any_some C.hd
    unfold clsIn at hc
    split at hc
    · rename_i c' d' cd' sl' ho
      intro A' Q' E' s' k q
      unfold isType loadHead
      exact wpAny_bind (wpAny_loadPart (k _ _ (X _ _ ho)) (wpAny_pure q))
    · cases hc
  ne := fun h tp dd its n sl X ht => by
    obtain ⟨cd, hc, _⟩ := any_some C.hd
    cases qe : (Value.ref D == Value.ref tp) with
    | false => rfl
    | true =>
      have e : D = tp := Value.ref.inj (beq_iff_eq.mp qe)
      subst e
      unfold clsIn at hc
      split at hc
      · rename_i c' d' cd' sl' ho
        cases (X _ _ ho).symm.trans ht
      · cases hc
  ca := fun X J k => class_of C X J k
end
end PkY
namespace L2
open PySem PySem.Spec PyProof.Rows
section
variable {X : Cx} {a D dd : Addr} {oe : Obj} {pn : List (Addr × Obj)}
theorem err_inst {pins : List (Addr × Obj)} {σ : St} {H : Hp} {s : Shared} {fs : List (Str × V)} (hz : Zc (.ref D) (some dd) oe) (hf : ∃ vs, oe.data = .fields vs) (I : Inv (X.suite a ((a, oe) :: pn)) pins σ H s) (e : H dd = some (.xd fs)) : ∃ od, PySem.W.InstAt s.heap a oe D (some od) := by
  obtain ⟨ha, _⟩ := I.pin (a, oe) (List.mem_append_left _ List.mem_cons_self)
  obtain ⟨vs, hv⟩ := hf
  have hx : ObjOk X.prog X.w H s.heap dd (.xd fs) := I.hok dd _ e
  obtain ⟨mA, hns, _⟩ := hx
  obtain ⟨od, ho, _⟩ := lookIn_ns hns
  exact ⟨od, ha, hz.1, by unfold PySem.W.notCls; rw [hv] <;> rfl, by rw [hz.2]; exact ho⟩
/-- isinstance(e, C) -/
def rIsF (K : PySem.W.Frag) (D a dd : Addr) : List V → Hp → VK → Prop := fun xs H Q => ∃ (fs : List (Str × V)) (c : Addr) (b : Bool), xs = [.ref a, .ref c] ∧ H dd = some (.xd fs) ∧ PySem.W.kitOne K (.ref D) (.ref c) = some b ∧ Q (.bl b) H
theorem call_isF (C : ExcC X.K D) (hz : Zc (.ref D) (some dd) oe) (hf : ∃ vs, oe.data = .fields vs) : CallR (X.suite a ((a, oe) :: pn)) (.builtin "isinstance") (rIsF X.K D a dd) := by
  intro pins s σ H xs us Q I r h
  obtain ⟨fs, c, b, rfl, e, k, q⟩ := h
  obtain ⟨u1, u2, rfl, r1, r2⟩ := vals2 r
  obtain rfl : u1 = Value.ref a := r1
  obtain rfl : u2 = Value.ref c := r2
  obtain ⟨od, J⟩ := err_inst hz hf I e
  exact PySem.W.kia_one (PkY.kit_err C) I.kIn J k (fun z => nomatch z) fun tk => ⟨.bl b, H, I.tok tk, rfl, q⟩
/-- isinstance(e, (C1, C2)) -/
def rIsFT (K : PySem.W.Frag) (D a dd : Addr) : List V → Hp → VK → Prop := fun xs H Q => ∃ (fs : List (Str × V)) (tp c1 c2 : Addr) (b : Bool), xs = [.ref a, .ref tp] ∧ H dd = some (.xd fs) ∧ H tp = some (.tup [.ref c1, .ref c2]) ∧ PySem.W.kitAny K (.ref D) [.ref c1, .ref c2] = some b ∧ Q (.bl b) H
theorem call_isFT (C : ExcC X.K D) (hz : Zc (.ref D) (some dd) oe) (hf : ∃ vs, oe.data = .fields vs) : CallR (X.suite a ((a, oe) :: pn)) (.builtin "isinstance") (rIsFT X.K D a dd) := by
  intro pins s σ H xs us Q I r h
  obtain ⟨fs, tp, c1, c2, b, rfl, e, hT, k, q⟩ := h
  obtain ⟨u1, u2, rfl, r1, r2⟩ := vals2 r
  obtain rfl : u1 = Value.ref a := r1
  obtain rfl : u2 = Value.ref tp := r2
  obtain ⟨od, J⟩ := err_inst hz hf I e
  obtain ⟨_, its, rv, o, h1, h2, n, h3⟩ := (show ObjOk X.prog X.w H s.heap tp (.tup [.ref c1, .ref c2]) from I.hok tp _ hT)
  obtain ⟨w1, w2, rfl, q1, q2⟩ := vals2 rv
  obtain rfl : w1 = Value.ref c1 := q1
  obtain rfl : w2 = Value.ref c2 := q2
  obtain ⟨oc, od', dt, sl⟩ := o
  simp only at h2 h3
  subst h2 h3
  exact PySem.W.kia_tup (PkY.kit_err C) I.kIn J h1 k (fun z => nomatch z) fun tk => ⟨.bl b, H, I.tok tk, rfl, q⟩
end
end L2
set_option Elab.async false
set_option linter.all false
set_option maxRecDepth 100000
set_option maxHeartbeats 4000000
namespace Pk
open PySem PySem.Spec L2
open PyProof.Rows hiding St
section
variable {K : PySem.W.Frag} {X : Cx} [g : Good K X] {δ : Sd} {W : Wd} {a b c e : Expr} {es : List Expr} {pos : Pos} {d : PyData} {rest : List Stmt} {P : Po}
theorem if_n {P Q : Prop} (q : Q) : if (!true) = true then P else Q := q
theorem if_f {P Q : Prop} (q : Q) : if false = true then P else Q := by rw [if_neg (by decide)]; exact q
theorem SRep.skip {G : Hp} {σ : St} {i : Nat} {x : Option V} (r : SRep K G σ δ) (h : δ[i]? = some none) : SRep K G (σ.set i x) δ := ⟨by rw [List.length_set]; exact r.len, fun j s q => by
  by_cases hj : i = j
  · subst hj
    rw [h] at q
    cases q
  · obtain ⟨v, a, b⟩ := r.at_ j s q
    exact ⟨v, by rw [List.getElem?_set_ne hj]; exact a, b⟩⟩
/-- x, y, z = a, b, c -/
theorem wb_par3 (i j l : Nat) {x y z : Str} {px py pz pt pt2 : Pos} {kt k2 : Nat} (he : WA K X δ [a, b, c] W fun ds U => ∃ d1 d2 d3, ds = [d1, d2, d3] ∧ WB K X (((δ.set i (some (.d d1))).set j (some (.d d2))).set l (some (.d d3))) rest U P)
    (hi : X.N[i]? = some x := by rfl) (hj : X.N[j]? = some y := by rfl) (hl : X.N[l]? = some z := by rfl) (hij : i ≠ j := by decide) (hil : i ≠ l := by decide) (hjl : j ≠ l := by decide) (hx : X.env.scope.names.lookup x = some .local := by rfl) (hy : X.env.scope.names.lookup y = some .local := by rfl) (hz : X.env.scope.names.lookup z = some .local := by rfl)
    (hw : swappedStores [.Tuple [.Name x px, .Name y py, .Name z pz] kt pt] (.Tuple [a, b, c] k2 pt2) X.env = pure (some [x, y, z]) := by rfl)
    (hs : swapsWithSole [.Tuple [.Name x px, .Name y py, .Name z pz] kt pt] (.Tuple [a, b, c] k2 pt2) pos.line X.env = pure false := by rfl) :
    WB K X δ (.Assign [.Tuple [.Name x px, .Name y py, .Name z pz] kt pt] (.Tuple [a, b, c] k2 pt2) pos :: rest) W P :=
  wb_cons fun σ r => (ps_par3 g.calm g.nd hi hj hl hij hil hjl hx hy hz (pa_w X _) hw hs).w (he σ r _ fun vs ds U gu rs ⟨d1, d2, d3, e1, q⟩ => by
    subst e1
    cases rs with
    | cons r1 r2 =>
      cases r2 with
      | cons r2 r3 =>
        cases r3 with
        | cons r3 r4 =>
          cases r4
          exact ⟨_, _, _, rfl, _, U, rfl, SRep.set (s := .d d3) (SRep.set (s := .d d2) (SRep.set (s := .d d1) (r.up gu) r1 i) r2 j) r3 l, q⟩)
theorem ev_like {p : Pos} (C : CalG X.prog X.w X.K X.mg X.base 1 "_law_like" p_L_like (SpLike K)) (hr : Room 1 X.A) (hgd : X.A.guards = some []) (ha : EvE K X δ a W d) (hb : EvE K X δ b W d) (S : Shw d) (hg : Gl X "_law_like" := by rfl)
    (hst : starEach [a, b] X.env = (false, eval a X.env) :: starEach [b] X.env := by rfl) (hst2 : starEach [b] X.env = (false, eval b X.env) :: starEach [] X.env := by rfl) (hpl : (backTo pos (starEach [b] X.env)).any (·.1) = false := by rfl) :
    EvE K X δ (.Call (.Name "_law_like" p) [a, b] [] pos) W (.bool true) :=
  ev_of fun U l => we_callGG C hr hgd (ea_cons (ha.up l) (ea_cons (hb.up l) ea_nil hst2) hst) (fun Z vs lz rs Q E q => ⟨Z, d, rfl, rs, S, fun Y ly => q _ _ Y ly.g (.bl true) ⟨rfl, lz.tr ly⟩⟩) hg (by decide) hst hpl
end
/-- the classes as told_rightly asks them -/
structure HasE (K : PySem.W.Frag) (mg : Str → Option Value) (CP : Addr) : Prop where
  ec : ExcC K CP
  pe : ∃ CE : Addr, mg "PatchError" = some (.ref CE) ∧ PySem.W.kitOne K (.ref CP) (.ref CE) = some true
  no : ∃ CO CF : Addr, mg "NotOrder" = some (.ref CO) ∧ mg "NotFit" = some (.ref CF) ∧ PySem.W.kitAny K (.ref CP) [.ref CO, .ref CF] = some false
  ga : PySem.W.findIn K (.ref CP) "__getattribute__" = some (some (.builtin "BaseException.__getattribute__"))
  gg : PySem.W.findIn K (.ref CP) "__getattr__" = some none
/-- told rightly: True -/
def SpTold (K : PySem.W.Frag) : Sp := fun vs H Q _ => ∃ (W : Wd) (v : PyData), W.H = H ∧ RpL K W.G vs [v] ∧ TameP v ∧ ∀ U, Le W U → Q (.bl true) U.H
section
variable {P : Program} {w : World} {K : PySem.W.Frag} {mg : Str → Option Value} {base : Heap} {CP : Addr}
theorem c_told (T : At K mg "_law_told_rightly" s_L_told_rightly) (B : Bn mg) (HP' : HasP P K mg CP) (HE : HasE K mg CP) (CL : CalG P w K mg base 1 "_law_like" p_L_like (SpLike K)) (C5 : Cal P w K mg base CX0 5 "_law_breach" p_L_breach (SpP K R_breach)) (C7 : Cal P w K mg base CX0 7 "patch_breach" p_patch_breach (SpP K R_breach))
    (C8 : Cal P w K mg base (L2.CX P w) 8 "need_patch" p_need_patch (SpNP K CP)) : CalG P w K mg base 9 "_law_told_rightly" p_L_told_rightly (SpTold K) := by
  refine cal_genG T b_L_told_rightly sc_L_told_rightly B (fun vs H Q E h => ?_) fun f cdv A outer s H E => ?_
  · obtain ⟨W, v, _, rs, _⟩ := h
    exact rs.len
  intro X gX hr hgd vs Q h
  obtain ⟨W, v, rfl, rs, hT, hQ⟩ := h
  refine ⟨W, [v], fun d U => d = .bool true ∧ Le W U, rfl, rs, fun u d U ⟨e, l⟩ rv => by subst e; rw [rv.bool_inv]; exact hQ U l, ?_⟩
  have hS := shw_br hT
  refine wb_par3 1 2 3 (wa_ev (ea_cons (ev_call C5 (hr.mono (by decide)) (ea_cons (ev_v 0) ea_nil) ⟨v, rfl, hT, rfl⟩) (ea_cons ev_non (ea_cons ev_non ea_nil))) fun U l => ⟨_, _, _, rfl, ?_⟩)
  refine wb_when (t := false) (EvT.cast (et_not (et_val (ev_like CL (hr.mono (by decide)) hgd (ev_call C7 (hr.mono (by decide)) (ea_cons (ev_v 0) ea_nil) ⟨v, rfl, hT, rfl⟩) (ev_v 1) hS))) rfl) (fun h => absurd h (by decide)) fun _ U2 l2 => ?_
  have L2' := l.tr l2
  obtain ⟨CE, hCE, kE⟩ := HE.pe
  obtain ⟨CO, CF, hCO, hCF, kO⟩ := HE.no
  -- what follows, once told is as it should be
  have last : ∀ (dt df : PyData) (Z : Wd), Le W Z → dt = brD (breachO v) → (breachO v = none → df = v) → WB K X [some (.d v), some (.d (brD (breachO v))), some (.d dt), some (.d df), none] ((defBody s_L_told_rightly).drop 3) Z { nx := fun _ U => PyData.none = .bool true ∧ Le W U, rt := fun d U => d = .bool true ∧ Le W U } := by
    intro dt df Z lz e1 e2
    subst e1
    refine wb_ret (ev_and (u := true) (ev_like CL (hr.mono (by decide)) hgd (ev_v 2) (ev_v 1) hS) fun _ => ev_one (EvE.cast (ev_or (t := !isN (brD (breachO v))) (u := true) (ev_notN (ev_v 1)) fun h => ev_one ?_) (by rw [Bool.or_true]))) fun Y ly => ⟨rfl, lz.tr ly⟩
    cases hb : breachO v with
    | none =>
      have e3 := e2 hb
      subst e3
      exact ev_like CL (hr.mono (by decide)) hgd (ev_v 3) (ev_v 0) (shw_val hT hb)
    | some ri =>
      rw [hb] at h
      obtain ⟨r, i⟩ := ri
      cases h
  refine wb_cons fun σ r => ?_
  refine (ps_try_as (i := 4) (c := .ref CP) (tb := fun Wx D σ H => ∀ pn xe, Takes (X.tr pn xe) Wx → wB (X.tr pn xe) _ D σ H) (ts := fun a cls d D σ H => ∀ oe pn, Zc cls d oe → (∃ vs, oe.data = .fields vs) → wB (X.suite a ((a, oe) :: pn)) _ D σ H) (Wout := fun _ _ _ _ => False)
    rfl rfl gX.nd rfl rfl (⟨(rfl : Gl X "NotPatch"), by decide, .inl HP'.g⟩ : Names X "NotPatch" (.ref CP)) takes0 (fun Wx pn xe tk _ => ⟨fun pins s σ H D I h => (h pn xe tk).run _ pins s I⟩) (fun a oe cls d pn hz hf => ⟨fun pins s σ H D I h => (h oe pn hz hf).run _ pins s I⟩)).w ?_
  intro pn xe tk
  have gt : Good K (X.tr pn xe) := good_tr
  refine (show WB K (X.tr pn xe) [some (.d v), some (.d (brD (breachO v))), some (.d .none), some (.d .none), none] _ U2 { nx := fun δ' Z => WB K X δ' ((defBody s_L_told_rightly).drop 3) Z _, rt := _ } from wb_asgW 3 (we_callX tk C8 hr (ea_cons (ev_v 0) ea_nil) fun Z vs lz rs σ1 r1 Q1 q1 => ?_)) σ r
  have LZ := L2'.tr lz
  refine ⟨Z, v, rfl, rs, hT, fun hn u Y ly ru => q1 u v Y ly.g ru (wb_nil ?_), fun r i hb dd Y ly hd => ?_⟩
  · have z := last .none v Y (LZ.tr ly) (by rw [hn] <;> rfl) (fun _ => rfl)
    exact z
  · refine ⟨true, HP'.em, fun _ a0 _ => ?_, fun z => Bool.noConfusion z⟩
    intro oe pn2 hz hf
    have σl : σ1.length = 5 := r1.len
    have at4 : (σ1.set 4 (some (.ref a0)))[4]? = some (some (.ref a0)) := List.getElem?_set_self (by omega)
    have pv4 : ∀ p : Pos, PE (X.suite a0 ((a0, oe) :: pn2)) (.Name "e" p) (tVar 4) := fun p => pe_var rfl (.inl rfl) (by decide) (by decide)
    have bi : (X.suite a0 ((a0, oe) :: pn2)).mg "isinstance" = none := gX.bn _ (by simp)
    refine L2.PSs.w (t := tSeq (tAsg (tTup (tCons (tXfl CP a0 (.ref CP) (some dd) "rule" (tVar 4)) (tCons (tXfl CP a0 (.ref CP) (some dd) "place" (tVar 4)) tNil))) (gName 2)) (tIfS (tOr (tNot (tB (tCB (rIsF K CP a0 dd) (tCons (tVar 4) (tCons (tC (.ref CE)) tNil))))) (tB (tCB (rIsFT K CP a0 dd) (tCons (tVar 4) (tCons (tTup (tCons (tC (.ref CO)) (tCons (tC (.ref CF)) tNil))) tNil))))) (tRet (tC (.bl false))) tNext))
      (by exact (pss_cons (ps_set (i := 2) gX.nd rfl (.inl rfl) (by exact (pe_tup (pa_cons (pe_xfl HE.ga HE.gg HE.ec.hd HP'.cl (HP'.cl.f.no "rule" (by simp)) hz hf (pv4 _)) (pa_cons (pe_xfl HE.ga HE.gg HE.ec.hd HP'.cl (HP'.cl.f.no "place" (by simp)) hz hf (pv4 _)) pa_nil)))))
      (pss_one (ps_if (by exact (PW.pt (pw_or (pt_not (pt_val (by exact (pe_callB (call_isF HE.ec hz hf) rfl bi (by decide +kernel) (pa_cons (pv4 _) (pa_cons (pe_glob (X := X.suite a0 ((a0, oe) :: pn2)) (v := .ref CE) rfl hCE rfl) pa_nil)))))) (pw_or1 (pt_val (by exact (pe_callB (call_isFT HE.ec hz hf) rfl bi (by decide +kernel) (pa_cons (pv4 _) (pa_cons (pe_tup (pa_cons (pe_glob (X := X.suite a0 ((a0, oe) :: pn2)) (v := .ref CO) rfl hCO rfl) (pa_cons (pe_glob (X := X.suite a0 ((a0, oe) :: pn2)) (v := .ref CF) rfl hCF rfl) pa_nil))) pa_nil)))))))))
        (pss_one (ps_ret pe_bl)) pss_nil)))) ?_
    have lk1 : ([(("place" : Str), V.int i), (("rule" : Str), V.str r)] : List (Str × V)).lookup ("rule" : Str) = some (V.str r) := by rw [lookup_put, if_neg (by decide), lookup_put, if_pos rfl]
    have lk2 : ([(("place" : Str), V.int i), (("rule" : Str), V.str r)] : List (Str × V)).lookup ("place" : Str) = some (V.int i) := by rw [lookup_put, if_pos rfl]
    refine ⟨.ref a0, at4, rfl, rfl, dd, _, .str r, rfl, hd, lk1, .ref a0, at4, rfl, rfl, dd, _, .int i, rfl, hd, lk2, by (show 2 ≤ sizeLine; rw [sizeLine_eq]; decide), fun p hp => ?_⟩
    have ddp : dd ≠ p := fun z => by rw [z, hp] at hd; cases hd
    have hd2 : upd Y.H p (.tup [.str r, .int i]) dd = some (.xd [(("place" : Str), .int i), (("rule" : Str), .str r)]) := by rw [upd_ne ddp]; exact hd
    have at4' : ((σ1.set 4 (some (.ref a0))).set 2 (some (.ref p)))[4]? = some (some (.ref a0)) := by rw [List.getElem?_set_ne (by decide)]; exact at4
    refine ⟨.ref a0, at4', _, CE, true, rfl, hd2, kE, true, rfl, ?_⟩
    refine if_n ?_
    refine ⟨.ref a0, at4', by (show 2 ≤ sizeLine; rw [sizeLine_eq]; decide), fun tp htp => ?_⟩
    have ddt : dd ≠ tp := fun z => by rw [z, htp] at hd2; cases hd2
    refine ⟨_, tp, CO, CF, false, rfl, by rw [upd_ne ddt]; exact hd2, upd_same, kO, false, rfl, ?_⟩
    refine if_f ?_
    have tpY : (Y.add p (.tup [.str r, .int i]) hp).G tp = none := (Y.add p (.tup [.str r, .int i]) hp).gnone htp
    have l1 := Y.add_le (o := .tup [.str r, .int i]) hp
    have l2 : Le Y ((Y.add p (.tup [.str r, .int i]) hp).put tp (.tup [.ref CO, .ref CF]) tpY) := Wd.put_le l1 (l1.some htp)
    have rt : Rp K (Y.add p (.tup [.str r, .int i]) hp).G (.ref p) (.tuple [.str r, .int i]) := add_t hp rfl (.cons (.str r) (.cons (.int i) .nil))
    refine ⟨_, (Y.add p (.tup [.str r, .int i]) hp).put tp (.tup [.ref CO, .ref CF]) tpY, rfl, SRep.skip (i := 4) (SRep.set (s := .d (.tuple [.str r, .int i])) (SRep.skip (i := 4) (r1.up (ly.g.tr l1.g)) rfl) rt 2) rfl, ?_⟩
    exact last (.tuple [.str r, .int i]) .none _ ((LZ.tr ly).tr l2) (by rw [hb] <;> rfl) fun z => by rw [hb] at z; cases z
end
end Pk
set_option Elab.async false
set_option linter.all false
set_option maxRecDepth 100000
set_option maxHeartbeats 4000000
/-! the draws: a dict that changes -/
namespace Pk
open PySem PySem.Spec L2
open PyProof.Rows hiding St
abbrev kL : Key := .inr ("left" : Str)
abbrev kS : Key := .inr ("seed" : Str)
abbrev kC : Key := .inr ("cells" : Str)
abbrev kP : Key := .inr ("spot" : Str)
/-- at m: the state of the draws; N: how far it may be -/
structure Md (U : Wd) (m : Addr) (N : Nat) : Prop where
  g : U.G m = none
  ex : ∃ (left seed spot : Int) (c : Addr) (cs : List Int), U.H m = some (.dK [(kL, .int left), (kS, .int seed), (kC, .ref c), (kP, .int spot)]) ∧ U.G c = some (.lst (cs.map V.int)) ∧ cs ≠ [] ∧ cs.length ≤ 200000 ∧ 0 ≤ spot ∧ spot ≤ (N : Int)
theorem Md.up {U Z : Wd} {m : Addr} {N : Nat} (h : Md U m N) (l : Le U Z) : Md Z m N := by
  obtain ⟨left, seed, spot, c, cs, e1, e2, e3⟩ := h.ex
  exact ⟨l.fr _ (by rw [e1]; simp) h.g, left, seed, spot, c, cs, l.h _ _ e1, l.g _ _ e2, e3⟩
theorem Md.more {U : Wd} {m : Addr} {N M : Nat} (h : Md U m N) (k : N ≤ M) : Md U m M := by
  obtain ⟨left, seed, spot, c, cs, e1, e2, e3, e4, e5, e6⟩ := h.ex
  exact ⟨h.g, left, seed, spot, c, cs, e1, e2, e3, e4, e5, by omega⟩
theorem Dr.refl {m : Addr} (W : Wd) : Dr m W W := (Le.refl W).dr m
theorem Dr.put {m : Addr} {W U : Wd} {o : HO} {hg : U.G m = none} (h : Dr m W U) : Dr m W (U.put m o hg) := ⟨h.g, fun a o' n e => by
  show upd U.H m o a = Option.some o'
  rw [upd_ne n]
  exact h.h a o' n e, h.fr, fun _ => by
  show upd U.H m o m ≠ none
  rw [upd_same]; simp⟩
theorem Dr.le {m : Addr} {A B C : Wd} (h : Dr m A B) (k : Le B C) : Dr m A C := h.tr (k.dr m)
/-- slots of a def whose first parameter is m -/
def startM (N : List Str) (m : Addr) (ds : List PyData) : Sd := some (.v (.ref m)) :: (ds.map (fun d => some (.d d)) ++ List.replicate (N.length - (ds.length + 1)) none)
theorem srep_startM {K : PySem.W.Frag} {G : Hp} {N : List Str} {m : Addr} {vs : List V} {ds : List PyData} (r : RpL K G vs ds) : SRep K G (L2.start N (.ref m :: vs)) (startM N m ds) := by
  have hl := r.len
  refine ⟨by unfold L2.start startM; simp [hl], fun i s h => ?_⟩
  cases i with
  | zero =>
    have e : Sl.v (.ref m) = s := Option.some.inj (Option.some.inj (show some (some (Sl.v (.ref m))) = some (some s) from h))
    subst e
    exact ⟨.ref m, rfl, rfl⟩
  | succ i =>
    have h' : (ds.map (fun d => some (Sl.d d)) ++ List.replicate (N.length - (ds.length + 1)) none)[i]? = some (some s) := h
    have e : (L2.start N (.ref m :: vs))[i + 1]? = (vs.map some ++ List.replicate (N.length - (vs.length + 1)) none)[i]? := rfl
    rw [e]
    by_cases hi : i < ds.length
    · rw [List.getElem?_append_left (by simpa using hi), List.getElem?_map, List.getElem?_eq_getElem hi] at h'
      have e2 : Sl.d ds[i] = s := Option.some.inj (Option.some.inj h')
      subst e2
      obtain ⟨v, hv, rv⟩ := r.at (List.getElem?_eq_getElem hi)
      exact ⟨v, by rw [List.getElem?_append_left (by rw [List.length_map, hl]; exact hi), List.getElem?_map, hv] <;> rfl, rv⟩
    · rw [List.getElem?_append_right (by simpa using hi), List.getElem?_replicate] at h'
      split at h' <;> cases h'
/-- a def that draws: at most c times -/
def SpM (K : PySem.W.Frag) (pre : List PyData → Prop) (post : List PyData → PyData → Prop) (c : Nat) : Sp := fun vs H Q _ => ∃ (W : Wd) (m : Addr) (N : Nat) (us : List V) (ds : List PyData), W.H = H ∧ vs = .ref m :: us ∧ RpL K W.G us ds ∧ pre ds ∧ Md W m N ∧ N + c ≤ 100000 ∧
  ∀ v d U, Dr m W U → Md U m (N + c) → post ds d → Rp K U.G v d → Q v U.H
section
variable {P : Program} {w : World} {K : PySem.W.Frag} {mg : Str → Option Value} {base : Heap} {N ps : List Str} {x : Str} {st : Stmt} {k : Nat}
theorem cal_m {pre : List PyData → Prop} {post : List PyData → PyData → Prop} {c : Nat} (T : At K mg x st) (hb : ∀ {f : Addr} {fd : FuncData}, Fun K x x st f fd → Binds K fd ps []) (S : FnScope N ps (defScope st)) (B : Bn mg) (hl : ∀ ds, pre ds → ds.length + 1 = ps.length)
    (body : ∀ f cdv A outer s H E, let X := FX P w K mg base N x st f cdv A outer s H E; Good K X → Room k X.A → ∀ (W : Wd) m M ds, pre ds → Md W m M → M + c ≤ 100000 →
      WB K X (startM N m ds) (defBody st) W { nx := fun _ _ => False, rt := fun d U => Dr m W U ∧ Md U m (M + c) ∧ post ds d }) : Cal P w K mg base CX0 (k + 1) x ps (SpM K pre post c) := by
  obtain ⟨f, fd, h1, F⟩ := T
  refine ⟨f, fd, h1, F.kp, hb F, F.ok S (fun vs H Q E h => ?_) fun cdv A outer s H vs Q E hr h => ?_⟩
  · obtain ⟨W, m, M, us, ds, _, rfl, rs, hp, _⟩ := h
    rw [List.length_cons, rs.len, hl ds hp]
  · obtain ⟨W, m, M, us, ds, rfl, rfl, rs, hp, hm, hc, q⟩ := h
    refine ⟨_, pb_w _ _, ?_⟩
    refine wB_imp (body f cdv A outer s W.H E ⟨rfl, rfl, S.nd, hr.mono (Nat.zero_le _), B.bn⟩ hr W m M ds hp hm hc _ (srep_startM rs)) (fun σ H' ⟨_, _, _, _, z⟩ => z.elim) (fun v H' ⟨d', U, e, rv, a, b, c⟩ => ?_) (fun _ _ ⟨_, _, _, _, z⟩ => z) fun _ _ ⟨_, _, _, _, z⟩ => z
    rw [e]
    exact q v d' U a b c rv
end
section
variable {K : PySem.W.Frag} {X : Cx} [g : Good K X] {δ : Sd} {W U : Wd} {a b c e : Expr} {es : List Expr} {pos : Pos} {d d1 d2 : PyData} {rest : List Stmt} {P : Po} {x : Str} {ps : List Str} {j : Nat}
/-! ### runs of parts -/
theorem wa_nil {Post : List PyData → Wd → Prop} (h : Post [] W) : WA K X δ [] W Post := fun σ r Q q => (pa_nil (X := X)).w (q [] [] W Sub.rfl' .nil h)
theorem wa_cons {Post : List PyData → Wd → Prop} (h : WE K X δ e W fun d U => WA K X δ es U fun ds Z => Post (d :: ds) Z) (he : starEach (e :: es) X.env = (false, eval e X.env) :: starEach es X.env := by rfl) : WA K X δ (e :: es) W Post := fun σ r Q q =>
  (pa_cons (pe_w X e) (pa_w X es) he).w (h σ r _ fun v d U gu rv k => k σ (r.up gu) _ fun vs ds Z gz rs p => q _ _ Z (gu.tr gz) (.cons (rv.up gz) rs) p)
theorem WA.imp {P Q : List PyData → Wd → Prop} (h : WA K X δ es W P) (k : ∀ d U, Sub W.G U.G → P d U → Q d U) : WA K X δ es W Q := fun σ r R q => h σ r R fun v d Z g rp p => q v d Z g rp (k d Z g p)
/-- a call that draws -/
theorem we_callM (i : Nat) {m : Addr} {y : Str} {py p : Pos} {pre : List PyData → Prop} {post : List PyData → PyData → Prop} {n : Nat} {Post : PyData → Wd → Prop} (C : Cal X.prog X.w X.K X.mg X.base CX0 j x ps (SpM K pre post n)) (hr : Room j X.A)
    (ha : WA K X δ es W fun ds U => ∃ M, Md U m M ∧ M + n ≤ 100000 ∧ pre ds ∧ ∀ Z d, Dr m U Z → Md Z m (M + n) → post ds d → Post d Z) (hi : δ[i]? = some (some (.v (.ref m))) := by rfl) (hN : X.N[i]? = some y := by rfl) (hv : Vis X.env.scope y := by first | exact Or.inl rfl | exact Or.inr (Or.inl rfl) | exact Or.inr (Or.inr rfl))
    (hd : (y == ("__debug__" : Str)) = false := by decide) (hcd : (y == ("__classdict__" : Str)) = false := by decide) (hg : Gl X x := by rfl) (hdb : (x == ("__debug__" : Str)) = false := by decide)
    (he : starEach (.Name y py :: es) X.env = (false, eval (.Name y py) X.env) :: starEach es X.env := by rfl) (hpl : (backTo pos (starEach es X.env)).any (·.1) = false := by rfl) :
    WE K X δ (.Call (.Name x p) (.Name y py :: es) [] pos) W Post := fun σ r Q q => by
  obtain ⟨f, fd, h1, h2, h3, h4⟩ := C
  obtain ⟨v, e1, e2⟩ := r.at_ i _ hi
  obtain rfl : v = .ref m := e2
  refine (pe_call h4 hr hg h1 h2 h3 .nil pass0 (pa_cons (pe_var hN hv hd hcd) (pa_w X es) he) hdb he hpl).w ⟨.ref m, e1, ?_⟩
  refine ha σ r _ fun vs ds U gu rs ⟨M, hm, hn, hp, k⟩ => ?_
  show SpM K pre post n ((V.ref m :: vs) ++ []) U.H Q _
  rw [List.append_nil]
  exact ⟨U, m, M, vs, ds, rfl, rfl, rs, hp, hm, hn, fun v d Z dz mz pz rz => q v d Z (gu.tr dz.g) rz (k Z d dz mz pz)⟩
/-- m['k'] -/
theorem ev_mget (i : Nat) {m : Addr} {y k : Str} {py kp : Pos} {jj : Nat} {kvs : List (Key × V)} {v0 : V} (hm : W.H m = some (.dK kvs)) (hk : valV kvs (.inr k) = some v0) (hv0 : Rp K W.G v0 d) (hi : δ[i]? = some (some (.v (.ref m))) := by rfl) (hN : X.N[i]? = some y := by rfl)
    (hv : Vis X.env.scope y := by first | exact Or.inl rfl | exact Or.inr (Or.inl rfl) | exact Or.inr (Or.inr rfl)) (hd : (y == ("__debug__" : Str)) = false := by decide) (hcd : (y == ("__classdict__" : Str)) = false := by decide) (hns : NoSl (.Constant (.str k) jj kp) := by exact fun _ _ => rfl) :
    EvE K X δ (.Subscript (.Name y py) (.Constant (.str k) jj kp) pos) W d := fun U l σ r Q q => by
  obtain ⟨v, e1, e2⟩ := r.at_ i _ hi
  obtain rfl : v = .ref m := e2
  refine (pe_dget (by have := g.room.un; omega) (pe_var hN hv hd hcd) pe_str hns).w ⟨.ref m, e1, m, v0, rfl, ?_, q v0 U (Le.refl U) (hv0.up l.g)⟩
  rw [← hk]
  exact DGet.k (k := .inr k) (l.h _ _ hm)
/-- m['k'] = e -/
theorem wb_mput (i : Nat) {m : Addr} {y k : Str} {py kp sp : Pos} {jj : Nat} {kvs : List (Key × V)} (hm : W.H m = some (.dK kvs)) (hg : W.G m = none) (hl : kvs.length < 1000) (he : EvE K X δ e W d)
    (h : ∀ U v, Le W U → (hg' : U.G m = none) → Rp K U.G v d → WB K X δ rest (U.put m (.dK (putK kvs (.inr k) v)) hg') P) (hi : δ[i]? = some (some (.v (.ref m))) := by rfl) (hN : X.N[i]? = some y := by rfl)
    (hv : Vis X.env.scope y := by first | exact Or.inl rfl | exact Or.inr (Or.inl rfl) | exact Or.inr (Or.inr rfl)) (hd : (y == ("__debug__" : Str)) = false := by decide) (hcd : (y == ("__classdict__" : Str)) = false := by decide)
    (hs : swapsWith e (some (.Subscript (.Name y py) (.Constant (.str k) jj kp) sp)) pos.line X.env = pure false := by rfl) :
    WB K X δ (.Assign [.Subscript (.Name y py) (.Constant (.str k) jj kp) sp] e pos :: rest) W P :=
  wb_cons fun σ r => by
    obtain ⟨v, e1, e2⟩ := r.at_ i _ hi
    obtain rfl : v = .ref m := e2
    refine (ps_dput (by have := g.room.un; omega) (pe_var hN hv hd hcd) pe_str (pe_w X e) hs).w ?_
    refine he W (Le.refl W) σ r _ fun v U l rv => ⟨.ref m, e1, ?_⟩
    have hg' : U.G m = none := l.fr m (by rw [hm]; simp) hg
    exact ⟨m, _, rfl, DPut.k (k := .inr k) (l.h _ _ hm) (szl (by omega)), δ, U.put m (.dK (putK kvs (.inr k) v)) hg', rfl, r.up l.g, h U v l hg' rv⟩
/-! ### effects within expressions -/
theorem we_op {op : Operator} {r : R2} {Post : PyData → Wd → Prop} (ho : OpR X (binaryOp op) r) (ha : WE K X δ a W fun d1 U => WE K X δ b U fun d2 Z => ∀ x y, Rp K Z.G x d1 → Rp K Z.G y d2 → ∀ Q : VK, (∀ v d T, Sub Z.G T.G → Rp K T.G v d → Post d T → Q v T.H) → r x y Z.H Q) :
    WE K X δ (.BinOp a op b pos) W Post := fun σ s Q q =>
  (pe_op ho (pe_w X a) (pe_w X b)).w (ha σ s _ fun x d1 U gu rx k => k σ (s.up gu) _ fun y d2 Z gz ry p => p x y (rx.up gz) ry Q fun v d T gt rv pt => q v d T ((gu.tr gz).tr gt) rv pt)
theorem we_add {i : Int} {Post : PyData → Wd → Prop} (ha : EvE K X δ a W (.int i)) (hb : ∀ U, Le W U → WE K X δ b U fun d2 Z => ∃ j, d2 = .int j ∧ Post (.int (i + j)) Z) : WE K X δ (.BinOp a .Add b pos) W Post :=
  we_op op_add (we_ev ha fun U l => (hb U l).imp fun d2 Z gz ⟨j, e, p⟩ x y rx ry Q q => by
    subst e
    exact ⟨i, j, rx.int_inv, ry.int_inv, q _ _ Z Sub.rfl' (.int _) p⟩)
theorem we_ix {Post : PyData → Wd → Prop} {ds : List PyData} (q : SeqD d1 ds) (ha : EvE K X δ a W d1) (hb : ∀ U, Le W U → WE K X δ b U fun d2 Z => ∃ (i : Nat) (x : PyData), d2 = .int (i : Int) ∧ ds[i]? = some x ∧ Post x Z) (hs : PlainIx b := by exact fun _ _ => rfl) : WE K X δ (.Subscript a b pos) W Post := fun σ s Q k =>
  (pe_ix ix_seq (pe_w X a) (pe_w X b) hs).w (ha W (Le.refl W) σ s _ fun x U l rx => hb U l σ (s.up l.g) _ fun y d2 Z gz ry ⟨i, z, e, hz, p⟩ => by
    subst e
    obtain ⟨p0, vs, e1, e2, e3⟩ := q.sq (rx.up gz)
    obtain ⟨v, hv, rv⟩ := e3.at hz
    have hat : atI vs (i : Int) = some v := atI_nat hv
    show rIx X.K x y Z.H Q
    rw [g.hK]
    have r0 := k v z Z (l.g.tr gz) rv p
    rcases e2 with e2 | e2
    · exact .inl ⟨p0, vs, i, v, e1, ry.int_inv, Z.ex.l e2, hat, r0⟩
    · exact .inr (.inl ⟨p0, vs, i, v, e1, ry.int_inv, Z.ex.t e2, hat, r0⟩))
theorem wt_cmp {op : CmpOp} {r : R2} {Post : Bool → Wd → Prop} (ho : OpR X (compareOp op) r) (ha : WE K X δ a W fun d1 U => WE K X δ b U fun d2 Z => ∀ x y, Rp K Z.G x d1 → Rp K Z.G y d2 → ∀ Q : VK, (∀ t : Bool, Post t Z → Q (.bl t) Z.H) → r x y Z.H Q) (hm : behindInMarks op b = false) :
    WT K X δ (.Compare a [op] [b] pos) W Post := fun σ s Q q =>
  (pt_cmpR ho (pe_w X a) (pe_w X b) hm).w (ha σ s _ fun x d1 U gu rx k => k σ (s.up gu) _ fun y d2 Z gz ry p => p x y (rx.up gz) ry _ fun t pt => ⟨t, rfl, q t Z (gu.tr gz) pt⟩)
/-- e == i, where e draws -/
theorem wt_eqI {i : Int} {Post : Bool → Wd → Prop} (ha : WE K X δ a W fun d U => ∃ j, d = .int j ∧ ∀ Z, Le U Z → Post (decide (j = i)) Z) (hb : ∀ U, EvE K X δ b U (.int i)) : WT K X δ (.Compare a [.Eq] [b] pos) W Post :=
  wt_cmp op_eq (ha.imp fun d U gu ⟨j, e, p⟩ => by
    subst e
    exact we_ev (hb U) fun Z l x y rx ry Q q => by
      obtain rfl := rx.int_inv
      obtain rfl := ry.int_inv
      exact ⟨rfl, by rw [dec_int]; exact q _ (p Z l)⟩) (nomark _)
theorem wt_gtI {i : Int} {Post : Bool → Wd → Prop} (ha : WE K X δ a W fun d U => ∃ j, d = .int j ∧ ∀ Z, Le U Z → Post (decide (i < j)) Z) (hb : ∀ U, EvE K X δ b U (.int i)) : WT K X δ (.Compare a [.Gt] [b] pos) W Post :=
  wt_cmp op_gt (ha.imp fun d U gu ⟨j, e, p⟩ => by
    subst e
    exact we_ev (hb U) fun Z l x y rx ry Q q => ⟨_, _, rx.int_inv, ry.int_inv, q _ (p Z l)⟩) (nomark _)
/-- chains of and, or, run -/
def WW (K : PySem.W.Frag) (X : Cx) (δ : Sd) (e : Expr) (W : Wd) (Post : Bool → Wd → Prop) : Prop := ∀ σ, SRep K W.G σ δ → ∀ Q : Bool → Hp → Prop, (∀ b Z, Sub W.G Z.G → Post b Z → Q b Z.H) → wW X e σ W.H Q
theorem wt_w {Post : Bool → Wd → Prop} (h : WW K X δ a W Post) : WT K X δ a W Post := fun σ s Q q => (PW.pt (pw_w X a)).w (h σ s Q q)
theorem ww_or1 {Post : Bool → Wd → Prop} (h : WT K X δ a W Post) : WW K X δ (.BoolOp .Or [a] pos) W Post := fun σ s Q q => PW.w (pw_or1 (pt_w X a)) (h σ s Q q)
theorem ww_and1 {Post : Bool → Wd → Prop} (h : WT K X δ a W Post) : WW K X δ (.BoolOp .And [a] pos) W Post := fun σ s Q q => PW.w (pw_and1 (pt_w X a)) (h σ s Q q)
theorem ww_or {t : Bool} {Post : Bool → Wd → Prop} (ha : EvT K X δ a W t) (h1 : t = true → ∀ U, Le W U → Post true U) (hb : t = false → ∀ U, Le W U → WW K X δ (.BoolOp .Or (b :: es) pos) U Post) : WW K X δ (.BoolOp .Or (a :: b :: es) pos) W Post := fun σ s Q q =>
  PW.w (pw_or (pt_w X a) (pw_w X _)) (ha W (Le.refl W) σ s _ fun Z l2 => by
    cases t with
    | false =>
      rw [if_neg (by decide)]
      exact hb rfl Z l2 σ (s.up l2.g) Q fun b Y gy p => q b Y (l2.g.tr gy) p
    | true =>
      rw [if_pos rfl]
      exact q true Z l2.g (h1 rfl Z l2))
theorem ww_and {t : Bool} {Post : Bool → Wd → Prop} (ha : EvT K X δ a W t) (h1 : t = false → ∀ U, Le W U → Post false U) (hb : t = true → ∀ U, Le W U → WW K X δ (.BoolOp .And (b :: es) pos) U Post) : WW K X δ (.BoolOp .And (a :: b :: es) pos) W Post := fun σ s Q q =>
  PW.w (pw_and (pt_w X a) (pw_w X _)) (ha W (Le.refl W) σ s _ fun Z l2 => by
    cases t with
    | true =>
      rw [if_pos rfl]
      exact hb rfl Z l2 σ (s.up l2.g) Q fun b Y gy p => q b Y (l2.g.tr gy) p
    | false =>
      rw [if_neg (by decide)]
      exact q false Z l2.g (h1 rfl Z l2))
theorem we_if {t : Bool} {Post : PyData → Wd → Prop} (hc : EvT K X δ c W t) (ha : t = true → ∀ U, Le W U → WE K X δ a U Post) (hb : t = false → ∀ U, Le W U → WE K X δ b U Post) : WE K X δ (.IfExp c a b pos) W Post := fun σ s Q q =>
  (pe_ifExp (pt_w X c) (pe_w X a) (pe_w X b)).w (hc W (Le.refl W) σ s _ fun Z l2 => by
    cases t with
    | true =>
      rw [if_pos rfl]
      exact ha rfl Z l2 σ (s.up l2.g) Q fun v d Y gy rv p => q v d Y (l2.g.tr gy) rv p
    | false =>
      rw [if_neg (by decide)]
      exact hb rfl Z l2 σ (s.up l2.g) Q fun v d Y gy rv p => q v d Y (l2.g.tr gy) rv p)
/-- a pure def, its arguments run -/
theorem we_callP {R : List PyData → PyData → Prop} {p : Pos} {Post : PyData → Wd → Prop} (C : Cal X.prog X.w X.K X.mg X.base CX0 j x ps (SpP K R)) (hr : Room j X.A) (ha : WA K X δ (e :: es) W fun ds U => ∃ d, R ds d ∧ ∀ Z, Le U Z → Post d Z) (hg : Gl X x := by rfl)
    (hdb : (x == ("__debug__" : Str)) = false := by decide) (he : starEach (e :: es) X.env = (false, eval e X.env) :: starEach es X.env := by rfl) (hpl : (backTo pos (starEach es X.env)).any (·.1) = false := by rfl) :
    WE K X δ (.Call (.Name x p) (e :: es) [] pos) W Post := fun σ r Q q => by
  obtain ⟨f, fd, h1, h2, h3, h4⟩ := C
  exact (pe_call h4 hr hg h1 h2 h3 .nil pass0 (pa_w X _) hdb he hpl).w (ha σ r _ fun vs ds U gu rs ⟨d, hR, p⟩ => ⟨U, ds, d, rfl, by rw [List.append_nil]; exact rs, hR, fun v Y l rv => q v d Y (gu.tr l.g) rv (p Y l)⟩)
/-- e % n, e with effects -/
theorem we_mod {n : Int} {Post : PyData → Wd → Prop} (ha : WE K X δ a W fun d U => ∃ i, d = .int i ∧ ∀ Z, Le U Z → Post (.int (i % n)) Z) (hb : ∀ U, Sub W.G U.G → EvE K X δ b U (.int n)) (hn : 0 < n) : WE K X δ (.BinOp a .Mod b pos) W Post :=
  we_op op_mod (ha.imp fun d U gu ⟨i, e, p⟩ => by
    subst e
    exact we_ev (hb U gu) fun Z l x y rx ry Q q => ⟨i, n, rx.int_inv, ry.int_inv, hn, q _ _ Z Sub.rfl' (.int _) (p Z l)⟩)
theorem we_toInt {Post : PyData → Wd → Prop} {p : Pos} (ha : WE K X δ e W fun d U => ∃ i, d = .int i ∧ ∀ Z, Le U Z → Post (.int i) Z) (hg : Gl X "int" := by rfl) (he : starEach [e] X.env = (false, eval e X.env) :: starEach [] X.env := by rfl) : WE K X δ (.Call (.Name "int" p) [e] [] pos) W Post := fun σ r Q q =>
  (pe_callTy call_int1 hg (g.bn "int" (by simp)) (by decide +kernel) (pa_cons (pe_w X e) pa_nil he) (by decide) (by decide) he rfl).w (ha σ r _ fun v d U gu rv ⟨i, e1, p1⟩ => by
    subst e1
    exact .inl ⟨i, by rw [rv.int_inv], q _ _ U gu (.int i) (p1 U (Le.refl U))⟩)
end
end Pk
set_option Elab.async false
set_option linter.all false
set_option maxRecDepth 100000
set_option maxHeartbeats 4000000
namespace Pk
open PySem PySem.Spec L2
open PyProof.Rows hiding St
def preDraw (ds : List PyData) : Prop := ∃ b : Int, ds = [.int b] ∧ 0 < b ∧ b < 1000000
def postDraw (ds : List PyData) (d : PyData) : Prop := ∃ b i : Int, ds = [.int b] ∧ d = .int i ∧ 0 ≤ i ∧ i < b
abbrev SpDraw (K : PySem.W.Frag) : Sp := SpM K preDraw postDraw 1
def preOf (ds : List PyData) : Prop := ∃ x xs, ds = [x] ∧ SeqD x xs ∧ xs ≠ [] ∧ xs.length < 1000000
def postOf (ds : List PyData) (d : PyData) : Prop := ∃ x xs, ds = [x] ∧ SeqD x xs ∧ d ∈ xs
abbrev SpOf (K : PySem.W.Frag) : Sp := SpM K preOf postOf 1
section
variable {P : Program} {w : World} {K : PySem.W.Frag} {mg : Str → Option Value} {base : Heap}
theorem nLS : kL ≠ kS := by decide
theorem nLC : kL ≠ kC := by decide
theorem nLP : kL ≠ kP := by decide
theorem nSC : kS ≠ kC := by decide
theorem nSP : kS ≠ kP := by decide
theorem nCP : kC ≠ kP := by decide
theorem put_left (left seed spot v : V) (c : V) : putK [(kL, left), (kS, seed), (kC, c), (kP, spot)] kL v = [(kL, v), (kS, seed), (kC, c), (kP, spot)] := by
  unfold putK
  rw [if_pos (by rw [List.any_cons, decide_eq_true rfl] <;> rfl), List.map_cons, List.map_cons, List.map_cons, List.map_cons, List.map_nil, if_pos rfl, if_neg (fun e : kS = kL => nLS e.symm), if_neg (fun e : kC = kL => nLC e.symm), if_neg (fun e : kP = kL => nLP e.symm)]
theorem put_spot (left seed spot v : V) (c : V) : putK [(kL, left), (kS, seed), (kC, c), (kP, spot)] kP v = [(kL, left), (kS, seed), (kC, c), (kP, v)] := by
  unfold putK
  rw [if_pos (by rw [List.any_cons, List.any_cons, List.any_cons, List.any_cons, decide_eq_true (rfl : kP = kP)]; simp), List.map_cons, List.map_cons, List.map_cons, List.map_cons, List.map_nil, if_neg nLP, if_neg nSP, if_neg nCP, if_pos rfl]
theorem val_left (left seed spot c : V) : valV [(kL, left), (kS, seed), (kC, c), (kP, spot)] kL = some left := valV_pos rfl
theorem val_seed (left seed spot c : V) : valV [(kL, left), (kS, seed), (kC, c), (kP, spot)] kS = some seed := (valV_neg nLS).trans (valV_pos rfl)
theorem val_cells (left seed spot c : V) : valV [(kL, left), (kS, seed), (kC, c), (kP, spot)] kC = some c := (valV_neg nLC).trans ((valV_neg nSC).trans (valV_pos rfl))
theorem val_spot (left seed spot c : V) : valV [(kL, left), (kS, seed), (kC, c), (kP, spot)] kP = some spot := (valV_neg nLP).trans ((valV_neg nSP).trans ((valV_neg nCP).trans (valV_pos rfl)))
theorem c_draw (T : At K mg "_law_draw" s_L_draw) (B : Bn mg) : Cal P w K mg base CX0 1 "_law_draw" p_L_draw (SpDraw K) := by
  refine cal_m T b_L_draw sc_L_draw B (fun ds h => ?_) fun f cdv A outer s H E => ?_
  · obtain ⟨b, rfl, _⟩ := h
    rfl
  intro X gX hr W m M ds h hm hc
  obtain ⟨b, rfl, hb, hb2⟩ := h
  obtain ⟨left, seed, spot, c, cs, e1, e2, e3, e4, e5, e6⟩ := hm.ex
  have gm := hm.g
  have vL := fun (U : Wd) (l : Le W U) => l.h _ _ e1
  refine wb_when (t := decide (0 < left)) (et_gt (ev_mget 0 e1 (val_left _ _ _ _) (.int _)) ev_int) (fun h1 U l => ?_) fun h1 U l => ?_
  · refine wb_asg 2 (ev_mod (ev_toInt (ev_mget 0 (l.h _ _ e1) (val_left _ _ _ _) (.int _))) (ev_v 1) hb) fun U2 l2 => ?_
    have l12 := l.tr l2
    refine wb_mput 0 (l12.h _ _ e1) (l12.fr _ (by rw [e1]; simp) gm) (by simp) (ev_div (ev_mget 0 (l12.h _ _ e1) (val_left _ _ _ _) (.int _)) (ev_v 1) ⟨hb, by omega⟩) fun U3 v l3 hg' rv => ?_
    obtain rfl := rv.int_inv
    have hN : (U3.put m (.dK (putK [(kL, .int left), (kS, .int seed), (kC, .ref c), (kP, .int spot)] kL (.int (left / b)))) hg').H m = some (.dK [(kL, .int (left / b)), (kS, .int seed), (kC, .ref c), (kP, .int spot)]) := by
      show upd U3.H m _ m = _
      rw [upd_same, put_left]
    have gN : (U3.put m (.dK (putK [(kL, .int left), (kS, .int seed), (kC, .ref c), (kP, .int spot)] kL (.int (left / b)))) hg').G m = none := hg'
    have dW : Dr m W (U3.put m (.dK (putK [(kL, .int left), (kS, .int seed), (kC, .ref c), (kP, .int spot)] kL (.int (left / b)))) hg') := ((Dr.refl W).le (l12.tr l3)).put
    generalize (U3.put m (.dK (putK [(kL, .int left), (kS, .int seed), (kC, .ref c), (kP, .int spot)] kL (.int (left / b)))) hg') = V3 at hN dW gN ⊢
    exact wb_ret (ev_v 2) fun Z l4 => ⟨dW.le l4, Md.up ⟨gN, left / b, seed, spot, c, cs, hN, dW.g _ _ e2, e3, e4, e5, by omega⟩ l4, b, left % b, rfl, rfl, Int.emod_nonneg _ (by omega), Int.emod_lt_of_pos _ hb⟩
  · have hcells : Rp K W.G (.ref c) (iL cs) := .lst e2 (RpL.of_ints cs)
    refine wb_asg 3 (ev_mget 0 (l.h _ _ e1) (val_spot _ _ _ _) (.int _)) fun U2 l2 => ?_
    have l12 := l.tr l2
    refine wb_mput 0 (l12.h _ _ e1) (l12.fr _ (by rw [e1]; simp) gm) (by simp) (ev_add (ev_v 3) ev_int) fun U3 v l3 hg' rv => ?_
    obtain rfl := rv.int_inv
    have hN : (U3.put m (.dK (putK [(kL, .int left), (kS, .int seed), (kC, .ref c), (kP, .int spot)] kP (.int (spot + 1)))) hg').H m = some (.dK [(kL, .int left), (kS, .int seed), (kC, .ref c), (kP, .int (spot + 1))]) := by
      show upd U3.H m _ m = _
      rw [upd_same, put_spot]
    have l13 := l12.tr l3
    have dW : Dr m W (U3.put m (.dK (putK [(kL, .int left), (kS, .int seed), (kC, .ref c), (kP, .int spot)] kP (.int (spot + 1)))) hg') := ((Dr.refl W).le l13).put
    generalize (U3.put m (.dK (putK [(kL, .int left), (kS, .int seed), (kC, .ref c), (kP, .int spot)] kP (.int (spot + 1)))) hg') = V3 at hN dW ⊢
    have hs : spot ≤ 100000 := by omega
    refine wb_par 4 5 (wa_ev (ea_cons (ev_mget 0 hN (val_cells _ _ _ _) (hcells.up dW.g)) (ea_cons (ev_add (ev_mget 0 hN (val_seed _ _ _ _) (.int _)) (ev_mul (ev_mul ev_int (ev_v 3) (.inl (by omega))) (ev_v 3) (.inr (by omega)))) ea_nil)) fun U4 l4 => ⟨_, _, rfl, ?_⟩)
    have hl : 0 < cs.length := List.length_pos_iff.mpr e3
    have hi : (spot % (cs.length : Int)).toNat < cs.length := by
      have := Int.emod_lt_of_pos spot (show (0 : Int) < cs.length by omega)
      have := Int.emod_nonneg spot (show (cs.length : Int) ≠ 0 by omega)
      omega
    refine wb_asg 6 (ev_ix (i := (spot % (cs.length : Int)).toNat) (.l _) (ev_v 4) (EvE.cast (ev_mod (ev_toInt (ev_v 3)) (EvE.cast (ev_len (.l _) (ev_v 4)) (by rw [List.length_map])) (by omega)) ?_) (ints_at hi)) fun U5 l5 => ?_
    · rw [← toNat_int (Int.emod_nonneg spot (by omega))]
    refine wb_asg 7 (ev_mod (ev_toInt (ev_add (ev_mul (ev_v 6) (ev_add (ev_mul ev_int (ev_v 3) (.inl (by omega))) ev_int) (.inr (by omega))) (ev_v 5))) ev_int (by decide)) fun U6 l6 => ?_
    generalize (cs.getD (spot % (cs.length : Int)).toNat 0 * (2 * spot + 3) + (seed + 40503 * spot * spot)) = b0
    have b1 := Int.emod_nonneg b0 (show (2147483647 : Int) ≠ 0 by decide)
    have b2 := Int.emod_lt_of_pos b0 (show (0 : Int) < 2147483647 by decide)
    refine wb_asg 7 (ev_mod (ev_toInt (ev_add (ev_add (ev_mul (ev_v 7) (ev_v 7) (.inl (by omega))) (ev_mul ev_int (ev_v 3) (.inl (by omega)))) (ev_mget 0 (((l4.tr l5).tr l6).h _ _ hN) (val_seed _ _ _ _) (.int _)))) ev_int (by decide)) fun U7 l7 => ?_
    generalize (b0 % 2147483647 * (b0 % 2147483647) + 69621 * spot + seed) = c0
    have c1 := Int.emod_nonneg c0 (show (2147483629 : Int) ≠ 0 by decide)
    have c2 := Int.emod_lt_of_pos c0 (show (0 : Int) < 2147483629 by decide)
    refine wb_ret (ev_mod (ev_div (ev_mod (ev_toInt (ev_add (ev_mul (ev_v 7) ev_int (.inl (by omega))) (ev_v 3))) ev_int (by decide)) ev_int (by decide)) (ev_v 1) hb) fun Z l8 => ?_
    have lz := ((l4.tr l5).tr l6).tr (l7.tr l8)
    refine ⟨dW.le lz, Md.up ⟨?_, left, seed, spot + 1, c, cs, hN, dW.g _ _ e2, e3, e4, by omega, by omega⟩ lz, b, _, rfl, rfl, Int.emod_nonneg _ (by omega), Int.emod_lt_of_pos _ hb⟩
    exact dW.fr _ (by rw [e1]; simp) gm
theorem c_of (T : At K mg "_law_of" s_L_of) (B : Bn mg) (C1 : Cal P w K mg base CX0 1 "_law_draw" p_L_draw (SpDraw K)) : Cal P w K mg base CX0 2 "_law_of" p_L_of (SpOf K) := by
  refine cal_m T b_L_of sc_L_of B (fun ds h => ?_) fun f cdv A outer s H E => ?_
  · obtain ⟨x, xs, rfl, _⟩ := h
    rfl
  intro X gX hr W m M ds h hm hc
  obtain ⟨x, xs, rfl, hx, hne, hl⟩ := h
  refine wb_retW (we_ix hx (ev_v 1) fun U l => we_callM 0 C1 hr (wa_ev (ea_cons (ev_len hx (ev_v 1)) ea_nil) fun Z lz => ⟨M, hm.up (l.tr lz), hc, ⟨xs.length, rfl, by have := List.length_pos_iff.mpr hne; omega, by omega⟩, fun Y d dz mz ⟨b, i, e1, e2, i0, i1⟩ => ?_⟩))
  obtain rfl : (xs.length : Int) = b := by
    have z := (List.cons.inj e1).1
    injection z
  have hi : i.toNat < xs.length := by omega
  refine ⟨i.toNat, xs[i.toNat], by rw [e2]; exact toNat_int i0, List.getElem?_eq_getElem hi, (((Dr.refl W).le l).le lz).tr dz, mz, x, xs, rfl, hx, List.getElem_mem hi⟩
theorem c_prime (T : At K mg "_law_prime" s_L_prime) (B : Bn mg) (C2 : Cal P w K mg base CX0 2 "_law_of" p_L_of (SpOf K)) : Cal P w K mg base CX0 3 "_law_prime" p_L_prime (SpM K (fun ds => ds = []) (fun _ d => ∃ p, d = .int p ∧ p ∈ primes) 1) := by
  refine cal_m T b_L_prime sc_L_prime B (fun ds h => by rw [h] <;> rfl) fun f cdv A outer s H E => ?_
  intro X gX hr W m M ds h hm hc
  subst h
  refine wb_retW (we_callM 0 C2 hr (wa_ev (ea_cons (ev_lst (ea_cons ev_int (ea_cons ev_int (ea_cons ev_int (ea_cons ev_int (ea_cons ev_int (ea_cons ev_int (ea_cons ev_int (ea_cons ev_int ea_nil))))))))) ea_nil) fun Z lz => ⟨M, hm.up lz, hc, ⟨_, _, rfl, .l _, by simp, by simp⟩, fun Y d dz mz ⟨x, xs, e1, e2, e3⟩ => ?_⟩))
  obtain rfl := (List.cons.inj e1).1
  cases e2
  refine ⟨((Dr.refl W).le lz).tr dz, mz, ?_⟩
  simp only [List.mem_cons, List.not_mem_nil, or_false] at e3
  rcases e3 with rfl | rfl | rfl | rfl | rfl | rfl | rfl | rfl <;> exact ⟨_, rfl, by decide⟩
end
end Pk
set_option Elab.async false
set_option linter.all false
set_option maxRecDepth 100000
set_option maxHeartbeats 4000000
namespace Pk
open PySem PySem.Spec L2
open PyProof.Rows hiding St
/-! ### rows of a field -/
def off (p : Int) (rs fs : List Int) (s : Nat) : List Int := (List.range rs.length).map fun j => (rs.getD j 0 - rs.getD s 0 * fs.getD j 0) % p
/-- a row of n entries from 0 to p - 1 -/
structure Rw (p : Int) (n : Nat) (r : List Int) : Prop where
  l : r.length = n
  e : ∀ x ∈ r, 0 ≤ x ∧ x < p
theorem Rw.at {p : Int} {n : Nat} {r : List Int} (h : Rw p n r) (hp : 0 < p) (i : Nat) : 0 ≤ r.getD i 0 ∧ r.getD i 0 < p := by
  rw [List.getD_eq_getElem?_getD]
  cases q : r[i]? with
  | none => exact ⟨by simp, by simpa using hp⟩
  | some x => exact h.e x (List.mem_of_getElem? q)
theorem off_len (p : Int) (rs fs : List Int) (s : Nat) : (off p rs fs s).length = rs.length := by unfold off; rw [List.length_map, List.length_range]
theorem off_rw {p : Int} {n : Nat} {rs fs : List Int} {s : Nat} (hp : 0 < p) (h : rs.length = n) : Rw p n (off p rs fs s) := ⟨(off_len _ _ _ _).trans h, fun x hx => by
  unfold off at hx
  obtain ⟨j, _, rfl⟩ := List.mem_map.mp hx
  exact ⟨Int.emod_nonneg _ (by omega), Int.emod_lt_of_pos _ hp⟩⟩
theorem off_at {p : Int} {rs fs : List Int} {s j : Nat} (h : j < rs.length) : (off p rs fs s).getD j 0 = (rs.getD j 0 - rs.getD s 0 * fs.getD j 0) % p := by
  unfold off
  rw [List.getD_eq_getElem?_getD, List.getElem?_map, List.getElem?_range h] <;> rfl
def R_off : List PyData → PyData → Prop := fun ds d => ∃ (p : Int) (rs fs : List Int) (s : Nat), ds = [iI p, iT rs, iT fs, iI s] ∧ 0 < p ∧ s < rs.length ∧ rs.length ≤ fs.length ∧ rs.length ≤ 1000 ∧ (0 ≤ rs.getD s 0 ∧ rs.getD s 0 < 100) ∧ d = iT (off p rs fs s)
/-! the inverse -/
def backL (p : Int) (x : Int) : List Nat := (List.range (p - 1).toNat).filter fun i => decide (((1 + (i : Int)) * x) % p = 1)
def backI (p x : Int) : Int := 1 + (((backL p x).getD 0 0 : Nat) : Int)
theorem back_tab : ∀ p ∈ ([2, 3, 5, 7, 11, 13] : List Int), ∀ x ∈ List.range 13, (decide (0 < x) && decide ((x : Int) < p)) = true → ((!(backL p (x : Int)).isEmpty) && (decide (backI p (x : Int) * (x : Int) % p = 1) && decide (backI p (x : Int) ≤ 13))) = true := by decide +kernel
theorem back_ok {p x : Int} (hp : p ∈ ([2, 3, 5, 7, 11, 13] : List Int)) (h0 : 0 < x) (h1 : x < p) : backL p x ≠ [] ∧ backI p x * x % p = 1 ∧ backI p x ≤ 13 := by
  have h13 : p ≤ 13 := by simp at hp; omega
  have z := back_tab p hp x.toNat (List.mem_range.mpr (by omega)) (by rw [show ((x.toNat : Nat) : Int) = x by omega]; simp; omega)
  rw [show ((x.toNat : Nat) : Int) = x by omega, Bool.and_eq_true, Bool.and_eq_true] at z
  refine ⟨fun e => ?_, of_decide_eq_true z.2.1, of_decide_eq_true z.2.2⟩
  rw [e] at z
  cases z.1
def R_back : List PyData → PyData → Prop := fun ds d => ∃ p x : Int, ds = [iI p, iI x] ∧ p ∈ ([2, 3, 5, 7, 11, 13] : List Int) ∧ 0 < x ∧ x < p ∧ d = .int (backI p x)
theorem pick_at {n : Nat} {q : Nat → Bool} {f : Nat → PyData} (h : (List.range n).filter q ≠ []) : (((List.range n).filter q).map f)[0]? = some (f (((List.range n).filter q).getD 0 0)) := by
  cases e : (List.range n).filter q with
  | nil => exact absurd e h
  | cons a l => rfl
/-! leads -/
def leadL (r : List Int) : List Nat := (List.range r.length).filter fun k => !decide (r.getD k 0 = 0)
def leadI (r : List Int) : Nat := (leadL r).getD 0 0
def Nz (r : List Int) : Prop := ∃ k, r.getD k 0 ≠ 0
theorem nz_lt {r : List Int} {k : Nat} (h : r.getD k 0 ≠ 0) : k < r.length := by
  apply Classical.byContradiction
  intro hk
  rw [List.getD_eq_getElem?_getD, List.getElem?_eq_none (by omega)] at h
  exact h rfl
theorem lead_ok {r : List Int} (h : Nz r) : leadL r ≠ [] ∧ leadI r < r.length := by
  obtain ⟨k, hk⟩ := h
  have hm : k ∈ leadL r := List.mem_filter.mpr ⟨List.mem_range.mpr (nz_lt hk), by simpa using hk⟩
  have hne : leadL r ≠ [] := fun e => by rw [e] at hm; simp at hm
  refine ⟨hne, ?_⟩
  unfold leadI
  cases e : leadL r with
  | nil => exact absurd e hne
  | cons a l =>
    have ha : a ∈ leadL r := by rw [e]; exact List.mem_cons_self
    exact List.mem_range.mp (List.mem_filter.mp ha).1
def R_leads : List PyData → PyData → Prop := fun ds d => ∃ bs : Tb, ds = [tabD bs] ∧ bs.length ≤ 1000 ∧ (∀ r ∈ bs, Nz r ∧ r.length ≤ 1000) ∧ d = .list (bs.map fun r => .int (leadI r : Nat))
/-! rest -/
def colF (p : Int) (bs : Tb) (col : List Int) (i : Nat) : List Int := (List.range i).foldl (fun c k => off p c (bs.getD k []) (leadI (bs.getD k []))) col
def isLead (bs : Tb) (k : Nat) : Bool := bs.any fun r => decide (leadI r = k)
def freeL (bs : Tb) (n : Nat) : List Nat := (List.range n).filter fun k => !isLead bs k
def restF (p : Int) (bs : Tb) (col : List Int) (n : Nat) : List Int := (freeL bs n).map fun k => (colF p bs col bs.length).getD k 0
/-- a basis: rows of n entries, none of them null -/
structure Bs (p : Int) (n : Nat) (bs : Tb) : Prop where
  len : bs.length ≤ 1000
  rw_ : ∀ r ∈ bs, Rw p n r
  nz : ∀ r ∈ bs, Nz r
def R_rest : List PyData → PyData → Prop := fun ds d => ∃ (p : Int) (bs : Tb) (col : List Int) (n : Nat), ds = [iI p, tabD bs, iT col, iI n] ∧ 0 < p ∧ p ≤ 13 ∧ n ≤ 1000 ∧ Bs p n bs ∧ Rw p n col ∧ d = iT (restF p bs col n)
theorem col_rw {p : Int} {n : Nat} {bs : Tb} {col : List Int} (hp : 0 < p) (hc : Rw p n col) : ∀ i, Rw p n (colF p bs col i)
  | 0 => hc
  | i + 1 => by
    unfold colF
    rw [List.range_succ, List.foldl_append]
    exact off_rw hp (col_rw hp hc i).l
theorem rest_rw {p : Int} {n : Nat} {bs : Tb} {col : List Int} (hp : 0 < p) (hc : Rw p n col) : Rw p (freeL bs n).length (restF p bs col n) := ⟨by unfold restF; rw [List.length_map], fun x hx => by
  unfold restF at hx
  obtain ⟨k, _, rfl⟩ := List.mem_map.mp hx
  exact (col_rw hp hc bs.length).at hp k⟩
def R_turned : List PyData → PyData → Prop := fun ds d => ∃ (cs : Tb) (m n : Nat), ds = [.list (cs.map iT), iI m, iI n] ∧ m ≤ cs.length ∧ m ≤ 1000 ∧ n ≤ 1000 ∧ (∀ r ∈ cs, n ≤ r.length) ∧ d = tabD ((List.range n).map fun j => (List.range m).map fun i => (cs.getD i []).getD j 0)
section
variable {P : Program} {w : World} {K : PySem.W.Frag} {mg : Str → Option Value} {base : Heap}
theorem c_off (T : At K mg "_law_off" s_L_off) (B : Bn mg) : Cal P w K mg base CX0 1 "_law_off" p_L_off (SpP K R_off) := by
  refine cal_pure T b_L_off sc_L_off B (fun ds d h => ?_) fun f cdv A outer s H E => ?_
  · obtain ⟨p, rs, fs, s, rfl, _⟩ := h
    rfl
  intro X gX hr W ds d h
  obtain ⟨p, rs, fs, s, rfl, hp, hs, hf, hz, hb, rfl⟩ := h
  refine wb_asg 4 (ev_ix (.t _) (ev_v 1) (ev_v 3) (ints_at hs)) fun U l => ?_
  refine wb_ret (EvE.cast (ev_toTup (.l _) (ev_lcN [("_law_j", 5)] 5 (fun j => .int ((rs.getD j 0 - rs.getD s 0 * fs.getD j 0) % p)) (ei_r1 (ev_len (.t _) (ev_v 1)) (by rw [List.length_map]; omega)) ?_ ?_)) ?_) fun Z l2 => ⟨rfl, l.tr l2⟩
  · rw [rngN_len, List.length_map]; omega
  · intro i d U hd l s H0 C cl fp gb
    obtain ⟨hi, rfl⟩ := rngN_at hd
    rw [List.length_map] at hi
    have hi : i < rs.length := by omega
    exact ev_mod (ev_toInt (ev_sub (ev_ix (.t _) (ev_v 1) (ev_v 5) (ints_at hi)) (ev_mul (ev_v 4) (ev_ix (.t _) (ev_v 2) (ev_v 5) (ints_at (by omega))) (.inl (by omega))))) (ev_v 0) hp
  · rw [rngN_len, List.length_map]
    show PyData.tuple _ = PyData.tuple _
    unfold off
    rw [List.map_map]
    rfl
theorem c_back (T : At K mg "_law_back" s_L_back) (B : Bn mg) : Cal P w K mg base CX0 1 "_law_back" p_L_back (SpP K R_back) := by
  refine cal_pure T b_L_back sc_L_back B (fun ds d h => ?_) fun f cdv A outer s H E => ?_
  · obtain ⟨p, x, rfl, _⟩ := h
    rfl
  intro X gX hr W ds d h
  obtain ⟨p, x, rfl, hp, h0, h1, rfl⟩ := h
  have h13 : p ≤ 13 := by simp at hp; omega
  obtain ⟨b1, _, _⟩ := back_ok hp h0 h1
  refine wb_ret (ev_ix (i := 0) (.l _) (ev_lcNF [("_law_k", 2)] 2 (fun i => decide (((1 + (i : Int)) * x) % p = 1)) (fun i => .int (1 + (i : Int))) (ei_r2 ev_int (ev_v 0) (by omega) (by omega)) (by rw [rngD_len]; omega) ?_ ?_) ev_int ?_) fun U l => ⟨rfl, l⟩
  · intro i d U hd l s H0 C cl fp gb
    obtain ⟨hi, rfl⟩ := rngD_at hd
    exact et_eqI (ev_mod (ev_toInt (ev_mul (ev_v 2) (ev_v 1) (.inr (by omega)))) (ev_v 0) (by omega)) ev_int
  · intro i d U hd l s H0 C cl fp gb hp
    obtain ⟨hi, rfl⟩ := rngD_at hd
    exact ev_v 2
  · rw [rngD_len]
    exact pick_at b1
theorem c_leads (T : At K mg "_law_leads" s_L_leads) (B : Bn mg) : Cal P w K mg base CX0 1 "_law_leads" p_L_leads (SpP K R_leads) := by
  refine cal_pure T b_L_leads sc_L_leads B (fun ds d h => ?_) fun f cdv A outer s H E => ?_
  · obtain ⟨bs, rfl, _⟩ := h
    rfl
  intro X gX hr W ds d h
  obtain ⟨bs, rfl, hl, hb, rfl⟩ := h
  refine wb_ret (EvE.cast (ev_lcN [("_law_row", 1)] 1 (fun i => .int ((leadI (bs.getD i []) : Nat) : Int)) (ei_t (ev_v 0)) (by rw [List.length_map]; omega) ?_) ?_) fun U l => ⟨rfl, l⟩
  · intro i d U hd l s H0 C cl fp gb
    have hi : i < bs.length := by simpa using (List.getElem?_eq_some_iff.mp hd).1
    rw [tab_at hi] at hd
    obtain rfl := Option.some.inj hd
    obtain ⟨hn, hr1⟩ := hb _ (getD_in hi)
    generalize bs.getD i [] = r at hn hr1 ⊢
    refine ev_ix (i := 0) (.l _) (ev_lcNF [("_law_k", 2)] 2 (fun k => !decide (r.getD k 0 = 0)) (fun k => .int (k : Int)) (ei_r1 (ev_len (.t _) (ev_v 1)) (by rw [List.length_map]; omega)) (by rw [rngN_len, List.length_map]; omega) ?_ ?_) ev_int ?_
    · intro k d U hd l s H0 C cl fp gb
      obtain ⟨hk, rfl⟩ := rngN_at hd
      exact et_neI (ev_ix (i := k) (.t _) (ev_v 1) (ev_v 2) (ints_at (by simpa using hk))) ev_int
    · intro k d U hd l s H0 C cl fp gb hp
      obtain ⟨hk, rfl⟩ := rngN_at hd
      exact ev_v 2
    · rw [rngN_len, List.length_map]
      exact pick_at (lead_ok hn).1
  · rw [List.length_map]
    congr 1
    apply List.ext_getElem?
    intro i
    rw [List.getElem?_map, List.getElem?_map]
    by_cases hi : i < bs.length
    · rw [List.getElem?_range hi, List.getElem?_eq_getElem hi, Option.map_some, Option.map_some, List.getD_eq_getElem?_getD, List.getElem?_eq_getElem hi] <;> rfl
    · rw [List.getElem?_eq_none (by rw [List.length_range]; omega), List.getElem?_eq_none (by omega)] <;> rfl
theorem lead_at {bs : Tb} {i : Nat} (h : i < bs.length) : (bs.map fun r => PyData.int ((leadI r : Nat) : Int))[i]? = some (.int ((leadI (bs.getD i []) : Nat) : Int)) := by
  rw [List.getElem?_map, List.getElem?_eq_getElem h, List.getD_eq_getElem?_getD, List.getElem?_eq_getElem h] <;> rfl
theorem lead_any (bs : Tb) (k : Nat) : ((bs.map fun r => PyData.int ((leadI r : Nat) : Int)).any fun z => PyData.eqv z (.int (k : Int))) = isLead bs k := by
  unfold isLead
  rw [List.any_map]
  congr 1
  funext r
  show PyData.eqv (.int ((leadI r : Nat) : Int)) (.int (k : Int)) = _
  rw [eqv_int]
  by_cases h : leadI r = k
  · rw [h, decide_eq_true rfl, decide_eq_true rfl]
  · rw [decide_eq_false h, decide_eq_false (by omega)]
theorem pl_leads (bs : Tb) : Plain (.list (bs.map fun r => PyData.int ((leadI r : Nat) : Int))) := pl_list_of (n := 0) fun d hd => by
  obtain ⟨r, _, rfl⟩ := List.mem_map.mp hd
  exact pl_int _ 0
theorem c_rest (T : At K mg "_law_rest" s_L_rest) (B : Bn mg) (C1 : Cal P w K mg base CX0 1 "_law_off" p_L_off (SpP K R_off)) (C2 : Cal P w K mg base CX0 1 "_law_leads" p_L_leads (SpP K R_leads)) : Cal P w K mg base CX0 2 "_law_rest" p_L_rest (SpP K R_rest) := by
  refine cal_pure T b_L_rest sc_L_rest B (fun ds d h => ?_) fun f cdv A outer s H E => ?_
  · obtain ⟨p, bs, col, n, rfl, _⟩ := h
    rfl
  intro X gX hr W ds d h
  obtain ⟨p, bs, col, n, rfl, hp, hp13, hn, hB, hc, rfl⟩ := h
  refine wb_asg 4 (ev_call C2 hr (ea_cons (ev_v 1) ea_nil) ⟨bs, rfl, hB.len, fun r hr => ⟨hB.nz r hr, by rw [(hB.rw_ r hr).l]; exact hn⟩, rfl⟩) fun U l => ?_
  refine wb_for (ei_r1 (ev_len (.l _) (ev_v 4)) (by rw [List.length_map]; have := hB.len; omega)) (fun i δ1 Z => (∃ a : Option Sl, δ1 = [some (.d (.int p)), some (.d (tabD bs)), some (.d (iT (colF p bs col i))), some (.d (.int (n : Int))), some (.d (.list (bs.map fun r => .int ((leadI r : Nat) : Int)))), a]) ∧ Le U Z) (fun Z lz => ⟨⟨none, rfl⟩, lz⟩) ?_ ?_
  · rintro i d δ1 V0 hd ⟨⟨a, rfl⟩, lw⟩ Z lz
    obtain ⟨hi0, rfl⟩ := rngN_at hd
    have hi : i < bs.length := by simpa using hi0
    have hm := getD_in hi
    have hrw := hB.rw_ _ hm
    have hnz := hB.nz _ hm
    have hcr := col_rw (bs := bs) hp hc i
    have hll := (lead_ok hnz).2
    have hat := hcr.at hp (leadI (bs.getD i []))
    refine ⟨_, _, tg_name 5, ?_⟩
    refine wb_asg 2 (ev_call C1 hr (ea_cons (ev_v 0) (ea_cons (ev_v 2) (ea_cons (ev_ix (i := i) (.t _) (ev_v 1) (ev_v 5) (tab_at hi)) (ea_cons (ev_ix (i := i) (.l _) (ev_v 4) (ev_v 5) (lead_at hi)) ea_nil)))) ⟨p, _, _, _, rfl, hp, by rw [hcr.l, ← hrw.l]; exact hll, by rw [hcr.l, hrw.l]; exact Nat.le_refl _, by rw [hcr.l]; exact hn, ⟨hat.1, by omega⟩, rfl⟩) fun Y ly => wb_nil ?_
    refine ⟨ly.g, ⟨some (.d (.int (i : Int))), ?_⟩, (lw.tr lz).tr ly⟩
    unfold colF
    rw [List.range_succ, List.foldl_append] <;> rfl
  · rintro δ1 V0 ⟨⟨a, rfl⟩, lw⟩
    rw [rngN_len, List.length_map, Int.toNat_natCast]
    have hcr := col_rw (bs := bs) hp hc bs.length
    refine wb_ret (EvE.cast (ev_toTup (.l _) (ev_lcNF [("_law_k", 5)] 5 (fun k => !isLead bs k) (fun k => .int ((colF p bs col bs.length).getD k 0)) (ei_r1 (ev_v 3) (by omega)) (by rw [rngN_len]; omega) ?_ ?_)) ?_) fun Z lz => ⟨rfl, (l.tr lw).tr lz⟩
    · intro k d U hd l s H0 C cl fp gb
      obtain ⟨hk, rfl⟩ := rngN_at hd
      exact EvT.cast (et_notIn (.l _) (ev_v 5) (ev_v 4) (pl_plain (n := 1) (pl_int _ 1)) (pl_leads bs)) (by rw [lead_any])
    · intro k d U hd l s H0 C cl fp gb hq
      obtain ⟨hk, rfl⟩ := rngN_at hd
      exact ev_ix (i := k) (.t _) (ev_v 2) (ev_v 5) (ints_at (by rw [hcr.l]; omega))
    · rw [rngN_len, Int.toNat_natCast]
      show PyData.tuple _ = PyData.tuple ((restF p bs col n).map PyData.int)
      unfold restF freeL
      rw [List.map_map] <;> rfl
theorem c_turned (T : At K mg "_law_turned" s_L_turned) (B : Bn mg) : Cal P w K mg base CX0 1 "_law_turned" p_L_turned (SpP K R_turned) := by
  refine cal_pure T b_L_turned sc_L_turned B (fun ds d h => ?_) fun f cdv A outer s H E => ?_
  · obtain ⟨cs, m, n, rfl, _⟩ := h
    rfl
  intro X gX hr W ds d h
  obtain ⟨cs, m, n, rfl, hm, hm2, hn, hr0, rfl⟩ := h
  refine wb_ret (EvE.cast (ev_toTup (.l _) (ev_lcN [("_law_j", 3)] 3 (fun j => iT ((List.range m).map fun i => (cs.getD i []).getD j 0)) (ei_r1 (ev_v 2) (by omega)) (by rw [rngN_len]; omega) ?_)) ?_) fun U l => ⟨rfl, l⟩
  · intro j d U hd l s H0 C cl fp gb
    obtain ⟨hj, rfl⟩ := rngN_at hd
    refine EvE.cast (ev_toTup (.l _) (ev_lcN [("_law_i", 4)] 4 (fun i => .int ((cs.getD i []).getD j 0)) (ei_r1 (ev_v 1) (by omega)) (by rw [rngN_len]; omega) ?_)) ?_
    · intro i d U hd l s H0 C cl fp gb
      obtain ⟨hi, rfl⟩ := rngN_at hd
      have hic : i < cs.length := by omega
      exact ev_ix (i := j) (.t _) (ev_ix (i := i) (.l _) (ev_v 0) (ev_v 4) (tab_at hic)) (ev_v 3) (ints_at (Nat.lt_of_lt_of_le (by omega) (hr0 _ (getD_in hic))))
    · rw [rngN_len, Int.toNat_natCast]
      show PyData.tuple _ = PyData.tuple _
      rw [List.map_map] <;> rfl
  · rw [rngN_len, Int.toNat_natCast]
    show PyData.tuple _ = PyData.tuple _
    rw [List.map_map] <;> rfl
end
end Pk
set_option Elab.async false
set_option linter.all false
set_option maxRecDepth 100000
set_option maxHeartbeats 4000000
namespace Pk
open PySem PySem.Spec L2
open PyProof.Rows hiding St
/-! ### the reduced rows -/
def pivL (left : Tb) (s : Nat) : List Nat := (List.range left.length).filter fun k => !decide ((left.getD k []).getD s 0 = 0)
def pivK (left : Tb) (s : Nat) : Nat := (pivL left s).getD 0 0
def pivF (left : Tb) (s : Nat) : List Int := left.getD (pivK left s) []
def pivR (p : Int) (left : Tb) (s : Nat) : List Int := (pivF left s).map fun x => (backI p ((pivF left s).getD s 0) * x) % p
def outK (left : Tb) (s : Nat) : List Nat := (List.range left.length).filter fun k => !decide (k = pivK left s)
def outL (p : Int) (left : Tb) (s : Nat) : Tb := (outK left s).map fun k => off p (left.getD k []) (pivR p left s) s
def stepR (p : Int) (a : Tb × Tb) (s : Nat) : Tb × Tb := if pivL a.1 s = [] then a else (outL p a.1 s, a.2.map (fun r => off p r (pivR p a.1 s) s) ++ [pivR p a.1 s])
def redA (p : Int) (rows : Tb) (i : Nat) : Tb × Tb := (List.range i).foldl (stepR p) (rows, [])
theorem redA_succ (p : Int) (rows : Tb) (i : Nat) : redA p rows (i + 1) = stepR p (redA p rows i) i := by unfold redA; rw [List.range_succ, List.foldl_append] <;> rfl
structure IR (p : Int) (n L : Nat) (a : Tb × Tb) : Prop where
  lw : ∀ r ∈ a.1, Rw p n r
  fw : ∀ r ∈ a.2, Rw p n r
  nz : ∀ r ∈ a.2, ∃ t, r.getD t 0 ≠ 0 ∧ ∀ l ∈ a.1, l.getD t 0 = 0
  len : a.1.length + a.2.length ≤ L
structure PvOk (p : Int) (n : Nat) (left : Tb) (s : Nat) : Prop where
  k : pivK left s < left.length
  m : pivF left s ∈ left
  fw : Rw p n (pivF left s)
  p0 : 0 < (pivF left s).getD s 0
  p1 : (pivF left s).getD s 0 < p
  rw_ : Rw p n (pivR p left s)
  one : (pivR p left s).getD s 0 = 1
  zero : ∀ t, (pivF left s).getD t 0 = 0 → (pivR p left s).getD t 0 = 0
theorem primes13 {p : Int} (hp : p ∈ ([2, 3, 5, 7, 11, 13] : List Int)) : 1 < p ∧ p ≤ 13 := by simp at hp; omega
theorem pivR_at {p : Int} {left : Tb} {s t : Nat} (h : t < (pivF left s).length) : (pivR p left s).getD t 0 = (backI p ((pivF left s).getD s 0) * (pivF left s).getD t 0) % p := by
  unfold pivR
  rw [List.getD_eq_getElem?_getD, List.getElem?_map, List.getElem?_eq_getElem h, List.getD_eq_getElem?_getD (l := pivF left s) (i := t), List.getElem?_eq_getElem h] <;> rfl
theorem piv_ok {p : Int} {n : Nat} {left : Tb} {s : Nat} (hp : p ∈ ([2, 3, 5, 7, 11, 13] : List Int)) (hs : s < n) (hw : ∀ r ∈ left, Rw p n r) (h : pivL left s ≠ []) : PvOk p n left s := by
  obtain ⟨h1, h13⟩ := primes13 hp
  have hm : pivK left s ∈ pivL left s := by
    unfold pivK
    cases e : pivL left s with
    | nil => exact absurd e h
    | cons a l => exact List.mem_cons_self
  obtain ⟨m1, m2⟩ := List.mem_filter.mp hm
  have hk : pivK left s < left.length := List.mem_range.mp m1
  have mem : pivF left s ∈ left := getD_in hk
  have hf := hw _ mem
  have hne : (pivF left s).getD s 0 ≠ 0 := by
    intro e
    have e' : (left.getD (pivK left s) []).getD s 0 = 0 := e
    simp only [e', decide_true] at m2
    exact absurd m2 (by decide)
  have ha := hf.at (by omega : 0 < p) s
  obtain ⟨_, b2, _⟩ := back_ok hp (by omega : 0 < (pivF left s).getD s 0) ha.2
  refine ⟨hk, mem, hf, by omega, ha.2, ⟨by unfold pivR; rw [List.length_map]; exact hf.l, fun x hx => ?_⟩, ?_, fun t ht => ?_⟩
  · unfold pivR at hx
    obtain ⟨y, _, rfl⟩ := List.mem_map.mp hx
    exact ⟨Int.emod_nonneg _ (by omega), Int.emod_lt_of_pos _ (by omega)⟩
  · rw [pivR_at (by rw [hf.l]; exact hs)]
    exact b2
  · by_cases hl : t < (pivF left s).length
    · rw [pivR_at hl, ht, Int.mul_zero, Int.zero_emod]
    · rw [List.getD_eq_getElem?_getD, List.getElem?_eq_none (by unfold pivR; rw [List.length_map]; omega)] <;> rfl
theorem outK_len {left : Tb} {s : Nat} (h : pivK left s < left.length) : (outK left s).length + 1 ≤ left.length := by
  have z := (List.length_filter_lt_length_iff_exists (p := fun k => !decide (k = pivK left s))).mpr ⟨pivK left s, List.mem_range.mpr h, (by rw [decide_eq_true rfl]; decide : ¬ (!decide (pivK left s = pivK left s)) = true)⟩
  unfold outK
  rw [List.length_range] at z
  omega
theorem outK_lt {left : Tb} {s k : Nat} (h : k ∈ outK left s) : k < left.length := List.mem_range.mp (List.mem_filter.mp h).1
theorem small_mod {x p : Int} (h : 0 ≤ x ∧ x < p) : x % p = x := Int.emod_eq_of_lt h.1 h.2
theorem off_get {p : Int} {n : Nat} {rs fs : List Int} {s t : Nat} (hp : 0 < p) (hr : Rw p n rs) : (off p rs fs s).getD t 0 = if t < n then (rs.getD t 0 - rs.getD s 0 * fs.getD t 0) % p else 0 := by
  by_cases h : t < n
  · rw [if_pos h, off_at (by rw [hr.l]; exact h)]
  · rw [if_neg h, List.getD_eq_getElem?_getD, List.getElem?_eq_none (by rw [off_len, hr.l]; omega)] <;> rfl
theorem step_ok {p : Int} {n L s : Nat} {a : Tb × Tb} (hp : p ∈ ([2, 3, 5, 7, 11, 13] : List Int)) (hs : s < n) (h : IR p n L a) : IR p n L (stepR p a s) := by
  unfold stepR
  by_cases e : pivL a.1 s = []
  · rw [if_pos e]; exact h
  rw [if_neg e]
  obtain ⟨h1, h13⟩ := primes13 hp
  have hp0 : 0 < p := by omega
  have v := piv_ok hp hs h.lw e
  have sub : ∀ k ∈ outK a.1 s, Rw p n (a.1.getD k []) := fun k hk => h.lw _ (getD_in (outK_lt hk))
  have zout : ∀ t, (∀ l ∈ a.1, l.getD t 0 = 0) → ∀ l ∈ outL p a.1 s, l.getD t 0 = 0 := fun t ht l hl => by
    obtain ⟨k, hk, rfl⟩ := List.mem_map.mp hl
    rw [off_get hp0 (sub k hk), ht _ (getD_in (outK_lt hk)), v.zero t (ht _ v.m)]
    split <;> simp
  refine ⟨fun r hr => ?_, fun r hr => ?_, fun r hr => ?_, ?_⟩
  · obtain ⟨k, hk, rfl⟩ := List.mem_map.mp hr
    exact off_rw hp0 (sub k hk).l
  · rcases List.mem_append.mp hr with hr | hr
    · obtain ⟨k, hk, rfl⟩ := List.mem_map.mp hr
      exact off_rw hp0 (h.fw _ hk).l
    · rw [List.mem_singleton.mp hr]; exact v.rw_
  · rcases List.mem_append.mp hr with hr | hr
    · obtain ⟨k, hk, rfl⟩ := List.mem_map.mp hr
      obtain ⟨t, t1, t2⟩ := h.nz k hk
      refine ⟨t, ?_, zout t t2⟩
      have tl : t < n := by have := nz_lt t1; rw [(h.fw k hk).l] at this; exact this
      rw [off_get hp0 (h.fw k hk), if_pos tl, v.zero t (t2 _ v.m), Int.mul_zero, Int.sub_zero, small_mod ((h.fw k hk).at hp0 t)]
      exact t1
    · rw [List.mem_singleton.mp hr]
      refine ⟨s, by rw [v.one]; decide, fun l hl => ?_⟩
      obtain ⟨k, hk, rfl⟩ := List.mem_map.mp hl
      rw [off_get hp0 (sub k hk), if_pos hs, v.one, Int.mul_one, Int.sub_self, Int.zero_emod]
  · have := outK_len v.k
    have := h.len
    show (outL p a.1 s).length + (a.2.map _ ++ [pivR p a.1 s]).length ≤ L
    unfold outL
    rw [List.length_map, List.length_append, List.length_map, List.length_singleton]
    omega
theorem red_ok {p : Int} {n : Nat} {rows : Tb} (hp : p ∈ ([2, 3, 5, 7, 11, 13] : List Int)) (h : ∀ r ∈ rows, Rw p n r) : ∀ i, i ≤ n → IR p n rows.length (redA p rows i)
  | 0, _ => ⟨h, fun _ hr => absurd hr List.not_mem_nil, fun _ hr => absurd hr List.not_mem_nil, by show rows.length + 0 ≤ _; omega⟩
  | i + 1, hi => by rw [redA_succ]; exact step_ok hp (by omega) (red_ok hp h i (by omega))
def R_reduced : List PyData → PyData → Prop := fun ds d => ∃ (p : Int) (rows : Tb) (n : Nat), ds = [iI p, .list (rows.map iT), iI n] ∧ p ∈ ([2, 3, 5, 7, 11, 13] : List Int) ∧ n ≤ 1000 ∧ rows.length ≤ 1000 ∧ (∀ r ∈ rows, Rw p n r) ∧ d = tabD (redA p rows n).2
theorem red_bs {p : Int} {n : Nat} {rows : Tb} (hp : p ∈ ([2, 3, 5, 7, 11, 13] : List Int)) (hl : rows.length ≤ 1000) (h : ∀ r ∈ rows, Rw p n r) : Bs p n (redA p rows n).2 := by
  have z := red_ok hp h n (Nat.le_refl n)
  exact ⟨by have := z.len; omega, z.fw, fun r hr => by obtain ⟨t, t1, _⟩ := z.nz r hr; exact ⟨t, t1⟩⟩
theorem map_range_getD {α : Type} (bs : Tb) (f : List Int → α) : (List.range bs.length).map (fun i => f (bs.getD i [])) = bs.map f := by
  apply List.ext_getElem?
  intro i
  rw [List.getElem?_map, List.getElem?_map]
  by_cases hi : i < bs.length
  · rw [List.getElem?_range hi, List.getElem?_eq_getElem hi, Option.map_some, Option.map_some, List.getD_eq_getElem?_getD, List.getElem?_eq_getElem hi] <;> rfl
  · rw [List.getElem?_eq_none (by rw [List.length_range]; omega), List.getElem?_eq_none (by omega)] <;> rfl
section
variable {P : Program} {w : World} {K : PySem.W.Frag} {mg : Str → Option Value} {base : Heap}
theorem c_reduced (T : At K mg "_law_reduced" s_L_reduced) (B : Bn mg) (C1 : Cal P w K mg base CX0 1 "_law_off" p_L_off (SpP K R_off)) (C2 : Cal P w K mg base CX0 1 "_law_back" p_L_back (SpP K R_back)) : Cal P w K mg base CX0 2 "_law_reduced" p_L_reduced (SpP K R_reduced) := by
  refine cal_pure T b_L_reduced sc_L_reduced B (fun ds d h => ?_) fun f cdv A outer s H E => ?_
  · obtain ⟨p, rows, n, rfl, _⟩ := h
    rfl
  intro X gX hr W ds d h
  obtain ⟨p, rows, n, rfl, hp, hn, hlr, hw, rfl⟩ := h
  obtain ⟨h1, h13⟩ := primes13 hp
  have hp0 : 0 < p := by omega
  refine wb_asgT (ev_tup (ea_cons (ev_lcN [("_law_row", 9)] 9 (fun i => iT (rows.getD i [])) (ei_l (ev_v 1)) (by rw [List.length_map]; omega) ?_) (ea_cons (ev_lst ea_nil) ea_nil))) (tg_tup (tgs_cons (tg_name 3) (tgs_cons (tg_name 4) tgs_nil)) rfl) fun U l => ?_
  · intro i d U hd l s H0 C cl fp gb
    have hi : i < rows.length := by simpa using (List.getElem?_eq_some_iff.mp hd).1
    rw [tab_at hi] at hd
    obtain rfl := Option.some.inj hd
    exact ev_toTup (.t _) (ev_v 9)
  rw [List.length_map, map_range_getD rows iT]
  refine wb_for (ei_r1 (ev_v 2) (by omega)) (fun i δ1 Z => (∃ o5 o6 o7 o8 : Option Sl, δ1 = [some (.d (.int p)), some (.d (.list (rows.map iT))), some (.d (.int (n : Int))), some (.d (.list ((redA p rows i).1.map iT))), some (.d (.list ((redA p rows i).2.map iT))), o5, o6, o7, o8, none, none, none]) ∧ Le W Z) (fun Z lz => ⟨⟨none, none, none, none, rfl⟩, l.tr lz⟩) ?_ ?_
  · rintro i d δ1 V0 hd ⟨⟨o5, o6, o7, o8, rfl⟩, lw⟩ Z lz
    obtain ⟨hi, rfl⟩ := rngN_at hd
    rw [Int.toNat_natCast] at hi
    have ih := red_ok hp hw i (by omega)
    generalize hA : redA p rows i = a at ih
    have hlen := ih.len
    refine ⟨_, _, tg_name 5, ?_⟩
    refine wb_asg 6 (ev_lcNF [("_law_k", 10)] 10 (fun k => !decide ((a.1.getD k []).getD i 0 = 0)) (fun k => .int (k : Int)) (ei_r1 (ev_len (.l _) (ev_v 3)) (by rw [List.length_map]; omega)) (by rw [rngN_len, List.length_map]; omega) ?_ ?_) fun Y ly => ?_
    · intro k d U hd l s H0 C cl fp gb
      obtain ⟨hk, rfl⟩ := rngN_at hd
      have hk : k < a.1.length := by simpa using hk
      exact et_neI (ev_ix (i := i) (.t _) (ev_ix (i := k) (.l _) (ev_v 3) (ev_v 10) (tab_at hk)) (ev_v 5) (ints_at (by rw [(ih.lw _ (getD_in hk)).l]; exact hi))) ev_int
    · intro k d U hd l s H0 C cl fp gb hq
      obtain ⟨hk, rfl⟩ := rngN_at hd
      exact ev_v 10
    rw [rngN_len, List.length_map, Int.toNat_natCast]
    change WB K X [some (.d (.int p)), some (.d (.list (rows.map iT))), some (.d (.int (n : Int))), some (.d (.list (a.1.map iT))), some (.d (.list (a.2.map iT))), some (.d (.int (i : Int))), some (.d (.list ((pivL a.1 i).map fun k : Nat => .int (k : Int)))), o7, o8, none, none, none] _ _ _
    refine wb_when (et_some (ev_v 6) (pl_list_of (n := 0) fun d hd => by obtain ⟨k, _, rfl⟩ := List.mem_map.mp hd; exact pl_int _ 0)) (fun hq Y2 ly2 => ?_) fun hq Y2 ly2 => ?_
    · have hne : pivL a.1 i ≠ [] := by
        intro e
        rw [e] at hq
        exact absurd hq (by decide)
      have v := piv_ok hp hi ih.lw hne
      have hpk : ((pivL a.1 i).map fun k => PyData.int ((k : Nat) : Int))[0]? = some (.int ((pivK a.1 i : Nat) : Int)) := pick_at hne
      refine wb_asg 7 (ev_ix (i := pivK a.1 i) (d := iT (pivF a.1 i)) (.l _) (ev_v 3) (ev_ix (i := 0) (.l _) (ev_v 6) ev_int hpk) (tab_at v.k)) fun Y3 ly3 => ?_
      refine wb_asg 8 (ev_call C2 hr (ea_cons (ev_v 0) (ea_cons (ev_ix (i := i) (.t _) (ev_v 7) (ev_v 5) (ints_at (by rw [v.fw.l]; exact hi))) ea_nil)) ⟨p, _, rfl, hp, v.p0, v.p1, rfl⟩) fun Y4 ly4 => ?_
      refine wb_asg 7 (d := iT (pivR p a.1 i)) (EvE.cast (ev_toTup (.l _) (ev_lcN [("_law_x", 11)] 11 (fun j => .int ((backI p ((pivF a.1 i).getD i 0) * (pivF a.1 i).getD j 0) % p)) (ei_t (ev_v 7)) (by rw [List.length_map, v.fw.l]; omega) ?_)) ?_) fun Y5 ly5 => ?_
      · intro j d U hd l s H0 C cl fp gb
        have hj : j < (pivF a.1 i).length := by simpa using (List.getElem?_eq_some_iff.mp hd).1
        rw [ints_at hj] at hd
        obtain rfl := Option.some.inj hd
        have b := (back_ok hp v.p0 v.p1).2.2
        have b0 : 1 ≤ backI p ((pivF a.1 i).getD i 0) := by unfold backI; omega
        exact ev_mod (ev_toInt (ev_mul (ev_v 8) (ev_v 11) (.inl (by omega)))) (ev_v 0) hp0
      · rw [List.length_map]
        show PyData.tuple _ = PyData.tuple _
        congr 1
        unfold pivR
        apply List.ext_getElem?
        intro j
        rw [List.getElem?_map, List.getElem?_map, List.getElem?_map]
        by_cases hj : j < (pivF a.1 i).length
        · rw [List.getElem?_range hj, List.getElem?_eq_getElem hj, Option.map_some, Option.map_some, Option.map_some, List.getD_eq_getElem?_getD (l := pivF a.1 i) (i := j), List.getElem?_eq_getElem hj] <;> rfl
        · rw [List.getElem?_eq_none (by rw [List.length_range]; omega), List.getElem?_eq_none (by omega)] <;> rfl
      have offok : ∀ r, Rw p n r → R_off [iI p, iT r, iT (pivR p a.1 i), iI i] (iT (off p r (pivR p a.1 i) i)) := fun r hr => ⟨p, r, _, i, rfl, hp0, by rw [hr.l]; exact hi, by rw [hr.l, v.rw_.l]; exact Nat.le_refl _, by rw [hr.l]; exact hn, ⟨(hr.at hp0 i).1, by have := (hr.at hp0 i).2; omega⟩, rfl⟩
      refine wb_asg 3 (d := .list ((outL p a.1 i).map iT)) (EvE.cast (ev_lcNF [("_law_k", 10)] 10 (fun k => !decide (k = pivK a.1 i)) (fun k => iT (off p (a.1.getD k []) (pivR p a.1 i) i)) (ei_r1 (ev_len (.l _) (ev_v 3)) (by rw [List.length_map]; omega)) (by rw [rngN_len, List.length_map]; omega) ?_ ?_) ?_) fun Y6 ly6 => ?_
      · intro k d U hd l s H0 C cl fp gb
        obtain ⟨hk, rfl⟩ := rngN_at hd
        refine EvT.cast (et_neI (ev_v 10) (ev_ix (i := 0) (.l _) (ev_v 6) ev_int hpk)) ?_
        congr 1
        exact decide_eq_decide.mpr ⟨fun e => by omega, fun e => by omega⟩
      · intro k d U hd l s H0 C cl fp gb hq
        obtain ⟨hk, rfl⟩ := rngN_at hd
        have hk : k < a.1.length := by simpa using hk
        exact ev_call C1 hr (ea_cons (ev_v 0) (ea_cons (ev_ix (i := k) (.l _) (ev_v 3) (ev_v 10) (tab_at hk)) (ea_cons (ev_v 7) (ea_cons (ev_v 5) ea_nil)))) (offok _ (ih.lw _ (getD_in hk)))
      · rw [rngN_len, List.length_map, Int.toNat_natCast]
        unfold outL outK
        rw [List.map_map] <;> rfl
      refine wb_asg 4 (d := .list ((a.2.map (fun r => off p r (pivR p a.1 i) i) ++ [pivR p a.1 i]).map iT)) (EvE.cast (ev_catL (ev_lcN [("_law_row", 9)] 9 (fun k => iT (off p (a.2.getD k []) (pivR p a.1 i) i)) (ei_l (ev_v 4)) (by rw [List.length_map]; omega) ?_) (ev_lst (ea_cons (ev_v 7) ea_nil)) ?_) ?_) fun Y7 ly7 => wb_nil (wb_nil ?_)
      · intro k d U hd l s H0 C cl fp gb
        have hk : k < a.2.length := by simpa using (List.getElem?_eq_some_iff.mp hd).1
        rw [tab_at hk] at hd
        obtain rfl := Option.some.inj hd
        exact ev_call C1 hr (ea_cons (ev_v 0) (ea_cons (ev_v 9) (ea_cons (ev_v 7) (ea_cons (ev_v 5) ea_nil)))) (offok _ (ih.fw _ (getD_in hk)))
      · rw [List.length_map, List.length_range, List.length_map]; simp; omega
      · rw [List.length_map, map_range_getD a.2 (fun r => iT (off p r (pivR p a.1 i) i)), List.map_append, List.map_map] <;> rfl
      have es : redA p rows (i + 1) = (outL p a.1 i, a.2.map (fun r => off p r (pivR p a.1 i) i) ++ [pivR p a.1 i]) := by
        rw [redA_succ, hA]
        unfold stepR
        rw [if_neg hne]
      have lall := (((ly.tr ly2).tr ly3).tr ly4).tr ((ly5.tr ly6).tr ly7)
      refine ⟨lall.g, ⟨some (.d (.int (i : Int))), some (.d (.list ((pivL a.1 i).map fun k : Nat => .int (k : Int)))), some (.d (iT (pivR p a.1 i))), some (.d (.int (backI p ((pivF a.1 i).getD i 0)))), ?_⟩, (lw.tr lz).tr lall⟩
      rw [es] <;> rfl
    · have he : pivL a.1 i = [] := by
        cases e : pivL a.1 i with
        | nil => rfl
        | cons x l =>
          rw [e] at hq
          exact absurd hq (fun z : true = false => by cases z)
      have es : redA p rows (i + 1) = a := by
        rw [redA_succ, hA]
        unfold stepR
        rw [if_pos he]
      refine wb_nil ⟨(ly.tr ly2).g, ⟨some (.d (.int (i : Int))), some (.d (.list ((pivL a.1 i).map fun k : Nat => .int (k : Int)))), o7, o8, ?_⟩, ((lw.tr lz).tr ly).tr ly2⟩
      rw [es]
  · rintro δ1 V0 ⟨⟨o5, o6, o7, o8, rfl⟩, lw⟩
    rw [rngN_len, Int.toNat_natCast]
    exact wb_ret (ev_toTup (.l _) (ev_v 4)) fun Z lz => ⟨rfl, lw.tr lz⟩
end
end Pk
set_option Elab.async false
set_option linter.all false
set_option maxRecDepth 100000
set_option maxHeartbeats 4000000
/-! lists that grow while m is drawn from -/
namespace Pk
open PySem PySem.Spec L2
open PyProof.Rows hiding St
theorem Md.putN {U : Wd} {m l : Addr} {N : Nat} {o : HO} {hg : U.G l = none} (h : Md U m N) (n : m ≠ l) : Md (U.put l o hg) m N := by
  obtain ⟨left, seed, spot, c, cs, e1, e2, e3⟩ := h.ex
  exact ⟨h.g, left, seed, spot, c, cs, by show upd U.H l o m = _; rw [upd_ne n]; exact e1, e2, e3⟩
theorem Md.frzN {U : Wd} {m l : Addr} {N : Nat} {o : HO} {hh : U.H l = some o} (h : Md U m N) (n : m ≠ l) : Md (U.frz l o hh) m N := by
  obtain ⟨left, seed, spot, c, cs, e1, e2, e3⟩ := h.ex
  refine ⟨by show upd U.G l o m = _; rw [upd_ne n]; exact h.g, left, seed, spot, c, cs, e1, ?_, e3⟩
  show upd U.G l o c = _
  by_cases q : c = l
  · subst q
    rw [upd_same, ← hh]
    exact U.ex c _ e2
  · rw [upd_ne q]; exact e2
theorem Md.in {U : Wd} {m : Addr} {N : Nat} (h : Md U m N) : U.H m ≠ none := by
  obtain ⟨_, _, _, _, _, e1, _⟩ := h.ex
  rw [e1]; simp
theorem Md.ne {U : Wd} {m l : Addr} {N : Nat} (h : Md U m N) (n : U.H l = none) : m ≠ l := fun e => h.in (by rw [e]; exact n)
/-- a promise without effects, its answer only described -/
def SpQ (K : PySem.W.Frag) (pre : List PyData → Prop) (post : List PyData → PyData → Prop) : Sp := fun vs H Q _ => ∃ (W : Wd) (ds : List PyData), W.H = H ∧ RpL K W.G vs ds ∧ pre ds ∧ ∀ v d U, Le W U → post ds d → Rp K U.G v d → Q v U.H
section
variable {P : Program} {w : World} {K : PySem.W.Frag} {mg : Str → Option Value} {base : Heap} {N ps : List Str} {x : Str} {st : Stmt} {k : Nat}
theorem cal_q {pre : List PyData → Prop} {post : List PyData → PyData → Prop} (T : At K mg x st) (hb : ∀ {f : Addr} {fd : FuncData}, Fun K x x st f fd → Binds K fd ps []) (S : FnScope N ps (defScope st)) (B : Bn mg) (hl : ∀ ds, pre ds → ds.length = ps.length)
    (body : ∀ f cdv A outer s H E, let X := FX P w K mg base N x st f cdv A outer s H E; Good K X → Room k X.A → ∀ (W : Wd) ds, pre ds → WB K X (startD N ds) (defBody st) W { nx := fun _ _ => False, rt := fun d U => post ds d ∧ Le W U }) : Cal P w K mg base CX0 (k + 1) x ps (SpQ K pre post) := by
  obtain ⟨f, fd, h1, F⟩ := T
  refine ⟨f, fd, h1, F.kp, hb F, F.ok S (fun vs H Q E h => ?_) fun cdv A outer s H vs Q E hr h => ?_⟩
  · obtain ⟨W, ds, _, rs, hp, _⟩ := h
    rw [rs.len, hl ds hp]
  · obtain ⟨W, ds, rfl, rs, hp, q⟩ := h
    refine ⟨_, pb_w _ _, ?_⟩
    refine wB_imp (body f cdv A outer s W.H E ⟨rfl, rfl, S.nd, hr.mono (Nat.zero_le _), B.bn⟩ hr W ds hp _ (srep_start rs)) (fun σ H' ⟨_, _, _, _, z⟩ => z.elim) (fun v H' ⟨d', U, e, rv, a, b⟩ => ?_) (fun _ _ ⟨_, _, _, _, z⟩ => z) fun _ _ ⟨_, _, _, _, z⟩ => z
    rw [e]
    exact q v d' U b a rv
end
section
variable {K : PySem.W.Frag} {X : Cx} [g : Good K X] {δ : Sd} {W U : Wd} {a b c e elt tg iter : Expr} {es ifs : List Expr} {pos : Pos} {d d1 d2 : PyData} {rest : List Stmt} {P : Po} {x : Str} {ps : List Str} {j : Nat} {scope : Scope}
theorem we_callQ {pre : List PyData → Prop} {post : List PyData → PyData → Prop} {ds : List PyData} {p : Pos} {Post : PyData → Wd → Prop} (C : Cal X.prog X.w X.K X.mg X.base CX0 j x ps (SpQ K pre post)) (hr : Room j X.A) (ha : EvA K X δ (e :: es) W ds) (h : pre ds) (q0 : ∀ d Z, Le W Z → post ds d → Post d Z) (hg : Gl X x := by rfl)
    (hdb : (x == ("__debug__" : Str)) = false := by decide) (he : starEach (e :: es) X.env = (false, eval e X.env) :: starEach es X.env := by rfl) (hpl : (backTo pos (starEach es X.env)).any (·.1) = false := by rfl) :
    WE K X δ (.Call (.Name x p) (e :: es) [] pos) W Post := fun σ r Q q => by
  obtain ⟨f, fd, h1, h2, h3, h4⟩ := C
  exact (pe_call h4 hr hg h1 h2 h3 .nil pass0 (pa_w X _) hdb he hpl).w (ha W (Le.refl W) σ r _ fun vs Z l2 rs => ⟨Z, ds, rfl, by rw [List.append_nil]; exact rs, h, fun v d Y l3 pd rv => q v d Y ((l2.tr l3).g) rv (q0 d Y (l2.tr l3) pd)⟩)
/-- a tuple of parts that run -/
theorem we_tup (b : Bool) {x1} {Post : PyData → Wd → Prop} (h : WA K X δ es W fun ds U => isPs ds = b ∧ ds.length ≤ 1000000 ∧ ∀ Z, Le U Z → Post (.tuple ds) Z) : WE K X δ (.Tuple es x1 pos) W Post := fun σ r Q q =>
  (pe_tupB b (pa_w X es)).w (h σ r _ fun vs ds U gu rs p => ⟨by rw [rs.len]; exact sz p.2.1, fun a o ha ho => q _ _ (U.add a _ ha) (gu.tr (U.add_le ha).g) (add_t ha (by rw [p.1]; exact ho) rs) (p.2.2 _ (U.add_le ha))⟩)
/-! ### x in xs, where xs still grows -/
theorem et_inM (i : Nat) {l : Addr} {vs : List V} {ds : List PyData} {y : Str} {py : Pos} (hl : W.H l = some (.lst vs)) (hr : RpL K W.G vs ds) (ha : EvE K X δ a W d1) (n1 : Plain d1) (n2 : Plain (.list ds)) (hi : δ[i]? = some (some (.v (.ref l))) := by rfl) (hN : X.N[i]? = some y := by rfl)
    (hv : Vis X.env.scope y := by first | exact Or.inl rfl | exact Or.inr (Or.inl rfl) | exact Or.inr (Or.inr rfl)) (hd : (y == ("__debug__" : Str)) = false := by decide) (hcd : (y == ("__classdict__" : Str)) = false := by decide) (hm : behindInMarks .In (.Name y py) = false := by with_unfolding_all rfl) :
    EvT K X δ (.Compare a [.In] [.Name y py] pos) W (ds.any fun z => PyData.eqv z d1) := fun U lu σ s Q q => by
  obtain ⟨v, e1, e2⟩ := s.at_ i _ hi
  obtain rfl : v = .ref l := e2
  refine (pt_cmpR (op_inQ (by have := g.room.un; omega)) (pe_w X a) (pe_var hN hv hd hcd) hm).w (ha U lu σ s _ fun x Z l2 rx => ⟨.ref l, e1, d1, ds, ?_, .inl ?_, n1.sh, n2.sh, ⟨_, rfl, q Z l2⟩⟩)
  · rw [g.hK]; exact n1.dp rx Z.ex
  · rw [g.hK]
    have n2' : noDs ds = true := by simpa [noD] using n2.nd
    exact .lst (SqL.of ((lu.tr l2).h _ _ hl)) (RpL.dps (hr.up (((lu.tr l2).g).tr Z.ex)) n2')
theorem et_niM (i : Nat) {l : Addr} {vs : List V} {ds : List PyData} {y : Str} {py : Pos} (hl : W.H l = some (.lst vs)) (hr : RpL K W.G vs ds) (ha : EvE K X δ a W d1) (n1 : Plain d1) (n2 : Plain (.list ds)) (hi : δ[i]? = some (some (.v (.ref l))) := by rfl) (hN : X.N[i]? = some y := by rfl)
    (hv : Vis X.env.scope y := by first | exact Or.inl rfl | exact Or.inr (Or.inl rfl) | exact Or.inr (Or.inr rfl)) (hd : (y == ("__debug__" : Str)) = false := by decide) (hcd : (y == ("__classdict__" : Str)) = false := by decide) (hm : behindInMarks .NotIn (.Name y py) = false := by with_unfolding_all rfl) :
    EvT K X δ (.Compare a [.NotIn] [.Name y py] pos) W (!ds.any fun z => PyData.eqv z d1) := fun U lu σ s Q q => by
  obtain ⟨v, e1, e2⟩ := s.at_ i _ hi
  obtain rfl : v = .ref l := e2
  refine (pt_cmpR (op_niQ (by have := g.room.un; omega)) (pe_w X a) (pe_var hN hv hd hcd) hm).w (ha U lu σ s _ fun x Z l2 rx => ⟨.ref l, e1, d1, ds, ?_, .inl ?_, n1.sh, n2.sh, ⟨_, rfl, q Z l2⟩⟩)
  · rw [g.hK]; exact n1.dp rx Z.ex
  · rw [g.hK]
    have n2' : noDs ds = true := by simpa [noD] using n2.nd
    exact .lst (SqL.of ((lu.tr l2).h _ _ hl)) (RpL.dps (hr.up (((lu.tr l2).g).tr Z.ex)) n2')
/-- xs[i], where xs still grows -/
theorem ev_ixM (i : Nat) {l : Addr} {vs : List V} {ds : List PyData} {y : Str} {py : Pos} {n : Nat} (hl : W.H l = some (.lst vs)) (hr : RpL K W.G vs ds) (hb : EvE K X δ b W (.int (n : Int))) (hn : ds[n]? = some d) (hi : δ[i]? = some (some (.v (.ref l))) := by rfl) (hN : X.N[i]? = some y := by rfl)
    (hv : Vis X.env.scope y := by first | exact Or.inl rfl | exact Or.inr (Or.inl rfl) | exact Or.inr (Or.inr rfl)) (hd : (y == ("__debug__" : Str)) = false := by decide) (hcd : (y == ("__classdict__" : Str)) = false := by decide) (hs : PlainIx b := by exact fun _ _ => rfl) :
    EvE K X δ (.Subscript (.Name y py) b pos) W d := fun U lu σ s Q q => by
  obtain ⟨v, e1, e2⟩ := s.at_ i _ hi
  obtain rfl : v = .ref l := e2
  refine (pe_ix ix_seq (pe_var hN hv hd hcd) (pe_w X b) hs).w ⟨.ref l, e1, hb U lu σ s _ fun y Z l2 ry => ?_⟩
  obtain ⟨v, hv, rv⟩ := hr.at hn
  have hat : atI vs (n : Int) = some v := atI_nat hv
  exact .inl ⟨l, vs, (n : Int), v, rfl, ry.int_inv, SqL.of ((lu.tr l2).h _ _ hl), hat, q v Z l2 (rv.up (lu.tr l2).g)⟩
/-- x.extend(e) -/
theorem wb_ext (i : Nat) {y : Str} {px apos cpos : Pos} {l : Addr} {vs : List V} (hl : W.H l = some (.lst vs)) (he : WE K X δ e W fun d U => ∃ (ds : List PyData) (vs : List V), d = .list ds ∧ U.H l = some (.lst vs) ∧ vs.length + ds.length ≤ 1000000 ∧ ∃ hg' : U.G l = none, ∀ us, RpL K U.G us ds → WB K X δ rest (U.put l (.lst (vs ++ us)) hg') P)
    (hi : δ[i]? = some (some (.v (.ref l))) := by rfl)
    (hN : X.N[i]? = some y := by rfl) (hv : Vis X.env.scope y := by first | exact Or.inl rfl | exact Or.inr (Or.inl rfl) | exact Or.inr (Or.inr rfl))
    (hd : (y == ("__debug__" : Str)) = false := by decide) (hcd : (y == ("__classdict__" : Str)) = false := by decide)
    (hbase : attributeBase (.Name y px) "extend" X.env (eval (.Name y px) X.env) = eval (.Name y px) X.env := by rfl)
    (hfew : ((backTo cpos (starEach [e] X.env)).all (fun x => !x.1) && (backToKw cpos (keywordEach [] X.env)).all (fun x => x.1.isSome)
      && decide ([e].length + ([] : List Keyword).length + (if ([] : List Keyword).isEmpty then 0 else 1) < 30)) = true := by rfl)
    (hline : (apos.endLine == cpos.line) = true := by rfl) (hs : starEach [e] X.env = (false, eval e X.env) :: starEach [] X.env := by rfl) (hplain : (backTo cpos (starEach [] X.env)).any (·.1) = false := by rfl)
    (hsw : swapsWith (.Call (.Attribute (.Name y px) "extend" apos) [e] [] cpos) none pos.line X.env = pure false := by rfl) :
    WB K X δ (.Expr (.Call (.Attribute (.Name y px) "extend" apos) [e] [] cpos) pos :: rest) W P :=
  wb_cons fun σ r => by
    obtain ⟨v, e1, e2⟩ := r.at_ i _ hi
    obtain rfl : v = .ref l := e2
    refine (ps_expr (pe_bm PySem.F.plainAttrs_list PySem.F.slot_list_extend PySem.F.type_list_extend mt_extend (pe_var hN hv hd hcd) (pa_cons (pe_w X e) pa_nil hs) hbase hfew hline hs hplain) hsw).w ?_
    refine ⟨.ref l, e1, .inl ⟨rfl, vs, SqL.of hl⟩, he σ r _ fun v d U gu rv ⟨ds, ws, e3, h1, hz, hg', k⟩ => ?_⟩
    subst e3
    cases rv with
    | lst hb rs =>
      refine ⟨l, _, ws, _, rfl, rfl, h1, U.ex _ _ hb, by rw [rs.len]; exact sz hz, δ, U.put l (.lst (ws ++ _)) hg', rfl, r.up gu, k _ rs⟩
/-- x, y = e, [] -/
theorem wb_parNew (i k : Nat) {x y : Str} {px py pt lp : Pos} {kt k2 : Nat} {pt2 : Pos} (he : EvE K X δ a W d) (h : ∀ U l, Le W U → (hl : U.H l = none) → WB K X ((δ.set i (some (.d d))).set k (some (.v (.ref l)))) rest (U.put l (.lst []) (U.gnone hl)) P)
    (hi : X.N[i]? = some x := by rfl) (hj : X.N[k]? = some y := by rfl) (hij : i ≠ k := by decide) (hx : X.env.scope.names.lookup x = some .local := by rfl) (hy : X.env.scope.names.lookup y = some .local := by rfl)
    (hw : swappedStores [.Tuple [.Name x px, .Name y py] kt pt] (.Tuple [a, .List [] lp] k2 pt2) X.env = pure (some [x, y]) := by rfl)
    (hs : swapsWithSole [.Tuple [.Name x px, .Name y py] kt pt] (.Tuple [a, .List [] lp] k2 pt2) pos.line X.env = pure false := by rfl)
    (h2 : starEach [a, .List [] lp] X.env = (false, eval a X.env) :: starEach [.List [] lp] X.env := by rfl) : WB K X δ (.Assign [.Tuple [.Name x px, .Name y py] kt pt] (.Tuple [a, .List [] lp] k2 pt2) pos :: rest) W P :=
  wb_cons fun σ r => (ps_par g.calm g.nd hi hj hij hx hy (pa_cons (pe_w X a) (pa_cons (pe_lst pa_nil) pa_nil) h2) hw hs).w (he W (Le.refl W) σ r _ fun v U l rv => ⟨Nat.zero_le _, fun p hp => ⟨v, .ref p, rfl, _, U.put p (.lst []) (U.gnone hp), rfl, SRep.set (s := .v (.ref p)) (SRep.set (s := .d d) (r.up l.g) rv i) rfl k, h U p l hp⟩⟩)
/-- a list that grew, from now on data -/
theorem wb_fixD (i : Nat) {l : Addr} {vs : List V} {ds : List PyData} (hl : W.H l = some (.lst vs)) (hr : RpL K W.G vs ds) (h : ∀ F, F.H = W.H → Sub W.G F.G → (∀ m B, Dr m B W → B.H l = none → Dr m B F) → (∀ B, Le B W → B.H l = none → Le B F) → (∀ m n, Md W m n → m ≠ l → Md F m n) → (∀ a, a ≠ l → W.G a = none → F.G a = none) → WB K X (δ.set i (some (.d (.list ds)))) rest F P)
    (hi : δ[i]? = some (some (.v (.ref l))) := by rfl) : WB K X δ rest W P := by
  have sg := W.fix_g fun b => decide (b = l)
  have el : (W.fix fun b => decide (b = l)).G l = some (.lst vs) := (Wd.fix_at (decide_eq_true rfl)).trans hl
  have nl : ∀ a, a ≠ l → (W.fix fun b => decide (b = l)).G a = W.G a := fun a h => if_neg (by simpa using h)
  refine wb_look (F := W.fix fun b => decide (b = l)) rfl (fun σ r => (r.up sg).tell hi (.lst el (hr.up sg))) (h _ rfl sg (fun m B db hB => ⟨db.g.tr sg, db.h, fun a h1 h2 => ?_, db.mm⟩) (fun B lb hB => Wd.fix_le lb fun a ha => by rw [of_decide_eq_true ha]; exact hB) (fun m n hm ne => ?_) fun a n h => (nl a n).trans h)
  · rw [nl a fun e => h1 (by rw [e]; exact hB)]
    exact db.fr a h1 h2
  · obtain ⟨left, seed, spot, c, cs, e1, e2, e3⟩ := hm.ex
    exact ⟨(nl m ne).trans hm.g, left, seed, spot, c, cs, e1, sg _ _ e2, e3⟩
end
end Pk
set_option Elab.async false
set_option linter.all false
set_option maxRecDepth 100000
set_option maxHeartbeats 4000000
namespace Pk
open PySem PySem.Spec L2
open PyProof.Rows hiding St
section
variable {K : PySem.W.Frag} {X : Cx} [g : Good K X] {δ : Sd} {W U : Wd} {a b c e elt tg iter cnd : Expr} {es ifs : List Expr} {pos : Pos} {d d1 d2 : PyData} {rest : List Stmt} {P : Po} {x : Str} {j : Nat} {scope : Scope}
/-- list(range(n)) -/
theorem ev_listRg {n : Int} {p p2 pos2 : Pos} (ha : EvE K X δ a W (.int n)) (hn : -1000000 ≤ n ∧ n ≤ 1000000) (hg : Gl X "list" := by rfl) (hg2 : Gl X "range" := by rfl) (na : starEach [a] X.env = (false, eval a X.env) :: starEach [] X.env := by rfl)
    (na2 : starEach [.Call (.Name "range" p2) [a] [] pos2] X.env = (false, eval (.Call (.Name "range" p2) [a] [] pos2) X.env) :: starEach [] X.env := by rfl) : EvE K X δ (.Call (.Name "list" p) [.Call (.Name "range" p2) [a] [] pos2] [] pos) W (.list (rngN n.toNat)) := fun U l σ s Q q =>
  (pe_listRg g.calm hg (g.bn "list" (by simp)) (prg_1 hg2 (g.bn "range" (by simp)) (pe_w X a) na) na2).w (ha U l σ s _ fun x Z l2 rx => ⟨n, rx.int_inv, ⟨by omega, by omega, by omega, by omega, by omega⟩, fun p hp => q _ (Z.add p _ hp) (l2.tr (Z.add_le hp)) (add_l hp (by
    unfold rgV rngN
    rw [Int.sub_zero]
    have key : ∀ ks : List Nat, RpL K Z.G (ks.map fun i : Nat => V.int (0 + (i : Int))) (ks.map fun i : Nat => PyData.int (i : Int)) := fun ks => by
      induction ks with
      | nil => exact .nil
      | cons k ks ih => exact .cons (by show Rp K Z.G (V.int (0 + (k : Int))) _; rw [Int.zero_add]; exact .int _) ih
    exact key _))⟩)
/-- a comprehension whose parts draw -/
theorem lc_drawN (own : List (Str × Nat)) (j : Nat) {m : Addr} {M c : Nat} {ds : List PyData} (E : PyData → Prop) (hm : Md W m M) (hi : EvI false K X δ tg iter W ds) (hsz : ds.length < 1000000)
    (hs : ∀ (i : Nat) d U, ds[i]? = some d → Dr m W U → Md U m (M + i * c) → ∀ s H0 C cl fp, Good K (BX X scope s H0 C cl fp) → WE K (BX X scope s H0 C cl fp) ((wipeD δ (own.map (·.2))).set j (some (.d d))) elt U fun e Y => Dr m U Y ∧ Md Y m (M + (i + 1) * c) ∧ E e)
    (ht : Tg1 K X δ scope tg own j := by exact fun _ _ _ _ _ _ _ => tg_name _) (hj : j ∈ own.map (·.2) := by decide) :
    LcOut K X δ W scope tg iter elt [] (own.map (·.2)) fun d U => ∃ es, d = .list es ∧ es.length = ds.length ∧ (∀ e ∈ es, E e) ∧ Dr m W U ∧ Md U m (M + ds.length * c) := fun σ r Q q => by
  refine lc_read (stp_dr m) hi (fun p hp e => hm.in (by rw [← e]; exact hp)) (fun i acc U => acc.length = i ∧ (∀ e ∈ acc, E e) ∧ Md U m (M + i * c)) (fun i acc U p o hg hp j => ⟨j.1, j.2.1, j.2.2.putN (hm.ne hp)⟩) (fun acc U p o hh hp j => ⟨j.1, j.2.1, j.2.2.frzN (hm.ne hp)⟩) (fun i acc U Z l j => ⟨j.1, j.2.1, j.2.2.up l⟩) (fun U l => ⟨rfl, fun _ h => (List.not_mem_nil h).elim, by rw [Nat.zero_mul]; exact hm.up l⟩) hsz (fun i d acc U hd l j => ?_) σ r Q fun v acc U l j rv => ?_
  · refine ⟨_, [_], ht d, fun i h => by rw [List.mem_singleton.mp h]; exact hj, fun s H0 C cl fp gb => wts_nil ⟨(Le.refl U).dr m, ?_⟩⟩
    rw [if_pos rfl]
    intro s H0 C cl fp gb
    refine (hs i d U hd l j.2.2 s H0 C cl fp gb).imp fun e Y _ ⟨h1, h2, h3⟩ => ⟨h1, ?_, fun e' he' => ?_, h2⟩
    · rw [List.length_append, j.1] <;> rfl
    · rcases List.mem_append.mp he' with h | h
      · exact j.2.1 e' h
      · rw [List.mem_singleton.mp h]; exact h3
  · exact q v _ U l.g ⟨acc, rfl, j.1, j.2.1, l, j.2.2⟩ rv
/-- .. whose tests draw -/
theorem lc_drawT (own : List (Str × Nat)) (j : Nat) {m : Addr} {M c : Nat} {ds : List PyData} (f : Nat → PyData) (hm : Md W m M) (hi : EvI false K X δ tg iter W ds) (hsz : ds.length < 1000000)
    (hc : ∀ (i : Nat) d U, ds[i]? = some d → Dr m W U → Md U m (M + i * c) → ∀ s H0 C cl fp, Good K (BX X scope s H0 C cl fp) → WT K (BX X scope s H0 C cl fp) ((wipeD δ (own.map (·.2))).set j (some (.d d))) cnd U fun b Z => Dr m U Z ∧ Md Z m (M + (i + 1) * c))
    (he : ∀ (i : Nat) d U, ds[i]? = some d → Dr m W U → ∀ s H0 C cl fp, Good K (BX X scope s H0 C cl fp) → EvE K (BX X scope s H0 C cl fp) ((wipeD δ (own.map (·.2))).set j (some (.d d))) elt U (f i))
    (ht : Tg1 K X δ scope tg own j := by exact fun _ _ _ _ _ _ _ => tg_name _) (hj : j ∈ own.map (·.2) := by decide) :
    LcOut K X δ W scope tg iter elt [cnd] (own.map (·.2)) fun d U => ∃ es, d = .list es ∧ es.length ≤ ds.length ∧ (∀ e ∈ es, ∃ i, i < ds.length ∧ e = f i) ∧ Dr m W U ∧ Md U m (M + ds.length * c) := fun σ r Q q => by
  refine lc_read (stp_dr m) hi (fun p hp e => hm.in (by rw [← e]; exact hp)) (fun i acc U => acc.length ≤ i ∧ (∀ e ∈ acc, ∃ i, i < ds.length ∧ e = f i) ∧ Md U m (M + i * c)) (fun i acc U p o hg hp j => ⟨j.1, j.2.1, j.2.2.putN (hm.ne hp)⟩) (fun acc U p o hh hp j => ⟨j.1, j.2.1, j.2.2.frzN (hm.ne hp)⟩) (fun i acc U Z l j => ⟨j.1, j.2.1, j.2.2.up l⟩) (fun U l => ⟨Nat.le_refl _, fun _ h => (List.not_mem_nil h).elim, by rw [Nat.zero_mul]; exact hm.up l⟩) hsz (fun i d acc U hd l j => ?_) σ r Q fun v acc U l j rv => ?_
  · have hlt : i < ds.length := (List.getElem?_eq_some_iff.mp hd).1
    refine ⟨_, [_], ht d, fun i h => by rw [List.mem_singleton.mp h]; exact hj, fun s H0 C cl fp gb => wts_one ?_⟩
    refine fun σ r Q q => hc i d U hd l j.2.2 s H0 C cl fp gb σ r Q fun b Z gz ⟨h1, h2⟩ => q b Z gz ⟨h1, ?_⟩
    cases b with
    | false =>
      rw [if_neg (by decide)]
      exact ⟨by have := j.1; omega, j.2.1, h2⟩
    | true =>
      rw [if_pos rfl]
      intro s H0 C cl fp gb
      refine we_ev (he i d Z hd (l.tr h1) s H0 C cl fp gb) fun Y l2 => ⟨l2.dr m, ?_, fun e' he' => ?_, h2.up l2⟩
      · rw [List.length_append, List.length_singleton]; have := j.1; omega
      · rcases List.mem_append.mp he' with h | h
        · exact j.2.1 e' h
        · rw [List.mem_singleton.mp h]; exact ⟨i, hlt, rfl⟩
  · exact q v _ U l.g ⟨acc, rfl, j.1, j.2.1, l, j.2.2⟩ rv
/-- sorted(set(xs)), xs a list of pairs -/
theorem ks_of {G : Hp} : ∀ {vs : List V} {ps : List Pr}, RpL K G vs (ps.map pD) → ∃ ks : List (Addr × List Int), vs = ks.map (fun p => V.ref p.1) ∧ ks.length = ps.length ∧ ∀ k ∈ ks, ∃ p ∈ ps, k.2 = [p.1, p.2] ∧ Rp K G (.ref k.1) (pD p)
  | vs, [], r => by
    cases r
    exact ⟨[], rfl, rfl, fun _ h => (List.not_mem_nil h).elim⟩
  | vs, p :: ps, r => by
    have r' : RpL K G vs (pD p :: ps.map pD) := r
    cases r' with
    | @cons v vs _ _ h k =>
      obtain ⟨ks, e1, e2, e3⟩ := ks_of k
      obtain ⟨a, us, e4, _, _⟩ := Rp.tup_inv h
      subst e4
      refine ⟨(a, [p.1, p.2]) :: ks, by rw [e1] <;> rfl, by rw [List.length_cons, e2] <;> rfl, fun k hk => ?_⟩
      rcases List.mem_cons.mp hk with rfl | hk
      · exact ⟨p, List.mem_cons_self, rfl, h⟩
      · obtain ⟨q, q1, q2⟩ := e3 k hk
        exact ⟨q, List.mem_cons_of_mem _ q1, q2⟩
theorem sqt_of {G H : Hp} {k : Addr × List Int} {p : Pr} (e : k.2 = [p.1, p.2]) (h : Rp K G (.ref k.1) (pD p)) (s : Sub G H) : SqT K H k.1 (k.2.map V.int) := by
  obtain ⟨a, us, e4, e5, e6⟩ := Rp.tup_inv h
  obtain rfl : k.1 = a := by injection e4
  have e6' : RpL K G us [.int p.1, .int p.2] := e6
  obtain ⟨v, u, rfl, r1, r2⟩ := e6'.two_inv
  rw [e]
  obtain rfl := r1.int_inv
  obtain rfl := r2.int_inv
  exact s.t e5
theorem we_sortedSet {ps : List Pr} {p p2 pos2 : Pos} {Post : PyData → Wd → Prop} (ha : EvE K X δ e W (.list (ps.map pD))) (hl : ps.length < 64) (hB : inN 64 ps) (hq : ∀ (qs : List Pr) Z, Le W Z → (∀ q ∈ qs, q ∈ ps) → qs.length < 64 → Post (.list (qs.map pD)) Z) (hg : Gl X "sorted" := by rfl) (hg2 : Gl X "set" := by rfl)
    (na : starEach [e] X.env = (false, eval e X.env) :: starEach [] X.env := by rfl) (na2 : starEach [.Call (.Name "set" p2) [e] [] pos2] X.env = (false, eval (.Call (.Name "set" p2) [e] [] pos2) X.env) :: starEach [] X.env := by rfl) :
    WE K X δ (.Call (.Name "sorted" p) [.Call (.Name "set" p2) [e] [] pos2] [] pos) W Post := fun σ r Q q =>
  (pe_callB (cr_sortedT g.calm) hg (g.bn "sorted" (by simp)) (by decide +kernel) (pa_cons (pe_callTy (cr_setOfT g.calm (by have := g.room.un; omega)) hg2 (g.bn "set" (by simp)) (by decide +kernel) (pa_cons (pe_w X e) pa_nil na) (by decide) (by decide) na rfl) pa_nil na2) (by decide) (by decide) na2 rfl).w
    (ha W (Le.refl W) σ r _ fun v U lu rv => by
      cases rv with
      | @lst a us _ hb rs =>
        obtain ⟨ks, e1, e2, e3⟩ := ks_of rs
        refine ⟨a, ks, rfl, by rw [← e1]; exact SqL.of (U.ex _ _ hb), fun k hk => ?_, by omega, fun A L hA hL hL2 => ⟨A, L, 2, 64, rfl, upd_same, fun k hk => ?_, by omega, fun k hk => ?_, fun L' B pm nd hl' pw hB' => ?_⟩⟩
        · obtain ⟨pr, _, q2, q3⟩ := e3 k hk
          rw [g.hK]
          exact sqt_of q2 q3 U.ex
        · obtain ⟨pr, _, q2, q3⟩ := e3 k (hL k hk)
          rw [g.hK]
          exact sqt_of q2 q3 (Sub.tr U.ex (Sub.new hA))
        · obtain ⟨pr, q1, q2, q3⟩ := e3 k (hL k hk)
          obtain ⟨b1, b2, b3, b4⟩ := hB pr q1
          refine ⟨by rw [q2] <;> rfl, ?_⟩
          rw [q2]
          intro z hz
          rcases List.mem_cons.mp hz with rfl | hz
          · exact ⟨b1, b2⟩
          · rw [List.mem_singleton.mp hz]; exact ⟨b3, b4⟩
        · have key : ∀ M : List (Addr × List Int), (∀ k ∈ M, k ∈ ks) → ∃ qs : List Pr, (∀ q ∈ qs, q ∈ ps) ∧ qs.length = M.length ∧ RpL K U.G (M.map fun q => V.ref q.1) (qs.map pD) := fun M => by
            induction M with
            | nil => exact fun _ => ⟨[], fun _ h => (List.not_mem_nil h).elim, rfl, .nil⟩
            | cons k M ih =>
              intro hM
              obtain ⟨qs, h1, h2, h3⟩ := ih fun z hz => hM z (List.mem_cons_of_mem _ hz)
              obtain ⟨pr, q1, q2, q3⟩ := e3 k (hM k List.mem_cons_self)
              exact ⟨pr :: qs, fun z hz => by
                rcases List.mem_cons.mp hz with rfl | hz
                · exact q1
                · exact h1 z hz, by rw [List.length_cons, h2] <;> rfl, .cons q3 h3⟩
          obtain ⟨qs, h1, h2, h3⟩ := key L' fun k hk => hL k (pm.mem_iff.mp hk)
          exact q _ _ ((U.add A _ hA).add B _ hB') ((lu.g.tr (U.add_le hA).g).tr ((U.add A _ hA).add_le hB').g) (add_l hB' (h3.up (U.add_le hA).g)) (hq qs _ ((lu.tr (U.add_le hA)).tr ((U.add A _ hA).add_le hB')) h1 (by omega)))
end
end Pk
set_option Elab.async false
set_option linter.all false
set_option maxRecDepth 100000
set_option maxHeartbeats 4000000
namespace Pk
open PySem PySem.Spec L2
open PyProof.Rows hiding St
theorem map_range_int {β : Type} (ls : List Int) (f : Int → β) : (List.range ls.length).map (fun i => f (ls.getD i 0)) = ls.map f := by
  apply List.ext_getElem?
  intro i
  rw [List.getElem?_map, List.getElem?_map]
  by_cases hi : i < ls.length
  · rw [List.getElem?_range hi, List.getElem?_eq_getElem hi, Option.map_some, Option.map_some, List.getD_eq_getElem?_getD, List.getElem?_eq_getElem hi] <;> rfl
  · rw [List.getElem?_eq_none (by rw [List.length_range]; omega), List.getElem?_eq_none (by omega)] <;> rfl
theorem filt_range_int {β : Type} (ls : List Int) (q : Int → Bool) (f : Int → β) : ((List.range ls.length).filter fun i => q (ls.getD i 0)).map (fun i => f (ls.getD i 0)) = (ls.filter q).map f := by
  conv => rhs; rw [← List.map_id ls]
  rw [show ls.map id = (List.range ls.length).map (fun i => ls.getD i 0) from (map_range_int ls id).symm, List.filter_map, List.map_map] <;> rfl
theorem nodup_out {ls : List Int} (h : ls.Nodup) {x : Int} (hx : x ∈ ls) : (ls.filter fun y => !decide (y = x)).length + 1 = ls.length ∧ (ls.filter fun y => !decide (y = x)).Nodup := by
  have e : (ls.filter fun y => !decide (y = x)) = ls.erase x := by
    rw [h.erase_eq_filter]
    congr 1
  rw [e]
  exact ⟨by rw [List.length_erase_of_mem hx]; have := List.length_pos_of_mem hx; omega, h.erase x⟩
theorem len_le_nd : ∀ {as bs : List Pr}, as.Nodup → (∀ a ∈ as, a ∈ bs) → as.length ≤ bs.length
  | [], _, _, _ => Nat.zero_le _
  | a :: as, bs, h, k => by
    have h1 := List.nodup_cons.mp h
    have z := len_le_nd (bs := bs.erase a) h1.2 fun b hb => (List.mem_erase_of_ne (fun e => h1.1 (by rw [← e]; exact hb))).mpr (k b (List.mem_cons_of_mem _ hb))
    rw [List.length_erase_of_mem (k a List.mem_cons_self)] at z
    have := List.length_pos_of_mem (k a List.mem_cons_self)
    rw [List.length_cons]
    omega
def grid (n : Nat) : List Pr := (List.range n).flatMap fun x : Nat => (List.range n).map fun y : Nat => ((x : Int), (y : Int))
theorem mem_grid {n : Nat} {p : Pr} (h : 0 ≤ p.1 ∧ p.1 < (n : Int) ∧ 0 ≤ p.2 ∧ p.2 < (n : Int)) : p ∈ grid n := by
  refine List.mem_flatMap.mpr ⟨p.1.toNat, List.mem_range.mpr (by omega), List.mem_map.mpr ⟨p.2.toNat, List.mem_range.mpr (by omega), ?_⟩⟩
  show (((p.1.toNat : Nat) : Int), ((p.2.toNat : Nat) : Int)) = p
  rw [show ((p.1.toNat : Nat) : Int) = p.1 by omega, show ((p.2.toNat : Nat) : Int) = p.2 by omega]
theorem grid_len {n : Nat} (h : n ≤ 6) : (grid n).length ≤ 36 := by
  have : n = 0 ∨ n = 1 ∨ n = 2 ∨ n = 3 ∨ n = 4 ∨ n = 5 ∨ n = 6 := by omega
  rcases this with rfl | rfl | rfl | rfl | rfl | rfl | rfl <;> decide
theorem pD_inj {p q : Pr} (h : pD p = pD q) : p = q := by
  unfold pD at h
  injection h with h
  injection h with h1 h
  injection h with h2
  injection h1 with h1
  injection h2 with h2
  exact Prod.ext h1 h2
def preShuf (ds : List PyData) : Prop := ∃ n : Nat, ds = [.int (n : Int)] ∧ n ≤ 6
def postShuf (ds : List PyData) (d : PyData) : Prop := ∃ (n : Nat) (is : List Int), ds = [.int (n : Int)] ∧ d = iT is ∧ is.length = n ∧ ∀ x ∈ is, 0 ≤ x ∧ x < (n : Int)
section
variable {P : Program} {w : World} {K : PySem.W.Frag} {mg : Str → Option Value} {base : Heap}
theorem c_shuffled (T : At K mg "_law_shuffled" s_L_shuffled) (B : Bn mg) (C1 : Cal P w K mg base CX0 2 "_law_of" p_L_of (SpOf K)) : Cal P w K mg base CX0 3 "_law_shuffled" p_L_shuffled (SpM K preShuf postShuf 6) := by
  refine cal_m T b_L_shuffled sc_L_shuffled B (fun ds h => ?_) fun f cdv A outer s H E => ?_
  · obtain ⟨n, rfl, _⟩ := h
    rfl
  intro X gX hr W m M ds h hm hc
  obtain ⟨n, rfl, hn⟩ := h
  refine wb_parNew 2 3 (ev_listRg (ev_v 1) (by omega)) fun U0 l lu hl => ?_
  have hml : m ≠ l := (hm.up lu).ne hl
  have hW0 : W.H l = none := lu.some hl
  rw [Int.toNat_natCast]
  refine wb_for (ei_r1 (ev_v 1) (by omega)) (fun i δ1 Z => ∃ (o4 o5 : Option Sl) (ls os : List Int) (vs : List V), δ1 = [some (.v (.ref m)), some (.d (.int (n : Int))), some (.d (.list (ls.map PyData.int))), some (.v (.ref l)), o4, o5, none] ∧
    Dr m W Z ∧ Md Z m (M + i) ∧ Z.H l = some (.lst vs) ∧ Z.G l = none ∧ RpL K Z.G vs (os.map PyData.int) ∧ os.length = i ∧ (∀ x ∈ os, 0 ≤ x ∧ x < (n : Int)) ∧ ls.Nodup ∧ ls.length + i = n ∧ ∀ x ∈ ls, 0 ≤ x ∧ x < (n : Int)) (fun Z lz => ?_) ?_ ?_
  · refine ⟨none, none, (List.range n).map fun i : Nat => (i : Int), [], [], ?_, ((Wd.put_dr (lu.dr m) hW0).le lz), ((hm.up lu).putN hml).up lz, lz.h _ _ upd_same, lz.fr _ (by show upd _ _ _ _ ≠ none; rw [upd_same]; simp) (U0.gnone hl), .nil, rfl, fun _ h => (List.not_mem_nil h).elim, ?_, by rw [List.length_map, List.length_range]; rfl, fun x hx => ?_⟩
    · rw [List.map_map] <;> rfl
    · exact List.pairwise_map.mpr ((List.nodup_range (n := n)).imp fun h e => h (by have e' : ((_ : Nat) : Int) = ((_ : Nat) : Int) := e; omega))
    · obtain ⟨k, hk, rfl⟩ := List.mem_map.mp hx
      have := List.mem_range.mp hk
      omega
  · rintro i d δ1 V0 hd ⟨o4, o5, ls, os, vs, rfl, dW, hM, hvl, hgl, rs, hos, hob, hnd, hls, hlb⟩ Z lz
    obtain ⟨hi, rfl⟩ := rngN_at hd
    rw [Int.toNat_natCast] at hi
    refine ⟨_, _, tg_name 4, ?_⟩
    refine wb_asgW 5 (we_callM 0 C1 hr (wa_ev (ea_cons (ev_v (d := .list (ls.map PyData.int)) 2) ea_nil) fun Y ly => ⟨M + i, (hM.up lz).up ly, by omega, ⟨_, _, rfl, .l _, ?_, by rw [List.length_map]; omega⟩, fun Y2 d2 dz mz ⟨x, xs, e1, e2, e3⟩ => ?_⟩))
    · intro e
      have := congrArg List.length e
      rw [List.length_map] at this
      simp at this
      rw [this] at hls
      simp at hls
      omega
    obtain rfl := (List.cons.inj e1).1
    cases e2
    obtain ⟨x, hx, rfl⟩ := List.mem_map.mp e3
    obtain ⟨n1, n2⟩ := nodup_out hnd hx
    have d2 := ((dW.le lz).le ly).tr dz
    have hl2 : Y2.H l = some (.lst vs) := dz.h _ _ (fun e => hml e.symm) (ly.h _ _ (lz.h _ _ hvl))
    have hg2 : Y2.G l = none := dz.fr _ (by rw [ly.h _ _ (lz.h _ _ hvl)]; simp) (ly.fr _ (by rw [lz.h _ _ hvl]; simp) (lz.fr _ (by rw [hvl]; simp) hgl))
    have rs2 := rs.up ((lz.g.tr ly.g).tr dz.g)
    refine wb_setLc 2 [("_law_other", 6)] fun σ r Q q => lcNF [("_law_other", 6)] 6 (fun k => !decide (ls.getD k 0 = x)) (fun k => .int (ls.getD k 0)) (ei_l (ev_v (d := .list (ls.map PyData.int)) 2)) (by rw [List.length_map]; omega) ?_ ?_ (by exact fun _ _ _ _ _ _ _ => tg_name _) (by decide) σ r Q fun v d Y3 gY ⟨ed, ly3⟩ rv => q v d Y3 gY ?_ rv
    · intro k d U hd l s H0 C cl fp gb
      have hk : k < ls.length := by simpa using (List.getElem?_eq_some_iff.mp hd).1
      rw [ints_at hk] at hd
      obtain rfl := Option.some.inj hd
      exact et_neI (ev_v 6) (ev_v 5)
    · intro k d U hd l s H0 C cl fp gb hq
      have hk : k < ls.length := by simpa using (List.getElem?_eq_some_iff.mp hd).1
      rw [ints_at hk] at hd
      obtain rfl := Option.some.inj hd
      exact ev_v 6
    rw [List.length_map, filt_range_int ls (fun y => !decide (y = x)) PyData.int] at ed
    subst ed
    refine wb_app 3 (ly3.h _ _ hl2) (ly3.fr _ (by rw [hl2]; simp) hg2) (by rw [rs.len, List.length_map]; omega) (ev_v 5) fun Y4 v ly4 hg4 rv => wb_nil ?_
    have l34 := ly3.tr ly4
    refine ⟨(ly.g.tr dz.g).tr l34.g, some (.d (.int (i : Int))), some (.d (.int x)), ls.filter (fun y => !decide (y = x)), os ++ [x], vs ++ [v], rfl, Wd.put_dr (d2.le l34) hW0, ?_, upd_same, hg4, ?_, by rw [List.length_append, hos] <;> rfl, fun y hy => ?_, n2, by omega, fun y hy => hlb y (List.mem_filter.mp hy).1⟩
    · exact (mz.up l34).putN hml
    · rw [List.map_append]
      exact ((rs2.up l34.g).app (.one rv))
    · rcases List.mem_append.mp hy with h | h
      · exact hob y h
      · rw [List.mem_singleton.mp h]; exact hlb x hx
  · rintro δ1 V0 ⟨o4, o5, ls, os, vs, rfl, dW, hM, hvl, hgl, rs, hos, hob, hnd, hls, hlb⟩
    rw [rngN_len, Int.toNat_natCast] at hM hos
    refine wb_fixD 3 hvl rs fun F eF sF dF _ mF _ => ?_
    refine wb_ret (ev_toTup (.l _) (ev_v 3)) fun Z lz => ⟨(dF m W dW hW0).le lz, ((mF m _ hM hml).up lz).more (by omega), n, os, rfl, rfl, hos, hob⟩
end
/-! ### closed -/
def rTupE (K : PySem.W.Frag) : List V → Hp → VK → Prop := fun xs H Q => ∃ b, rTupB K b xs H Q
section
variable {K : PySem.W.Frag} {X : Cx} [g : Good K X] {δ : Sd} {W U : Wd} {a b c e elt tg iter cnd : Expr} {es ifs : List Expr} {pos : Pos} {d d1 d2 : PyData} {rest : List Stmt} {P : Po} {x : Str} {j : Nat} {scope : Scope}
theorem cr_tupE : CallR X (.type "tuple") (rTupE X.K) := fun pins s σ H xs us Q I r h => by
  obtain ⟨b, h⟩ := h
  exact cr_tupB b pins s σ H xs us Q I r h
/-- tuple(e), e run -/
theorem we_toTup {p : Pos} {Post : PyData → Wd → Prop} (ha : WE K X δ e W fun d U => ∃ ds, d = .list ds ∧ ∀ Z, Le U Z → Post (.tuple ds) Z) (hg : Gl X "tuple" := by rfl) (he : starEach [e] X.env = (false, eval e X.env) :: starEach [] X.env := by rfl) : WE K X δ (.Call (.Name "tuple" p) [e] [] pos) W Post := fun σ r Q q =>
  (pe_callTy cr_tupE hg (g.bn "tuple" (by simp)) (by decide +kernel) (pa_cons (pe_w X e) pa_nil he) (by decide) (by decide) he rfl).w (ha σ r _ fun v d U gu rv ⟨ds, e1, p1⟩ => by
    subst e1
    obtain ⟨a, us, rfl, e2, e3⟩ := rv.lst_inv
    exact ⟨isPs ds, a, us, rfl, .inl ⟨by rw [g.hK]; exact U.ex.l e2, fun t o ht ho => q _ _ (U.add t _ ht) (gu.tr (U.add_le ht).g) (add_t ht ho e3) (p1 _ (U.add_le ht))⟩⟩)
/-- x = list(e) -/
theorem wb_newOf (i : Nat) {x : Str} {px p cpos : Pos} {ds : List PyData} (ha : EvE K X δ e W (.list ds)) (h : ∀ U l vs, Le W U → (hl : U.H l = none) → RpL K U.G vs ds → WB K X (δ.set i (some (.v (.ref l)))) rest (U.put l (.lst vs) (U.gnone hl)) P)
    (hN : X.N[i]? = some x := by rfl) (hx : Loc X.env.scope x := by first | exact Or.inl rfl | exact Or.inr rfl) (hg : Gl X "list" := by rfl) (he : starEach [e] X.env = (false, eval e X.env) :: starEach [] X.env := by rfl)
    (hs : swapsWith (.Call (.Name "list" p) [e] [] cpos) (some (.Name x px)) pos.line X.env = pure false := by rfl) (hf : X.fn x = true ∨ X.env.scope.names.lookup x = some .local := by first | exact .inl rfl | exact .inr rfl) : WB K X δ (.Assign [.Name x px] (.Call (.Name "list" p) [e] [] cpos) pos :: rest) W P :=
  wb_cons fun σ r => (ps_set g.nd hN hx (pe_callTy call_list_of hg (g.bn "list" (by simp)) (by decide +kernel) (pa_cons (pe_w X e) pa_nil he) (by decide) (by decide) he rfl) hs hf).w
    (ha W (Le.refl W) σ r _ fun v U lu rv => by
      obtain ⟨a, us, rfl, e2, e3⟩ := rv.lst_inv
      exact ⟨a, us, rfl, .inl (by rw [g.hK]; exact U.ex.l e2), fun l hl => ⟨_, U.put l (.lst us) (U.gnone hl), rfl, SRep.set (s := .v (.ref l)) (r.up lu.g) rfl i, h U l us lu hl e3⟩⟩)
end
def preCl (ds : List PyData) : Prop := ∃ (n : Nat) (ps : List Pr), ds = [.int (n : Int), .list (ps.map pD)] ∧ n ≤ 6 ∧ inN n ps ∧ ps.length ≤ 15
def postCl (ds : List PyData) (d : PyData) : Prop := ∃ (n : Nat) (x : PyData) (qs : List Pr), ds = [.int (n : Int), x] ∧ d = .tuple [.int (n : Int), psD qs] ∧ inN n qs ∧ qs.length < 64
def candB (all : List Pr) (z x i : Nat) : Bool := hasB all ((z : Int), (i : Int)) && !hasB all ((x : Int), (i : Int))
def cand (all : List Pr) (n z x : Nat) : List Pr := ((List.range n).filter fun i => candB all z x i).map fun i : Nat => ((x : Int), (i : Int))
theorem hasB_mem {ps : List Pr} {p : Pr} (h : p ∈ ps) : hasB ps p = true := List.any_eq_true.mpr ⟨p, h, decide_eq_true rfl⟩
theorem cand_ok {all : List Pr} {n z x : Nat} (hx : x < n) : (cand all n z x).Nodup ∧ inN n (cand all n z x) ∧ ∀ p ∈ cand all n z x, p ∉ all := by
  refine ⟨List.pairwise_map.mpr (((List.nodup_range (n := n)).filter _).imp fun h e => h (by have e' := (Prod.mk.inj e).2; omega)), fun p hp => ?_, fun p hp h => ?_⟩
  · obtain ⟨i, hi, rfl⟩ := List.mem_map.mp hp
    have := List.mem_range.mp (List.mem_filter.mp hi).1
    exact ⟨by show (0 : Int) ≤ (x : Int); omega, by show (x : Int) < (n : Int); omega, by show (0 : Int) ≤ (i : Int); omega, by show (i : Int) < (n : Int); omega⟩
  · obtain ⟨i, hi, rfl⟩ := List.mem_map.mp hp
    have z := (List.mem_filter.mp hi).2
    unfold candB at z
    rw [hasB_mem h] at z
    simp at z
section
variable {P : Program} {w : World} {K : PySem.W.Frag} {mg : Str → Option Value} {base : Heap}
theorem c_closed (T : At K mg "_law_closed" s_L_closed) (B : Bn mg) : Cal P w K mg base CX0 1 "_law_closed" p_L_closed (SpQ K preCl postCl) := by
  refine cal_q T b_L_closed sc_L_closed B (fun ds h => ?_) fun f cdv A outer s H E => ?_
  · obtain ⟨n, ps, rfl, _⟩ := h
    rfl
  intro X gX hr W ds h
  obtain ⟨n, ps, rfl, hn, hps, hpl⟩ := h
  refine wb_newOf 2 (ev_v 1) fun U0 l vs0 lu hl rs0 => ?_
  have hW0 : W.H l = none := lu.some hl
  let J := fun (Z : Wd) => ∃ (news : List Pr) (vs : List V), Le W Z ∧ Z.H l = some (.lst vs) ∧ Z.G l = none ∧ RpL K Z.G vs ((ps ++ news).map pD) ∧ news.Nodup ∧ inN n news
  have Jup : ∀ Z Y, Le Z Y → J Z → J Y := fun Z Y l ⟨news, vs, h1, h2, h3, h4, h5, h6⟩ => ⟨news, vs, h1.tr l, l.h _ _ h2, l.fr _ (by rw [h2]; simp) h3, h4.up l.g, h5, h6⟩
  refine wb_for (ei_r1 (ev_v 0) (by omega)) (fun i δ1 Z => (∃ o3 o4 : Option Sl, δ1 = [some (.d (.int (n : Int))), some (.d (.list (ps.map pD))), some (.v (.ref l)), o3, o4, none]) ∧ J Z) (fun Z lz => ⟨⟨none, none, rfl⟩, Jup _ _ lz ⟨[], vs0, Wd.put_le lu hW0, upd_same, U0.gnone hl, by rw [List.append_nil]; exact rs0, List.Pairwise.nil, fun _ h => (List.not_mem_nil h).elim⟩⟩) ?_ ?_
  · rintro z d δ1 V0 hd ⟨⟨o3, o4, rfl⟩, hJ⟩ Z lz
    obtain ⟨hz, rfl⟩ := rngN_at hd
    rw [Int.toNat_natCast] at hz
    have hJ := Jup _ _ lz hJ
    refine ⟨_, _, tg_name 3, ?_⟩
    refine wb_for (ei_r1 (ev_v 0) (by omega)) (fun i δ1 Y => (∃ o4 : Option Sl, δ1 = [some (.d (.int (n : Int))), some (.d (.list (ps.map pD))), some (.v (.ref l)), some (.d (.int (z : Int))), o4, none]) ∧ J Y ∧ Sub Z.G Y.G) (fun Y ly => ⟨⟨o4, rfl⟩, Jup _ _ ly hJ, ly.g⟩) ?_ ?_
    · rintro x d δ1 V1 hd ⟨⟨o4, rfl⟩, hJ, sZ⟩ Y ly
      obtain ⟨hx, rfl⟩ := rngN_at hd
      rw [Int.toNat_natCast] at hx
      obtain ⟨news, vs, h1, h2, h3, h4, h5, h6⟩ := Jup _ _ ly hJ
      have inall : inN n (ps ++ news) := fun p hp => by
        rcases List.mem_append.mp hp with h | h
        · exact hps p h
        · exact h6 p h
      have nlen : news.length ≤ 36 := Nat.le_trans (len_le_nd h5 fun a ha => mem_grid (h6 a ha)) (grid_len hn)
      refine ⟨_, _, tg_name 4, ?_⟩
      refine wb_when (EvT.cast (et_inM 2 h2 h4 (ev_tup (ea_cons (ev_v 4) (ea_cons (ev_v 3) ea_nil))) (pl_plain (pl_pD ((x : Int), (z : Int)))) (pl_plain (pl_psL _))) (has_any _ ((x : Int), (z : Int)))) (fun hq Y2 ly2 => ?_) fun hq Y2 ly2 => ?_
      · have h2' := ly2.h _ _ h2
        have h4' := h4.up ly2.g
        refine wb_ext 2 h2' (we_ev (ev_lcNF [("_law_y", 5)] 5 (fun i => candB (ps ++ news) z x i) (fun i => pD ((x : Int), (i : Int))) (ei_r1 (ev_v 0) (by omega)) (by rw [rngN_len]; omega) ?_ ?_) fun Y3 ly3 => ⟨_, vs, rfl, ly3.h _ _ h2', ?_, ly3.fr _ (by rw [h2']; simp) (ly2.fr _ (by rw [h2]; simp) h3), fun us rus => wb_nil (wb_nil ?_)⟩)
        · intro i d U hd lu s H0 C cl fp gb
          obtain ⟨hi, rfl⟩ := rngN_at hd
          have h2u := lu.h _ _ h2'
          have h4u := h4'.up lu.g
          exact et_w (ew_and (EvT.cast (et_inM 2 h2u h4u (ev_tup (ea_cons (ev_v 3) (ea_cons (ev_v 5) ea_nil))) (pl_plain (pl_pD ((z : Int), (i : Int)))) (pl_plain (pl_psL _))) (has_any _ ((z : Int), (i : Int)))) fun _ => ew_and1 (EvT.cast (et_niM 2 h2u h4u (ev_tup (ea_cons (ev_v 4) (ea_cons (ev_v 5) ea_nil))) (pl_plain (pl_pD ((x : Int), (i : Int)))) (pl_plain (pl_psL _))) (by rw [← has_any _ ((x : Int), (i : Int))]; rfl)))
        · intro i d U hd lu s H0 C cl fp gb hq
          obtain ⟨hi, rfl⟩ := rngN_at hd
          exact ev_tup (ea_cons (ev_v 4) (ea_cons (ev_v 5) ea_nil))
        · have c1 : (List.filter (fun i => candB (ps ++ news) z x i) (List.range (rngN (n : Int).toNat).length)).length ≤ n := by
            have := List.length_filter_le (fun i => candB (ps ++ news) z x i) (List.range (rngN (n : Int).toNat).length)
            rw [rngN_len, Int.toNat_natCast, List.length_range] at this
            rw [rngN_len, Int.toNat_natCast]
            exact this
          rw [h4.len, List.length_map, List.length_append, List.length_map]
          omega
        · rw [rngN_len, Int.toNat_natCast] at rus
          have rus' : RpL K Y3.G us ((cand (ps ++ news) n z x).map pD) := by
            unfold cand
            rw [List.map_map]
            exact rus
          obtain ⟨c1, c2, c3⟩ := cand_ok (all := ps ++ news) (z := z) hx
          refine ⟨ly2.g.tr ly3.g, ⟨some (.d (.int (x : Int))), rfl⟩, ⟨news ++ cand (ps ++ news) n z x, vs ++ us, Wd.put_le ((h1.tr ly2).tr ly3) hW0, upd_same, ly3.fr _ (by rw [h2']; simp) (ly2.fr _ (by rw [h2]; simp) h3), ?_, List.nodup_append.mpr ⟨h5, c1, fun a ha b hb e => c3 b hb (List.mem_append.mpr (.inr (by rw [← e]; exact ha)))⟩, fun p hp => ?_⟩, sZ.tr ((ly.g.tr ly2.g).tr ly3.g)⟩
          · rw [← List.append_assoc, List.map_append]
            exact (h4'.up ly3.g).app rus'
          · rcases List.mem_append.mp hp with h | h
            · exact h6 p h
            · exact c2 p h
      · exact wb_nil ⟨ly2.g, ⟨some (.d (.int (x : Int))), rfl⟩, Jup _ _ ly2 ⟨news, vs, h1, h2, h3, h4, h5, h6⟩, sZ.tr (ly.g.tr ly2.g)⟩
    · rintro δ1 V1 ⟨⟨o4, rfl⟩, hJ, sZ⟩
      exact wb_nil ⟨sZ, ⟨_, _, rfl⟩, hJ⟩
  · rintro δ1 V0 ⟨⟨o3, o4, rfl⟩, news, vs, h1, h2, h3, h4, h5, h6⟩
    have inall : inN n (ps ++ news) := fun p hp => by
      rcases List.mem_append.mp hp with h | h
      · exact hps p h
      · exact h6 p h
    have nlen : news.length ≤ 36 := Nat.le_trans (len_le_nd h5 fun a ha => mem_grid (h6 a ha)) (grid_len hn)
    refine wb_fixD 2 h2 h4 fun F eF sF _ lF _ _ => ?_
    refine wb_retW (we_tup false (wa_cons (we_ev (ev_v 0) fun Z lz => wa_cons (we_toTup (we_sortedSet (ps := ps ++ news) (ev_v 2) (by rw [List.length_append]; omega) (fun p hp => ?_) fun qs Y ly hq hql => ⟨_, rfl, fun Y2 ly2 => wa_nil ⟨rfl, by simp, fun Y3 ly3 => ⟨⟨n, _, qs, rfl, rfl, fun q hq' => inall q (hq q hq'), hql⟩, ((((lF W h1 hW0).tr lz).tr ly).tr ly2).tr ly3⟩⟩⟩)))))
    obtain ⟨b1, b2, b3, b4⟩ := inall p hp
    exact ⟨b1, by omega, b3, by omega⟩
end
end Pk
set_option Elab.async false
set_option linter.all false
set_option maxRecDepth 100000
set_option maxHeartbeats 4000000
namespace Pk
open PySem PySem.Spec L2
open PyProof.Rows hiding St
def tri : Nat → Nat
  | 0 => 0
  | i + 1 => tri i + i
theorem tri6 {n : Nat} (h : n ≤ 6) : tri n ≤ 15 := by
  have : n = 0 ∨ n = 1 ∨ n = 2 ∨ n = 3 ∨ n = 4 ∨ n = 5 ∨ n = 6 := by omega
  rcases this with rfl | rfl | rfl | rfl | rfl | rfl | rfl <;> decide
def isOrd (d : PyData) : Prop := ∃ (n : Nat) (ps : List Pr), d = .tuple [.int (n : Int), psD ps] ∧ n ≤ 6 ∧ inN n ps ∧ ps.length < 64
theorem prs_of {es : List PyData} {n : Int} (h : ∀ e ∈ es, ∃ p : Pr, e = pD p ∧ (0 ≤ p.1 ∧ p.1 < n ∧ 0 ≤ p.2 ∧ p.2 < n)) : ∃ ps : List Pr, es = ps.map pD ∧ inN n ps := by
  induction es with
  | nil => exact ⟨[], rfl, fun _ h => (List.not_mem_nil h).elim⟩
  | cons e es ih =>
    obtain ⟨ps, h1, h2⟩ := ih fun e he => h e (List.mem_cons_of_mem _ he)
    obtain ⟨p, p1, p2⟩ := h e List.mem_cons_self
    refine ⟨p :: ps, by rw [p1, h1] <;> rfl, fun q hq => ?_⟩
    rcases List.mem_cons.mp hq with rfl | hq
    · exact p2
    · exact h2 q hq
section
variable {P : Program} {w : World} {K : PySem.W.Frag} {mg : Str → Option Value} {base : Heap}
theorem c_drawn_order (T : At K mg "_law_drawn_order" s_L_drawn_order) (B : Bn mg) (C1 : Cal P w K mg base CX0 1 "_law_draw" p_L_draw (SpDraw K)) (C2 : Cal P w K mg base CX0 3 "_law_shuffled" p_L_shuffled (SpM K preShuf postShuf 6)) (C3 : Cal P w K mg base CX0 1 "_law_closed" p_L_closed (SpQ K preCl postCl)) : Cal P w K mg base CX0 4 "_law_drawn_order" p_L_drawn_order (SpM K (fun ds => ds = [.int 6]) (fun _ d => isOrd d) 50) := by
  refine cal_m T b_L_drawn_order sc_L_drawn_order B (fun ds h => by rw [h] <;> rfl) fun f cdv A outer s H E => ?_
  intro X gX hr W m M ds h hm hc
  subst h
  have r1 : Room 1 X.A := hr.mono (by omega)
  have r3 : Room 3 X.A := hr.mono (by omega)
  refine wb_asgW 2 (we_callM 0 C1 r1 (wa_ev (ea_cons (ev_add (ev_v 1) ev_int) ea_nil) fun U l => ⟨M, hm.up l, by omega, ⟨6 + 1, rfl, by omega, by omega⟩, fun Y d dz mz ⟨b, i0, e1, e2, i1, i2⟩ => ?_⟩))
  obtain rfl : (6 + 1 : Int) = b := by
    have z := (List.cons.inj e1).1
    injection z
  subst e2
  obtain ⟨n, rfl⟩ : ∃ n : Nat, i0 = (n : Int) := ⟨i0.toNat, by omega⟩
  have hn : n ≤ 6 := by omega
  have dW := ((Dr.refl W).le l).tr dz
  refine wb_asgTW (we_tup true (wa_cons (we_callM 0 C2 r3 (wa_ev (ea_cons (ev_v 2) ea_nil) fun U2 l2 => ⟨M + 1, mz.up l2, by omega, ⟨n, rfl, hn⟩, fun Y2 d2 dz2 mz2 ⟨n', is, e1, e2, hl, hb⟩ => ?_⟩))))
  subst e2
  obtain rfl : n = n' := by
    have z := (List.cons.inj e1).1
    injection z with z
    omega
  refine wa_cons (we_add ev_int fun U3 l3 => we_callM 0 C1 r1 (wa_ev (ea_cons ev_int ea_nil) fun U4 l4 => ⟨M + 1 + 6, (mz2.up l3).up l4, by omega, ⟨3, rfl, by omega, by omega⟩, fun Y4 d4 dz4 mz4 ⟨b, t, e1, e2, t1, t2⟩ => ⟨t, e2, wa_nil ⟨rfl, by simp, fun Y5 l5 => ⟨_, _, tg_tup (tgs_cons (tg_name 3) (tgs_cons (tg_name 4) tgs_nil)) rfl, ?_⟩⟩⟩⟩))
  obtain rfl : (3 : Int) = b := by
    have z := (List.cons.inj e1).1
    injection z
  have dW5 := ((((dW.le l2).tr dz2).le (l3.tr l4)).tr dz4).le l5
  have m5 := mz4.up l5
  refine wb_new 5 fun l hl => ?_
  have hml := m5.ne hl
  have hW0 : W.H l = none := by
    cases z : W.H l with
    | none => rfl
    | some o => exact absurd (by rw [z]; simp) (fun h : W.H l ≠ none => (dW5.some h) hl)
  have mP := m5.putN (o := .lst []) (hg := Y5.gnone hl) hml
  have dP := Wd.put_dr (o := .lst []) (hg := Y5.gnone hl) dW5 hW0
  have hP : (Y5.put l (.lst []) (Y5.gnone hl)).H l = some (.lst []) := upd_same
  have gP : (Y5.put l (.lst []) (Y5.gnone hl)).G l = none := Y5.gnone hl
  generalize (Y5.put l (.lst []) (Y5.gnone hl)) = V9 at mP dP hP gP ⊢
  refine wb_for (ei_r1 (ev_v 2) (by omega)) (fun i δ1 Z => ∃ (o6 : Option Sl) (ps : List Pr) (vs : List V), δ1 = [some (.v (.ref m)), some (.d (.int 6)), some (.d (.int (n : Int))), some (.d (iT is)), some (.d (.int (2 + t))), some (.v (.ref l)), o6, none] ∧
    Dr m W Z ∧ Md Z m (M + 8 + i * 6) ∧ Z.H l = some (.lst vs) ∧ Z.G l = none ∧ RpL K Z.G vs (ps.map pD) ∧ inN n ps ∧ ps.length ≤ tri i) (fun Z lz => ⟨none, [], [], rfl, dP.le lz, by rw [Nat.zero_mul]; exact mP.up lz, lz.h _ _ hP, lz.fr _ (by rw [hP]; simp) gP, .nil, fun _ h => (List.not_mem_nil h).elim, Nat.zero_le _⟩) ?_ ?_
  · rintro i d δ1 V0 hd ⟨o6, ps, vs, rfl, dZ, hM, hvl, hgl, rs, hin, hlen⟩ Z lz
    obtain ⟨hi, rfl⟩ := rngN_at hd
    rw [Int.toNat_natCast] at hi
    have hM' := hM.up lz
    have hvl' := lz.h _ _ hvl
    have hgl' := lz.fr _ (by rw [hvl]; simp) hgl
    refine ⟨_, _, tg_name 6, ?_⟩
    refine wb_ext 5 hvl' (we_lc [("_law_i", 7)] (fun σ r Q q => lc_drawT [("_law_i", 7)] 7 (m := m) (M := M + 8 + i * 6) (c := 1) (fun k => pD (is.getD k 0, is.getD i 0)) hM' (ei_r1 (ev_v (d := .int (i : Int)) 6) (by omega)) (by rw [rngN_len]; omega) ?_ ?_ (by exact fun _ _ _ _ _ _ _ => tg_name _) (by decide) σ r Q fun v d Y gY ⟨es, e1, e2, e3, e4, e5⟩ rv => q v d Y gY ?_ rv))
    · intro k d U hd dU mU s H0 C cl fp gb
      obtain ⟨hk, rfl⟩ := rngN_at hd
      rw [Int.toNat_natCast] at hk
      refine wt_eqI (we_callM 0 C1 r1 (wa_ev (ea_cons (ev_v 4) ea_nil) fun U2 l2 => ⟨M + 8 + i * 6 + k * 1, mU.up l2, by omega, ⟨2 + t, rfl, by omega, by omega⟩, fun Y d dz mz ⟨b, j, e1, e2, _⟩ => ⟨j, e2, fun Z2 lz2 => ⟨(((Dr.refl U).le l2).tr dz).le lz2, by rw [show M + 8 + i * 6 + (k + 1) * 1 = M + 8 + i * 6 + k * 1 + 1 by omega]; exact mz.up lz2⟩⟩⟩)) fun U => ev_int
    · intro k d U hd dU s H0 C cl fp gb
      obtain ⟨hk, rfl⟩ := rngN_at hd
      rw [Int.toNat_natCast] at hk
      exact ev_tup (ea_cons (ev_ix (i := k) (.t _) (ev_v 3) (ev_v 7) (ints_at (by omega))) (ea_cons (ev_ix (i := i) (.t _) (ev_v 3) (ev_v 6) (ints_at (by omega))) ea_nil))
    rw [rngN_len, Int.toNat_natCast] at e2 e3 e5
    have hr2 : Y.H l = some (.lst vs) := e4.h _ _ (fun e => hml e.symm) hvl'
    have hg2 : Y.G l = none := e4.fr _ (by rw [hvl']; simp) hgl'
    have at_ : ∀ k, k < n → 0 ≤ is.getD k 0 ∧ is.getD k 0 < (n : Int) := fun k hk => by
      rw [List.getD_eq_getElem?_getD, List.getElem?_eq_getElem (by omega)]
      exact hb _ (List.getElem_mem _)
    obtain ⟨ps2, q1, q2⟩ := prs_of (es := es) (n := (n : Int)) fun e he => by
      obtain ⟨k, hk, rfl⟩ := e3 e he
      exact ⟨_, rfl, (at_ k (by omega)).1, (at_ k (by omega)).2, (at_ i hi).1, (at_ i hi).2⟩
    have tl : tri i ≤ 15 := tri6 (by omega)
    have l2 : ps2.length ≤ i := by rw [q1, List.length_map] at e2; exact e2
    refine ⟨es, vs, e1, hr2, by rw [rs.len, List.length_map]; omega, hg2, fun us rus => wb_nil ⟨e4.g, some (.d (.int (i : Int))), ps ++ ps2, vs ++ us, rfl, Wd.put_dr ((dZ.le lz).tr e4) hW0, ((e5.more (by omega)).putN hml), upd_same, hg2, ?_, fun p hp => ?_, ?_⟩⟩
    · rw [List.map_append, ← q1]
      exact (rs.up (lz.g.tr e4.g)).app rus
    · rcases List.mem_append.mp hp with h | h
      · exact hin p h
      · exact q2 p h
    · rw [List.length_append]
      show _ ≤ tri i + i
      omega
  · rintro δ1 V0 ⟨o6, ps, vs, rfl, dZ, hM, hvl, hgl, rs, hin, hlen⟩
    rw [rngN_len, Int.toNat_natCast] at hM hlen
    have tl : tri n ≤ 15 := tri6 hn
    refine wb_fixD 5 hvl rs fun F eF sF dF _ mF _ => ?_
    refine wb_retW (we_callQ C3 r1 (ea_cons (ev_v 2) (ea_cons (ev_v 5) ea_nil)) ⟨n, ps, rfl, hn, hin, by omega⟩ fun d Z lz ⟨n', x, qs, e1, e2, q1, q2⟩ => ⟨(dF m W dZ hW0).le lz, ((mF m _ hM hml).up lz).more (by omega), n', qs, e2, ?_, q1, q2⟩)
    have z := (List.cons.inj e1).1
    injection z with z
    omega
end
end Pk
set_option Elab.async false
set_option linter.all false
set_option maxRecDepth 100000
set_option maxHeartbeats 4000000
namespace Pk
open PySem PySem.Spec L2
open PyProof.Rows hiding St
/-- begun: makes m -/
def SpB (K : PySem.W.Frag) : Sp := fun vs H Q _ => ∃ (W : Wd) (a : Addr) (cs : List Int) (k : Nat), W.H = H ∧ vs = [.ref a, .int (k : Int)] ∧ SqL K W.H a (cs.map V.int) ∧ k ≤ 1000 ∧ cs.length ≤ 100000 ∧ ∀ m Z, Le W Z → Md Z m 0 → Q (.ref m) Z.H
theorem merge4 (l s c p : V) : mergeK [] [(kL, l), (kS, s), (kC, c), (kP, p)] = [(kL, l), (kS, s), (kC, c), (kP, p)] := by
  have e1 : putK [] kL l = [(kL, l)] := rfl
  have e2 : putK [(kL, l)] kS s = [(kL, l), (kS, s)] := by
    unfold putK
    rw [if_neg (by rw [List.any_cons, decide_eq_false nLS]; simp)] <;> rfl
  have e3 : putK [(kL, l), (kS, s)] kC c = [(kL, l), (kS, s), (kC, c)] := by
    unfold putK
    rw [if_neg (by rw [List.any_cons, List.any_cons, decide_eq_false nLC, decide_eq_false nSC]; simp)] <;> rfl
  have e4 : putK [(kL, l), (kS, s), (kC, c)] kP p = [(kL, l), (kS, s), (kC, c), (kP, p)] := by
    unfold putK
    rw [if_neg (by rw [List.any_cons, List.any_cons, List.any_cons, decide_eq_false nLP, decide_eq_false nSP, decide_eq_false nCP]; simp)] <;> rfl
  show putK (putK (putK (putK [] kL l) kS s) kC c) kP p = _
  rw [e1, e2, e3, e4]
section
variable {K : PySem.W.Frag} {X : Cx} [g : Good K X] {δ : Sd} {W : Wd} {pos : Pos}
/-- x[lo:hi], len(x) of a list of which only the very value and its items are known -/
theorem ev_slM (i : Nat) {l : Addr} {vs : List V} {ds : List PyData} {y : Str} {py p2 : Pos} {lo hi : Option Expr} {i1 j1 : Option Int} (hl : SqL K W.H l vs) (hr : RpL K W.G vs ds) (hlo : EvO K X δ lo W i1) (hh : EvO K X δ hi W j1) (hix : δ[i]? = some (some (.v (.ref l))) := by rfl) (hN : X.N[i]? = some y := by rfl)
    (hv : Vis X.env.scope y := by first | exact Or.inl rfl | exact Or.inr (Or.inl rfl) | exact Or.inr (Or.inr rfl)) (hd : (y == ("__debug__" : Str)) = false := by decide) (hcd : (y == ("__classdict__" : Str)) = false := by decide) :
    EvE K X δ (.Subscript (.Name y py) (.Slice lo hi none p2) pos) W (.list (cutD ds i1 j1)) := fun U lu σ s Q k => by
  obtain ⟨v, e1, e2⟩ := s.at_ i _ hix
  obtain rfl : v = .ref l := e2
  refine (pe_slice sl_list (pe_var hN hv hd hcd) (po_w lo) (po_w hi)).w ⟨.ref l, e1, (hlo.up lu).run s fun Y l3 => (hh.up (lu.tr l3)).run (s.up l3.g) fun T l4 => ?_⟩
  have lt := (lu.tr l3).tr l4
  rw [g.hK]
  refine ⟨l, vs, rfl, lt.h.l hl, fun t ht => k _ (T.add t _ ht) ((l3.tr l4).tr (T.add_le ht)) (add_l ht ?_)⟩
  unfold cutV cutD
  rw [hr.len]
  exact ((hr.up lt.g).drop _).take _
theorem ev_lenM (i : Nat) {l : Addr} {vs : List V} {y : Str} {py p : Pos} (hl : SqL K W.H l vs) (hix : δ[i]? = some (some (.v (.ref l))) := by rfl) (hN : X.N[i]? = some y := by rfl)
    (hv : Vis X.env.scope y := by first | exact Or.inl rfl | exact Or.inr (Or.inl rfl) | exact Or.inr (Or.inr rfl)) (hd : (y == ("__debug__" : Str)) = false := by decide) (hcd : (y == ("__classdict__" : Str)) = false := by decide) (hg : Gl X "len" := by rfl)
    (he : starEach [.Name y py] X.env = (false, eval (.Name y py) X.env) :: starEach [] X.env := by rfl) :
    EvE K X δ (.Call (.Name "len" p) [.Name y py] [] pos) W (.int vs.length) := fun U lu σ s Q k => by
  obtain ⟨v, e1, e2⟩ := s.at_ i _ hix
  obtain rfl : v = .ref l := e2
  refine (pe_callB call_len_seq hg (g.bn "len" (by simp)) PySem.boot_len (pa_cons (pe_var hN hv hd hcd) pa_nil he) (by decide) (by decide) he rfl).w ⟨.ref l, e1, l, vs, rfl, ?_, k _ U (Le.refl U) (.int _)⟩
  rw [g.hK]
  exact .inl (lu.h.l hl)
end
theorem WB.run_begun {K : PySem.W.Frag} {X : Cx} {δ : Sd} {ss : List Stmt} {W : Wd} {P : Po} (h : WB K X δ ss W P) (σ : L2.St) (r : SRep K W.G σ δ) : wB X ss (P.ends K) σ W.H := h σ r
section
variable {P : Program} {w : World} {K : PySem.W.Frag} {mg : Str → Option Value} {base : Heap}
theorem c_begun (T : At K mg "_law_begun" s_L_begun) (B : Bn mg) : Cal P w K mg base CX0 1 "_law_begun" p_L_begun (SpB K) := by
  obtain ⟨f, fd, h1, F⟩ := T
  refine ⟨f, fd, h1, F.kp, b_L_begun F, F.ok sc_L_begun (fun vs H Q E h => ?_) fun cdv A outer s H vs Q E hr h => ?_⟩
  · obtain ⟨_, a0, cs, k, _, rfl, _⟩ := h
    rfl
  · obtain ⟨W, a0, cs, k, rfl, rfl, hS, hk, hl, q⟩ := h
    refine ⟨_, pb_w _ _, ?_⟩
    have gX : Good K (FX P w K mg base n_L_begun "_law_begun" s_L_begun f cdv A outer s W.H E) := ⟨rfl, rfl, sc_L_begun.nd, hr.mono (Nat.zero_le _), B.bn⟩
    refine wB_imp (D := Po.ends K { nx := fun _ _ => False, rt := fun d U => d = .dict [] ∧ ∃ m kvs Z, U.G = upd (fun _ => none) m (.dK kvs) ∧ Z.H = U.H ∧ Le W Z ∧ Md Z m 0 }) ?_ (fun σ H' ⟨_, _, _, _, z⟩ => z.elim) (fun v H' ⟨d', U, e, rv, e2, m, kvs, Z, eG, eH, lZ, mZ⟩ => ?_) (fun _ _ ⟨_, _, _, _, z⟩ => z) fun _ _ ⟨_, _, _, _, z⟩ => z
    · refine WB.run_begun ?_ _ (srep_startM (m := a0) (ds := [iI k]) (.cons (.int _) .nil))
      refine wb_asg 2 (d := iL (cs.drop k ++ cs.take k)) (EvE.cast (ev_catL (ev_slM 0 hS (RpL.of_ints cs) (eo_some (ev_v 1)) eo_none) (ev_slM 0 hS (RpL.of_ints cs) eo_none (eo_some (ev_v 1))) ?_) ?_) fun U1 l1 => ?_
      · have a1 := cutD_len (cs.map PyData.int) (some (k : Int)) none
        have a2 := cutD_len (cs.map PyData.int) none (some (k : Int))
        rw [List.length_map] at a1 a2
        omega
      · rw [cutD_from, cutD_to]
        show PyData.list _ = PyData.list ((cs.drop k ++ cs.take k).map PyData.int)
        rw [List.map_append, List.map_drop, List.map_take]
      generalize hcells : cs.drop k ++ cs.take k = cells
      have hcl : cells.length ≤ 200000 - 1 := by
        rw [← hcells, List.length_append, List.length_drop, List.length_take]
        omega
      refine wb_setLc 4 [("_law_cell", 3)] fun σ r Q q => lcNF [("_law_cell", 3)] 3 (fun i => decide ((10 ^ 18 : Int) ≤ cells.getD i 0)) (fun i => .int (cells.getD i 0)) (ei_l (ev_v (d := iL cells) 2)) (by rw [List.length_map]; omega) ?_ ?_ (by exact fun _ _ _ _ _ _ _ => tg_name _) (by decide) σ r Q fun v d U2 gY ⟨ed, l2⟩ rv => q v d U2 gY ?_ rv
      · intro i d U hd l s H0 C cl fp gb
        have hi : i < cells.length := by simpa using (List.getElem?_eq_some_iff.mp hd).1
        rw [ints_at hi] at hd
        obtain rfl := Option.some.inj hd
        exact et_ge (ev_v 3) (EvE.cast (ev_pow ev_int ev_int (by decide)) rfl)
      · intro i d U hd l s H0 C cl fp gb hq
        have hi : i < cells.length := by simpa using (List.getElem?_eq_some_iff.mp hd).1
        rw [ints_at hi] at hd
        obtain rfl := Option.some.inj hd
        exact ev_v 3
      rw [List.length_map, filt_range_int cells (fun y => decide ((10 ^ 18 : Int) ≤ y)) PyData.int] at ed
      generalize hgr : cells.filter (fun y => decide ((10 ^ 18 : Int) ≤ y)) = great at ed
      subst ed
      refine wb_asg 5 (ev_add ev_int (ev_v 1)) fun U3 l3 => ?_
      refine wb_for (ei_l (ev_v (d := iL cells) 2)) (fun i δ1 Z => (∃ (o3 : Option Sl) (sd : Int), δ1 = [some (.v (.ref a0)), some (.d (.int (k : Int))), some (.d (iL cells)), o3, some (.d (iL great)), some (.d (.int sd))]) ∧ Le W Z) (fun Z lz => ⟨⟨none, _, rfl⟩, ((l1.tr l2).tr l3).tr lz⟩) ?_ ?_
      · rintro i d δ1 V0 hd ⟨⟨o3, sd, rfl⟩, lw⟩ Z lz
        have hi : i < cells.length := by simpa using (List.getElem?_eq_some_iff.mp hd).1
        rw [ints_at hi] at hd
        obtain rfl := Option.some.inj hd
        refine ⟨_, _, tg_name 3, ?_⟩
        refine wb_asg 5 (ev_mod (ev_toInt (ev_add (ev_mul (ev_v 5) ev_int (.inr (by decide))) (ev_v 3))) ev_int (by decide)) fun Y ly => wb_nil ⟨ly.g, ⟨_, _, rfl⟩, (lw.tr lz).tr ly⟩
      · rintro δ1 V0 ⟨⟨o3, sd, rfl⟩, lw⟩
        refine wb_cons fun σ r => (ps_ret (pe_disp (pps_cons pe_str (pe_w _ _) (pps_cons pe_str (pe_w _ _) (pps_cons pe_str (pe_w _ _) (pps_cons pe_str (pe_w _ _) pps_nil)))) rfl rfl (by simp) (by decide))).w ?_
        intro p hp
        have lp : Le V0 (V0.put p (.dK []) (V0.gnone hp)) := Wd.put_le (Le.refl V0) hp
        have r1 : SRep K (V0.put p (.dK []) (V0.gnone hp)).G σ _ := r
        have hpp : (V0.put p (.dK []) (V0.gnone hp)).H p = some (.dK []) := upd_same
        have gpp : (V0.put p (.dK []) (V0.gnone hp)).G p = none := V0.gnone hp
        show tPairs _ σ (V0.put p (.dK []) (V0.gnone hp)).H _
        generalize (V0.put p (.dK []) (V0.gnone hp)) = V1 at lp r1 hpp gpp ⊢
        refine (show EvE K _ _ _ V1 (.int (great.getD 0 0)) from ?_) V1 (Le.refl V1) σ r1 _ fun x1 Z1 k1 rx1 => ?_
        · refine ev_if (t := !(great.map PyData.int).isEmpty) (et_some (ev_v (d := iL great) 4) (pl_plain (pl_intsL great))) (fun hq => ?_) fun hq => ?_
          · have hg0 : 0 < great.length := by
              cases great with
              | nil => cases hq
              | cons a b => simp
            exact ev_ix (i := 0) (.l _) (ev_v (d := iL great) 4) ev_int (ints_at hg0)
          · cases great with
            | nil => exact ev_int
            | cons a b => cases hq
        refine (show EvE K _ _ _ Z1 (.int sd) from ev_v 5) Z1 (Le.refl Z1) σ (r1.up k1.g) _ fun x2 Z2 k2 rx2 => ?_
        refine (show EvE K _ _ _ Z2 (.list (cells.map PyData.int ++ [.int (53 * (k : Int) + 11)])) from ev_catL (ev_v (d := iL cells) 2) (ev_lst (ea_cons (ev_add (ev_mul ev_int (ev_v 1) (.inl (by decide))) ev_int) ea_nil)) (by rw [List.length_map]; simp; omega)) Z2 (Le.refl Z2) σ (r1.up (k1.g.tr k2.g)) _ fun x3 Z3 k3 rx3 => ?_
        refine (show EvE K _ _ _ Z3 (.int 0) from ev_int) Z3 (Le.refl Z3) σ (r1.up ((k1.g.tr k2.g).tr k3.g)) _ fun x4 Z4 k4 rx4 => ?_
        have k14 := (k1.tr k2).tr (k3.tr k4)
        obtain rfl := rx1.int_inv
        obtain rfl := rx2.int_inv
        obtain rfl := rx4.int_inv
        have hp4 : Z4.H p = some (.dK []) := k14.h _ _ hpp
        have gp4 : Z4.G p = none := k14.fr _ (by rw [hpp]; simp) gpp
        have e53 : cells.map PyData.int ++ [.int (53 * (k : Int) + 11)] = (cells ++ [53 * (k : Int) + 11]).map PyData.int := by rw [List.map_append] <;> rfl
        rw [e53] at rx3
        obtain ⟨c, hc, rfl⟩ : ∃ c, Z3.G c = some (.lst ((cells ++ [53 * (k : Int) + 11]).map V.int)) ∧ x3 = .ref c := by
          cases rx3 with
          | @lst c us _ hb rs =>
            refine ⟨c, ?_, rfl⟩
            rw [hb, rs.ints]
        refine ⟨hp4, [(kL, .int (great.getD 0 0)), (kS, .int sd), (kC, .ref c), (kP, .int 0)], rfl, by simp, ?_⟩
        rw [merge4]
        have hdd : ∀ kvs : List (Key × V), upd (fun _ => none) p (HO.dK kvs) p = some (HO.dK kvs) := fun _ => upd_same
        refine ⟨.dict [], ⟨upd (fun _ => none) p (.dK [(kL, .int (great.getD 0 0)), (kS, .int sd), (kC, .ref c), (kP, .int 0)]), (Z4.put p (.dK [(kL, .int (great.getD 0 0)), (kS, .int sd), (kC, .ref c), (kP, .int 0)]) gp4).H, ?_⟩, rfl, .dct (hdd _), rfl, p, _, Z4.put p (.dK [(kL, .int (great.getD 0 0)), (kS, .int sd), (kC, .ref c), (kP, .int 0)]) gp4, rfl, rfl, ?_, ?_⟩
        · intro a o e
          show upd Z4.H p _ a = some o
          by_cases ha : a = p
          · subst ha
            rw [upd_same] at e ⊢
            exact e
          · rw [upd_ne ha] at e
            cases e
        · have hWp : W.H p = none := by
            cases z : W.H p with
            | none => rfl
            | some o => rw [lw.h _ _ z] at hp; cases hp
          exact Wd.put_le ((lw.tr lp).tr k14) hWp
        · refine ⟨gp4, great.getD 0 0, sd, 0, c, cells ++ [53 * (k : Int) + 11], upd_same, k4.g _ _ hc, by simp, by rw [List.length_append]; simp; omega, by omega, by omega⟩
    · subst e2
      cases rv with
      | @dct a kvs' hb =>
        rw [eG] at hb
        obtain rfl : a = m := by
          by_cases ha : a = m
          · exact ha
          · rw [upd_ne ha] at hb; cases hb
        rw [e, ← eH]
        exact q a Z lZ mZ
end
end Pk
set_option Elab.async false
set_option linter.all false
set_option maxRecDepth 100000
set_option maxHeartbeats 4000000
namespace Pk
open PySem PySem.Spec L2
open PyProof.Rows hiding St
section
variable {K : PySem.W.Frag} {X : Cx} [g : Good K X] {δ : Sd} {W : Wd} {tg iter elt a : Expr} {ifs : List Expr} {scope : Scope} {pos : Pos} {rest : List Stmt} {P : Po}
theorem lc_readG {ti : TI} {kd : Bool} {vs : List Nat} {ds : List PyData} {R : Wd → Wd → Prop} {ok : Addr → Prop} (S : Stp R ok) (hi : ∀ σ, SRep K W.G σ δ → ∀ R : It → Hp → Prop, (∀ J Z, Le W Z → Walk kd K J Z.G ds → R J Z.H) → ti σ W.H R) (hfr : ∀ p, W.H p = none → ok p) (J : Nat → List PyData → Wd → Prop)
    (hput : ∀ i acc (U : Wd) p o (hg : U.G p = none), W.H p = none → J i acc U → J i acc (U.put p o hg)) (hfz : ∀ acc (U : Wd) p o (hh : U.H p = some o), W.H p = none → J ds.length acc U → J ds.length acc (U.frz p o hh)) (hup : ∀ i acc U Z, Le U Z → J i acc U → J i acc Z) (h0 : ∀ U, Le W U → J 0 [] U) (hsz : ds.length < 1000000)
    (hs : ∀ i d acc U, ds[i]? = some d → R W U → J i acc U → Turn1 kd K X δ vs scope tg elt ifs R d U (fun Z => J (i + 1) acc Z) fun e Y => J (i + 1) (acc ++ [e]) Y) :
    ∀ σ, SRep K W.G σ δ → ∀ Q : VK, (∀ v acc U, R W U → J ds.length acc U → Rp K U.G v (.list acc) → Q v U.H) → tLc ti (bG X scope tg) (bTs X scope ifs) (bE X scope elt) vs σ W.H Q := fun σ r Q q => by
  refine hi σ r _ fun It0 Z0 l0 wk => ?_
  intro D hD
  have hWD : W.H D = none := by
    cases z : W.H D with
    | none => rfl
    | some o => rw [l0.h D o z] at hD; cases hD
  -- between two turns: the list at D, outside of what never changes
  refine ⟨fun i m H1 => m = ds.length - i ∧ i ≤ ds.length ∧ ∃ (U : Wd) (us : List V) (acc : List PyData), H1 = U.H ∧ R W U ∧ Sub Z0.G U.G ∧ U.G D = none ∧ U.H D = some (.lst us) ∧ RpL K U.G us acc ∧ acc.length ≤ i ∧ J i acc U,
    ⟨ds.length, by simp, Nat.zero_le _, Z0.put D (.lst []) (Z0.gnone hD), [], [], rfl, S.put (S.le l0) hWD, Sub.rfl', Z0.gnone hD, upd_same, .nil, Nat.le_refl _, hput _ _ _ _ _ _ hWD (h0 Z0 l0)⟩, ?_⟩
  rintro i m H1 ⟨rfl, hle, U, us, acc, rfl, rU, sg, gD, hUD, ra, hacc, j⟩
  obtain ⟨w1, w2⟩ := wk i U sg
  by_cases hlt : i < ds.length
  · obtain ⟨go, yl⟩ := w1 ds[i] (List.getElem?_eq_getElem hlt)
    refine .inr ⟨go, fun H2 => ∃ (U : Wd) (us : List V) (acc : List PyData), H2 = U.H ∧ R W U ∧ Sub Z0.G U.G ∧ U.G D = none ∧ U.H D = some (.lst us) ∧ RpL K U.G us acc ∧ acc.length ≤ i + 1 ∧ J (i + 1) acc U, fun H2 z => ⟨ds.length - (i + 1), by omega, rfl, hlt, z⟩, fun x H2 hy => ?_⟩
    obtain ⟨Z, lz, rfl, rx⟩ := yl x H2 hy
    have sz : Sub W.G Z.G := S.g (S.tr rU (S.le lz))
    obtain ⟨δ2, is, ht, his, hb⟩ := hs i ds[i] acc Z (List.getElem?_eq_getElem hlt) (S.tr rU (S.le lz)) (hup _ _ _ _ lz j)
    have okD : ok D := hfr D hWD
    have hZD : Z.H D = some (.lst us) := lz.h D _ hUD
    have gZD : Z.G D = none := lz.fr D (by rw [hUD]; simp) gD
    intro s H0 C cl fp
    refine ht s H0 C cl fp good_bx Z.G Z.H _ x Z.ex ((r.up sz).wipe vs) rx _ fun σ' r' w' => ⟨(w' vs his).trans (wipe_wipe vs), ?_⟩
    intro s1 H1 C1 cl1 fp1
    refine hb s1 H1 C1 cl1 fp1 good_bx σ' r' _ fun b Z2 g2 ⟨rz, q2⟩ => ?_
    have k2 : Z2.H D = some (.lst us) := S.keep rz D _ okD hZD
    have n2 : Z2.G D = none := S.fr rz D (by rw [hZD]; simp) gZD
    have t2 := S.tr (S.tr rU (S.le lz)) rz
    cases b with
    | false =>
      rw [if_neg (by decide)] at q2 ⊢
      exact ⟨Z2, us, acc, rfl, t2, (sg.tr lz.g).tr g2, n2, k2, ra.up (lz.g.tr g2), by omega, q2⟩
    | true =>
      rw [if_pos rfl] at q2 ⊢
      intro s2 H2 C2 cl2 fp2
      refine q2 s2 H2 C2 cl2 fp2 good_bx σ' (r'.up g2) _ fun v e Y g3 rv ⟨ry, jy⟩ => ?_
      have k3 : Y.H D = some (.lst us) := S.keep ry D _ okD k2
      have n3 : Y.G D = none := S.fr ry D (by rw [k2]; simp) n2
      refine ⟨us, k3, szl (by rw [ra.len]; omega), Y.put D (.lst (us ++ [v])) n3, us ++ [v], acc ++ [e], rfl, S.put (S.tr t2 ry) hWD, ((sg.tr lz.g).tr g2).tr g3, n3, upd_same, (ra.up ((lz.g.tr g2).tr g3)).app (.one rv), by rw [List.length_append, List.length_singleton]; omega, hput _ _ _ _ _ _ hWD jy⟩
  · have e : i = ds.length := by omega
    subst e
    refine .inl ⟨w2 (Nat.le_refl _), ?_⟩
    exact q (.ref D) acc (U.frz D _ hUD) (S.frz rU hWD gD) (hfz _ _ _ _ _ hWD j) (.lst upd_same (ra.up (Wd.frz_g gD)))
/-- an iterable that runs first -/
def WI (K : PySem.W.Frag) (X : Cx) (δ : Sd) (tg iter : Expr) (W : Wd) (Post : List PyData → Wd → Prop) : Prop := ∀ σ, SRep K W.G σ δ → ∀ R : It → Hp → Prop, (∀ J Z ds, Sub W.G Z.G → Walk false K J Z.G ds → Post ds Z → R J Z.H) → wI X tg iter σ W.H R
theorem wi_r1 {p : Pos} {Post : List PyData → Wd → Prop} (h : WE K X δ a W fun d U => ∃ n : Int, d = .int n ∧ (-1000000 ≤ n ∧ n ≤ 1000000) ∧ Post (rngN n.toNat) U) (hg : Gl X "range" := by rfl) (he : starEach [a] X.env = (false, eval a X.env) :: starEach [] X.env := by rfl) : WI K X δ tg (.Call (.Name "range" p) [a] [] pos) W Post := fun σ r R q =>
  (pi_range1 hg (g.bn _ (by simp)) (pa_cons (pe_w X a) pa_nil he) he).w (h σ r _ fun v d Z gz rv ⟨n, e1, e2, e3⟩ => by
    subst e1
    exact ⟨n, by rw [rv.int_inv], by omega, by omega, q _ Z _ gz (by rw [rngN_eq]; exact walk_r 0 _) e3⟩)
theorem lc_drawNW (own : List (Str × Nat)) (j : Nat) {m : Addr} {M L c : Nat} (E : PyData → Prop) (hi : WI K X δ tg iter W fun ds Z => Dr m W Z ∧ Md Z m M ∧ ds.length ≤ L) (hL : L < 1000000)
    (hs : ∀ (i : Nat) d U, i < L → Dr m W U → Md U m (M + i * c) → ∀ s H0 C cl fp, Good K (BX X scope s H0 C cl fp) → WE K (BX X scope s H0 C cl fp) ((wipeD δ (own.map (·.2))).set j (some (.d d))) elt U fun e Y => Dr m U Y ∧ Md Y m (M + (i + 1) * c) ∧ E e)
    (ht : Tg1 K X δ scope tg own j := by exact fun _ _ _ _ _ _ _ => tg_name _) (hj : j ∈ own.map (·.2) := by decide) :
    LcOut K X δ W scope tg iter elt [] (own.map (·.2)) fun d U => ∃ es, d = .list es ∧ es.length ≤ L ∧ (∀ e ∈ es, E e) ∧ Dr m W U ∧ Md U m (M + L * c) := fun σ r Q q => by
  show wI X tg iter σ W.H _
  refine hi σ r _ fun J0 Z ds gz wk ⟨dz, hm, hl⟩ => ?_
  refine lc_readG (kd := false) (ti := fun _ H R => R J0 H) (W := Z) (δ := δ) (tg := tg) (elt := elt) (ifs := []) (scope := scope) (stp_dr m) (fun σ r R k => k J0 Z (Le.refl Z) wk) (fun p hp e => hm.in (by rw [← e]; exact hp)) (fun i acc U => acc.length = i ∧ (∀ e ∈ acc, E e) ∧ Md U m (M + i * c)) (fun i acc U p o hg hp j => ⟨j.1, j.2.1, j.2.2.putN (hm.ne hp)⟩) (fun acc U p o hh hp j => ⟨j.1, j.2.1, j.2.2.frzN (hm.ne hp)⟩) (fun i acc U Z l j => ⟨j.1, j.2.1, j.2.2.up l⟩) (fun U l => ⟨rfl, fun _ h => (List.not_mem_nil h).elim, by rw [Nat.zero_mul]; exact hm.up l⟩) (by omega) (fun i d acc U hd l j => ?_) σ (r.up gz) Q fun v acc U l j rv => ?_
  · have hlt : i < ds.length := (List.getElem?_eq_some_iff.mp hd).1
    refine ⟨_, [_], ht d, fun i h => by rw [List.mem_singleton.mp h]; exact hj, fun s H0 C cl fp gb => wts_nil ⟨(Le.refl U).dr m, ?_⟩⟩
    rw [if_pos rfl]
    intro s H0 C cl fp gb
    refine (hs i d U (by omega) (dz.tr l) j.2.2 s H0 C cl fp gb).imp fun e Y _ ⟨h1, h2, h3⟩ => ⟨h1, ?_, fun e' he' => ?_, h2⟩
    · rw [List.length_append, j.1] <;> rfl
    · rcases List.mem_append.mp he' with h | h
      · exact j.2.1 e' h
      · rw [List.mem_singleton.mp h]; exact h3
  · exact q v _ U (gz.tr l.g) ⟨acc, rfl, by rw [j.1]; exact hl, j.2.1, dz.tr l, j.2.2.more (Nat.add_le_add_left (Nat.mul_le_mul_right c hl) M)⟩ rv
/-- x, y = [], [] -/
theorem wb_new2 (i k : Nat) {x y : Str} {px py pt lp lp2 : Pos} {kt k2 : Nat} {pt2 : Pos} (h : ∀ U l1 l2 hg1 hg2, Le W U → W.H l1 = none → W.H l2 = none → l1 ≠ l2 → WB K X ((δ.set i (some (.v (.ref l1)))).set k (some (.v (.ref l2)))) rest ((U.put l1 (.lst []) hg1).put l2 (.lst []) hg2) P)
    (hi : X.N[i]? = some x := by rfl) (hj : X.N[k]? = some y := by rfl) (hx : Loc X.env.scope x := by first | exact Or.inl rfl | exact Or.inr rfl) (hy : Loc X.env.scope y := by first | exact Or.inl rfl | exact Or.inr rfl)
    (hf : X.fn x = true ∨ X.env.scope.names.lookup x = some .local := by first | exact .inl rfl | exact .inr rfl) (hf2 : X.fn y = true ∨ X.env.scope.names.lookup y = some .local := by first | exact .inl rfl | exact .inr rfl)
    (hs : swapsWithSole [.Tuple [.Name x px, .Name y py] kt pt] (.Tuple [.List [] lp, .List [] lp2] k2 pt2) pos.line X.env = pure false := by rfl) (hw : swappedStores [.Tuple [.Name x px, .Name y py] kt pt] (.Tuple [.List [] lp, .List [] lp2] k2 pt2) X.env = pure none := by rfl)
    (h1 : (assignEach [.Tuple [.Name x px, .Name y py] kt pt] X.env).map (·.2) = [assign (.Tuple [.Name x px, .Name y py] kt pt) X.env] := by rfl)
    (h2 : starEach [.List [] lp, .List [] lp2] X.env = (false, eval (.List [] lp) X.env) :: starEach [.List [] lp2] X.env := by rfl) (h3 : starEach [.List [] lp2] X.env = (false, eval (.List [] lp2) X.env) :: starEach [] X.env := by rfl)
    (hn : (assignEach [.Name x px, .Name y py] X.env).length = ([.Name x px, .Name y py] : List Expr).length := by rfl) (hst : (assignEach [.Name x px, .Name y py] X.env).findIdx? (·.1) = none := by rfl)
    (a1 : (assignEach [.Name x px, .Name y py] X.env).map (·.2) = assign (.Name x px) X.env :: (assignEach [.Name y py] X.env).map (·.2) := by rfl) (a2 : (assignEach [.Name y py] X.env).map (·.2) = assign (.Name y py) X.env :: (assignEach [] X.env).map (·.2) := by rfl) :
    WB K X δ (.Assign [.Tuple [.Name x px, .Name y py] kt pt] (.Tuple [.List [] lp, .List [] lp2] k2 pt2) pos :: rest) W P :=
  wb_cons fun σ r => (ps_asg (pe_tupB false (pa_cons (pe_lst pa_nil) (pa_cons (pe_lst pa_nil) pa_nil h3) h2)) (pg_tup g.calm (pgs_cons (pg_name g.nd hi hx hf) (pgs_cons (pg_name g.nd hj hy hf2) pgs_nil a2) a1) hn hst) hs hw h1).w (by
    refine ⟨Nat.zero_le _, fun p hp => ⟨Nat.zero_le _, fun q hq => ⟨by rw [sizeLine_eq]; simp, fun t o ht ho => ?_⟩⟩⟩
    have ho' : o = .tup [.ref p, .ref q] := ho
    subst ho'
    have hpq : p ≠ q := fun e => by rw [e] at hp hq; rw [upd_same] at hq; cases hq
    have hWq : W.H q = none := by rw [upd_ne (fun e => hpq e.symm)] at hq; exact hq
    have htq : t ≠ q := fun e => by rw [e, upd_same] at ht; cases ht
    have ht2 : upd W.H p (.lst []) t = none := by rw [upd_ne htq] at ht; exact ht
    have htp : t ≠ p := fun e => by rw [e, upd_same] at ht2; cases ht2
    have hWt : W.H t = none := by rw [upd_ne htp] at ht2; exact ht2
    have e : upd (upd (upd W.H p (.lst [])) q (.lst [])) t (.tup [.ref p, .ref q]) = upd (upd (upd W.H t (.tup [.ref p, .ref q])) p (.lst [])) q (.lst []) := by
      funext a
      by_cases h1 : a = t
      · subst h1
        rw [upd_same, upd_ne htq, upd_ne htp, upd_same]
      · rw [upd_ne h1]
        by_cases h2 : a = q
        · subst h2; rw [upd_same, upd_same]
        · rw [upd_ne h2, upd_ne h2]
          by_cases h3 : a = p
          · subst h3; rw [upd_same, upd_same]
          · rw [upd_ne h3, upd_ne h3, upd_ne h1]
    refine ⟨t, [.ref p, .ref q], rfl, .inl (.inl (by rw [e, upd_ne htq, upd_ne htp, upd_same])), rfl, ?_⟩
    have hg1 : (W.add t (.tup [.ref p, .ref q]) hWt).G p = none := by
      show upd W.G t _ p = none
      rw [upd_ne (fun e => htp e.symm)]; exact W.gnone hp
    have hg2 : ((W.add t (.tup [.ref p, .ref q]) hWt).put p (.lst []) hg1).G q = none := by
      show upd W.G t _ q = none
      rw [upd_ne (fun e => htq e.symm)]; exact W.gnone hWq
    refine ⟨_, _, rfl, _, _, rfl, rfl, (((δ.set i (some (.v (.ref p)))).set k (some (.v (.ref q)))) : Sd), ((W.add t (.tup [.ref p, .ref q]) hWt).put p (.lst []) hg1).put q (.lst []) hg2, e, ?_, h _ p q hg1 hg2 (W.add_le hWt) hp hWq hpq⟩
    exact SRep.set (s := .v (.ref q)) (SRep.set (s := .v (.ref p)) (r.up (W.add_le hWt).g) rfl i) rfl k)
end
end Pk
set_option Elab.async false
set_option linter.all false
set_option maxRecDepth 100000
set_option maxHeartbeats 4000000
namespace Pk
open PySem PySem.Spec L2
open PyProof.Rows hiding St
def nL (l : List Nat) : PyData := .list (l.map fun i : Nat => .int (i : Int))
def hereB (ss : List Int) (ps : List Pr) (z : Int) (i : Nat) : Bool := decide (ss.getD i 0 = z) || hasB ps (ss.getD i 0, z)
def hereL (ss : List Int) (ps : List Pr) (z : Nat) : List Nat := (List.range ss.length).filter fun i => hereB ss ps (z : Int) i
def letB (ss : List Int) (ps : List Pr) (e : Int) (hz : List Nat) (k : Nat) : Bool := decide (ss.getD (hz.getD k 0) 0 = e) || hasB ps (ss.getD (hz.getD k 0) 0, e)
theorem hereL_len (ss : List Int) (ps : List Pr) (z : Nat) : (hereL ss ps z).length ≤ ss.length := by
  have := List.length_filter_le (fun i => hereB ss ps (z : Int) i) (List.range ss.length)
  rw [List.length_range] at this
  exact this
theorem hereL_lt {ss : List Int} {ps : List Pr} {z k : Nat} (h : k < (hereL ss ps z).length) : (hereL ss ps z).getD k 0 < ss.length := by
  rw [List.getD_eq_getElem?_getD, List.getElem?_eq_getElem h]
  exact List.mem_range.mp (List.mem_filter.mp (List.getElem_mem h)).1
theorem nL_at {l : List Nat} {k : Nat} (h : k < l.length) : (l.map fun i : Nat => PyData.int (i : Int))[k]? = some (.int ((l.getD k 0 : Nat) : Int)) := by
  rw [List.getElem?_map, List.getElem?_eq_getElem h, List.getD_eq_getElem?_getD, List.getElem?_eq_getElem h] <;> rfl
theorem rmap_at {β : Type} {n z : Nat} {f : Nat → β} (h : z < n) : ((List.range n).map f)[z]? = some (f z) := by
  rw [List.getElem?_map, List.getElem?_range h] <;> rfl
theorem pl_nL (l : List Nat) : Plain (nL l) := pl_list_of (n := 0) fun d hd => by
  obtain ⟨k, _, rfl⟩ := List.mem_map.mp hd
  exact pl_int _ 0
theorem intsD_of {es : List PyData} {n : Int} (h : ∀ e ∈ es, ∃ i, e = .int i ∧ 0 ≤ i ∧ i < n) : ∃ is : List Int, es = is.map PyData.int ∧ ∀ i ∈ is, 0 ≤ i ∧ i < n := by
  induction es with
  | nil => exact ⟨[], rfl, fun _ h => (List.not_mem_nil h).elim⟩
  | cons e es ih =>
    obtain ⟨is, h1, h2⟩ := ih fun e he => h e (List.mem_cons_of_mem _ he)
    obtain ⟨i, p1, p2⟩ := h e List.mem_cons_self
    refine ⟨i :: is, by rw [p1, h1] <;> rfl, fun q hq => ?_⟩
    rcases List.mem_cons.mp hq with rfl | hq
    · exact p2
    · exact h2 q hq
theorem rows_of {es : List PyData} {n : Int} {w : Nat} (h : ∀ e ∈ es, ∃ r, e = iL r ∧ r.length = w ∧ ∀ i ∈ r, 0 ≤ i ∧ i < n) : ∃ dr : Tb, es = dr.map iL ∧ ∀ r ∈ dr, r.length = w ∧ ∀ i ∈ r, 0 ≤ i ∧ i < n := by
  induction es with
  | nil => exact ⟨[], rfl, fun _ h => (List.not_mem_nil h).elim⟩
  | cons e es ih =>
    obtain ⟨is, h1, h2⟩ := ih fun e he => h e (List.mem_cons_of_mem _ he)
    obtain ⟨i, p1, p2⟩ := h e List.mem_cons_self
    refine ⟨i :: is, by rw [p1, h1] <;> rfl, fun q hq => ?_⟩
    rcases List.mem_cons.mp hq with rfl | hq
    · exact p2
    · exact h2 q hq
theorem in_at {is : List Int} {n : Int} (h : ∀ i ∈ is, 0 ≤ i ∧ i < n) {k : Nat} (hk : k < is.length) : 0 ≤ is.getD k 0 ∧ is.getD k 0 < n := by
  rw [List.getD_eq_getElem?_getD, List.getElem?_eq_getElem hk]
  exact h _ (List.getElem_mem hk)
def Tok (T : Tb) : Prop := T.length ≤ 4 ∧ ∃ w, w ≤ 4 ∧ ∀ r ∈ T, r.length = w
def isPatch (d : PyData) : Prop := ∃ (p : Int) (n : Nat) (ps : List Pr) (ss : List Int) (Ts : List Tb), d = .tuple [.int p, .tuple [.int (n : Int), psD ps], iT ss, .tuple (Ts.map tabD)] ∧ p ∈ primes ∧ n ≤ 6 ∧ inN n ps ∧ ps.length < 64 ∧ ss.length = n ∧ Ts.length = ps.length ∧ ∀ T ∈ Ts, Tok T
def prePatch (ds : List PyData) : Prop := ∃ (p : Int) (n : Nat) (ps : List Pr), ds = [.int p, .tuple [.int (n : Int), psD ps], .int 4, .int 3] ∧ p ∈ primes ∧ n ≤ 6 ∧ inN n ps ∧ ps.length < 64
abbrev DP (m : Addr) (p : Int) (n : Nat) (ps : List Pr) (ss es : List Int) (dr : Tb) (o8 o9 o11 o12 o13 o14 o15 o16 o17 o18 o19 o20 o21 : Option Sl) : Sd :=
  [some (.v (.ref m)), some (.d (.int p)), some (.d (.tuple [.int (n : Int), psD ps])), some (.d (.int 4)), some (.d (.int 3)), some (.d (.int (n : Int))), some (.d (iL ss)), some (.d (iL es)), o8, o9, some (.d (.list (dr.map iL))), o11, o12, o13, o14, o15, o16, o17, o18, o19, o20, o21, none, none, none, none]
section
variable {P : Program} {w : World} {K : PySem.W.Frag} {mg : Str → Option Value} {base : Heap}
set_option maxHeartbeats 16000000 in
theorem c_drawn_patch (T : At K mg "_law_drawn_patch" s_L_drawn_patch) (B : Bn mg) (C1 : Cal P w K mg base CX0 1 "_law_draw" p_L_draw (SpDraw K)) (CR : Cal P w K mg base CX0 2 "_law_reduced" p_L_reduced (SpP K R_reduced)) (CL : Cal P w K mg base CX0 1 "_law_leads" p_L_leads (SpP K R_leads)) (CS : Cal P w K mg base CX0 2 "_law_rest" p_L_rest (SpP K R_rest)) (CT : Cal P w K mg base CX0 1 "_law_turned" p_L_turned (SpP K R_turned)) :
    Cal P w K mg base CX0 4 "_law_drawn_patch" p_L_drawn_patch (SpM K prePatch (fun _ d => isPatch d) 30) := by
  refine cal_m T b_L_drawn_patch sc_L_drawn_patch B (fun ds h => ?_) fun f cdv A outer s H E => ?_
  · obtain ⟨p, n, ps, rfl, _⟩ := h
    rfl
  intro X gX hr W m M ds h hm hc
  obtain ⟨p, n, ps, rfl, hp, hn, hps, hpl⟩ := h
  have r1 : Room 1 X.A := hr.mono (by omega)
  have r2 : Room 2 X.A := hr.mono (by omega)
  obtain ⟨hp1, hp13⟩ := primes13 hp
  refine wb_asg 5 (ev_ix (i := 0) (.t _) (ev_v 2) ev_int rfl) fun U0 l0 => ?_
  have m0 := hm.up l0
  have dr0 : Dr m W U0 := (Dr.refl W).le l0
  -- starts
  refine wb_asgW 6 (WE.imp (we_if (t := decide ((0 : Int) < (n : Int))) (Post := fun d U => ∃ ss : List Int, d = iL ss ∧ ss.length ≤ 4 ∧ (∀ i ∈ ss, 0 ≤ i ∧ i < (n : Int)) ∧ Dr m W U ∧ Md U m (M + 5)) (et_gt (ev_v 5) ev_int) (fun ht U l => ?_) fun ht U l => we_ev (ev_lst ea_nil) fun Z lz => ⟨[], rfl, Nat.zero_le _, fun _ h => (List.not_mem_nil h).elim, (dr0.le l).le lz, ((m0.up l).up lz).more (by omega)⟩) fun d U1 gz1 ⟨ss, ess, hsl, hsb, dU1, mU1⟩ => ?_)
  · have hn0 : 0 < n := by have := of_decide_eq_true ht; omega
    refine we_lc [("_law_turn", 22)] fun σ r Q q => lc_drawNW [("_law_turn", 22)] 22 (m := m) (M := M + 1) (L := 4) (c := 1) (fun e => ∃ i, e = .int i ∧ 0 ≤ i ∧ i < (n : Int)) (wi_r1 (we_add ev_int fun U2 l2 => we_callM 0 C1 r1 (wa_ev (ea_cons (ev_v 3) ea_nil) fun U3 l3 => ⟨M, ((m0.up l).up l2).up l3, by omega, ⟨4, rfl, by omega, by omega⟩, fun Y d dz mz ⟨b, i, e1, e2, i1, i2⟩ => ⟨i, e2, 1 + i, rfl, ?_⟩⟩))) (by omega) (fun i d U3 hi dU mU s H0 C cl fp gb => we_callM 0 C1 r1 (wa_ev (ea_cons (ev_v 5) ea_nil) fun U4 l4 => ⟨M + 1 + i * 1, mU.up l4, by omega, ⟨n, rfl, by omega, by omega⟩, fun Y d dz mz ⟨b, t, e1, e2, t1, t2⟩ => ⟨((Dr.refl U3).le l4).tr dz, ?_, t, e2, t1, ?_⟩⟩)) (by exact fun _ _ _ _ _ _ _ => tg_name _) (by decide) σ r Q fun v d U5 gU ⟨es, e1, e2, e3, e4, e5⟩ rv => q v d U5 gU ?_ rv
    · obtain rfl : (4 : Int) = b := by
        have z := (List.cons.inj e1).1
        injection z
      exact ⟨by omega, (((Dr.refl U).le l2).le l3).tr dz, mz, by rw [rngN_len]; omega⟩
    · rw [show M + 1 + (i + 1) * 1 = M + 1 + i * 1 + 1 by omega]; exact mz
    · have z := (List.cons.inj e1).1
      injection z with z
      omega
    · obtain ⟨is, q1, q2⟩ := intsD_of e3
      exact ⟨is, by rw [e1, q1], by rw [q1, List.length_map] at e2; exact e2, q2, (dr0.le l).tr e4, e5.more (by omega)⟩
  subst ess
  -- ends
  refine wb_asgW 7 (WE.imp (we_if (t := decide ((0 : Int) < (n : Int))) (Post := fun d U => ∃ es : List Int, d = iL es ∧ es.length ≤ 3 ∧ (∀ i ∈ es, 0 ≤ i ∧ i < (n : Int)) ∧ Dr m W U ∧ Md U m (M + 9)) (et_gt (ev_v 5) ev_int) (fun ht U l => ?_) fun ht U l => we_ev (ev_lst ea_nil) fun Z lz => ⟨[], rfl, Nat.zero_le _, fun _ h => (List.not_mem_nil h).elim, (dU1.le l).le lz, ((mU1.up l).up lz).more (by omega)⟩) fun d U2 gz2 ⟨es, ees, hel, heb, dU2, mU2⟩ => ?_)
  · have hn0 : 0 < n := by have := of_decide_eq_true ht; omega
    refine we_lc [("_law_turn", 22)] fun σ r Q q => lc_drawNW [("_law_turn", 22)] 22 (m := m) (M := M + 6) (L := 3) (c := 1) (fun e => ∃ i, e = .int i ∧ 0 ≤ i ∧ i < (n : Int)) (wi_r1 (we_callM 0 C1 r1 (wa_ev (ea_cons (ev_add (ev_v 4) ev_int) ea_nil) fun U3 l3 => ⟨M + 5, (mU1.up l).up l3, by omega, ⟨3 + 1, rfl, by omega, by omega⟩, fun Y d dz mz ⟨b, i, e1, e2, i1, i2⟩ => ⟨i, e2, ?_⟩⟩))) (by omega) (fun i d U3 hi dU mU s H0 C cl fp gb => we_callM 0 C1 r1 (wa_ev (ea_cons (ev_v 5) ea_nil) fun U4 l4 => ⟨M + 6 + i * 1, mU.up l4, by omega, ⟨n, rfl, by omega, by omega⟩, fun Y d dz mz ⟨b, t, e1, e2, t1, t2⟩ => ⟨((Dr.refl U3).le l4).tr dz, ?_, t, e2, t1, ?_⟩⟩)) (by exact fun _ _ _ _ _ _ _ => tg_name _) (by decide) σ r Q fun v d U5 gU ⟨es, e1, e2, e3, e4, e5⟩ rv => q v d U5 gU ?_ rv
    · obtain rfl : (3 + 1 : Int) = b := by
        have z := (List.cons.inj e1).1
        injection z
      exact ⟨by omega, ((Dr.refl U).le l3).tr dz, mz, by rw [rngN_len]; omega⟩
    · rw [show M + 6 + (i + 1) * 1 = M + 6 + i * 1 + 1 by omega]; exact mz
    · have z := (List.cons.inj e1).1
      injection z with z
      omega
    · obtain ⟨is, q1, q2⟩ := intsD_of e3
      exact ⟨is, by rw [e1, q1], by rw [q1, List.length_map] at e2; exact e2, q2, (dU1.le l).tr e4, e5.more (by omega)⟩
  subst ees
  -- drawn
  refine wb_asgW 10 (we_lc [("_law_y", 8)] fun σ r Q q => lc_drawN [("_law_y", 8)] 8 (m := m) (M := M + 9) (c := 4) (fun e => ∃ r, e = iL r ∧ r.length = ss.length ∧ ∀ i ∈ r, 0 ≤ i ∧ i < p) mU2 (ei_l (ev_v (d := iL es) 7)) (by rw [List.length_map]; omega) (fun i d U3 hd dU mU s H0 C cl fp gb => ?_) (by exact fun _ _ _ _ _ _ _ => tg_name _) (by decide) σ r Q fun v d U5 gU ⟨rs, e1, e2, e3, e4, e5⟩ rv => q v d U5 gU ?_ rv)
  · have hi : i < es.length := by simpa using (List.getElem?_eq_some_iff.mp hd).1
    refine we_lc [("_law_x", 9)] fun σ r Q q => lc_drawN [("_law_x", 9)] 9 (m := m) (M := M + 9 + i * 4) (c := 1) (fun e => ∃ i, e = .int i ∧ 0 ≤ i ∧ i < p) mU (ei_l (ev_v (d := iL ss) 6)) (by rw [List.length_map]; omega) ?_ (by exact fun _ _ _ _ _ _ _ => tg_name _) (by decide) σ r Q fun v d U6 gU ⟨rs, e1, e2, e3, e4, e5⟩ rv => q v d U6 gU ?_ rv
    · intro k d U4 hd2 dU4 mU4 s H0 C cl fp gb
      have hk : k < ss.length := by simpa using (List.getElem?_eq_some_iff.mp hd2).1
      refine we_callM 0 C1 r1 (wa_ev (ea_cons (ev_v 1) ea_nil) fun U5 l5 => ⟨M + 9 + i * 4 + k * 1, mU4.up l5, by omega, ⟨p, rfl, by omega, by omega⟩, fun Y d dz mz ⟨b, t, e1, e2, t1, t2⟩ => ⟨((Dr.refl U4).le l5).tr dz, ?_, t, e2, t1, ?_⟩⟩)
      · rw [show M + 9 + i * 4 + (k + 1) * 1 = M + 9 + i * 4 + k * 1 + 1 by omega]; exact mz
      · have z := (List.cons.inj e1).1
        injection z with z
        omega
    · obtain ⟨is, q1, q2⟩ := intsD_of e3
      rw [List.length_map] at e2 e5
      exact ⟨e4, e5.more (by omega), is, by rw [e1, q1], by rw [q1, List.length_map] at e2; exact e2, q2⟩
  obtain ⟨dr, q1, hdr⟩ := rows_of e3
  rw [List.length_map] at e2 e5
  have hdl : dr.length = es.length := by rw [q1, List.length_map] at e2; exact e2
  have dU3 := dU2.tr e4
  have mU3 := e5.more (M := M + 21) (by omega)
  obtain rfl : d = .list (dr.map iL) := by rw [e1, q1]
  clear e1 e2 e3 q1 e4 e5 rv gU q
  have hdrow : ∀ {j : Nat}, j < es.length → (dr.map iL)[j]? = some (iL (dr.getD j [])) ∧ (dr.getD j []).length = ss.length ∧ ∀ i ∈ dr.getD j [], 0 ≤ i ∧ i < p := fun {j} hj => by
    have hj' : j < dr.length := by omega
    refine ⟨?_, hdr _ (getD_in hj')⟩
    rw [List.getElem?_map, List.getElem?_eq_getElem hj', List.getD_eq_getElem?_getD, List.getElem?_eq_getElem hj'] <;> rfl
  refine wb_new2 11 12 fun U6 l1 l2 hg1 hg2 lu hl1 hl2 hne => ?_
  rename_i B0
  have lV := Wd.put_le (o := .lst []) (hg := hg2) (Wd.put_le (o := .lst []) (hg := hg1) lu hl1) hl2
  have hV1 : ((U6.put l1 (.lst []) hg1).put l2 (.lst []) hg2).H l1 = some (.lst []) := by
    show upd (upd U6.H l1 _) l2 _ l1 = _
    rw [upd_ne hne, upd_same]
  have hV2 : ((U6.put l1 (.lst []) hg1).put l2 (.lst []) hg2).H l2 = some (.lst []) := upd_same
  have gV1 : ((U6.put l1 (.lst []) hg1).put l2 (.lst []) hg2).G l1 = none := hg1
  have gV2 : ((U6.put l1 (.lst []) hg1).put l2 (.lst []) hg2).G l2 = none := hg2
  generalize ((U6.put l1 (.lst []) hg1).put l2 (.lst []) hg2) = V7 at lV hV1 hV2 gV1 gV2 ⊢
  -- the rows of each spot
  refine wb_for (ei_r1 (ev_v (d := .int (n : Int)) 5) (by omega)) (fun z δ1 Z => ∃ (o13 o14 o15 o16 o17 : Option Sl) (ks : List Tb) (vs1 vs2 : List V), δ1 = DP m p n ps ss es dr none none (some (.v (.ref l1))) (some (.v (.ref l2))) o13 o14 o15 o16 o17 none none none none ∧
    Le _ Z ∧ Z.H l1 = some (.lst vs1) ∧ Z.G l1 = none ∧ Z.H l2 = some (.lst vs2) ∧ Z.G l2 = none ∧ RpL K Z.G vs1 ((List.range z).map fun z => nL (hereL ss ps z)) ∧ RpL K Z.G vs2 (ks.map tabD) ∧ ks.length = z ∧ ∀ j, j < z → Bs p (hereL ss ps j).length (ks.getD j [])) (fun Z lz => ⟨none, none, none, none, none, [], [], [], rfl, lV.tr lz, lz.h _ _ hV1, lz.fr _ (by rw [hV1]; simp) gV1, lz.h _ _ hV2, lz.fr _ (by rw [hV2]; simp) gV2, .nil, .nil, rfl, fun j hj => absurd hj (Nat.not_lt_zero _)⟩) ?_ ?_
  · rintro z d δ1 V0 hd ⟨o13, o14, o15, o16, o17, ks, vs1, vs2, rfl, lB, q1, g1, q2, g2, rs1, rs2, hkl, hks⟩ Z lz
    obtain ⟨hz, rfl⟩ := rngN_at hd
    rw [Int.toNat_natCast] at hz
    refine ⟨_, _, tg_name 13, ?_⟩
    refine wb_app 11 (lz.h _ _ q1) (lz.fr _ (by rw [q1]; simp) g1) (by rw [rs1.len, List.length_map, List.length_range]; omega) (d := nL (hereL ss ps z)) (EvE.cast (ev_lcNF [("_law_i", 14)] 14 (fun i => hereB ss ps (z : Int) i) (fun i => .int (i : Int)) (ei_r1 (ev_len (.l _) (ev_v (d := iL ss) 6)) (by rw [List.length_map]; omega)) (by rw [rngN_len, List.length_map]; omega) ?_ ?_) ?_) fun Y1 v ly1 hgY rv => ?_
    · intro i d U hd lu s H0 C cl fp gb
      obtain ⟨hi, rfl⟩ := rngN_at hd
      rw [List.length_map, Int.toNat_natCast] at hi
      exact et_w (ew_or (u := hasB ps (ss.getD i 0, (z : Int))) (et_eqI (ev_ix (i := i) (.l _) (ev_v (d := iL ss) 6) (ev_v 14) (ints_at hi)) (ev_v 13)) fun _ => ew_or1 (et_inP (ev_ix (i := i) (.l _) (ev_v (d := iL ss) 6) (ev_v 14) (ints_at hi)) (ev_v 13) (ev_ix (i := 1) (.t _) (ev_v (d := .tuple [.int (n : Int), psD ps]) 2) ev_int rfl)))
    · intro i d U hd lu s H0 C cl fp gb hq
      obtain ⟨hi, rfl⟩ := rngN_at hd
      exact ev_v 14
    · rw [rngN_len, List.length_map, Int.toNat_natCast] <;> rfl
    have lYB := (lB.tr lz).tr ly1
    have hw1 : (Y1.put l1 (.lst (vs1 ++ [v])) hgY).H l1 = some (.lst (vs1 ++ [v])) := upd_same
    have hw2 : (Y1.put l1 (.lst (vs1 ++ [v])) hgY).H l2 = some (.lst vs2) := by
      show upd Y1.H l1 _ l2 = _
      rw [upd_ne (fun e => hne e.symm)]
      exact (lz.tr ly1).h _ _ q2
    have gw1 : (Y1.put l1 (.lst (vs1 ++ [v])) hgY).G l1 = none := hgY
    have gw2 : (Y1.put l1 (.lst (vs1 ++ [v])) hgY).G l2 = none := (lz.tr ly1).fr _ (by rw [q2]; simp) g2
    have rw1 : RpL K (Y1.put l1 (.lst (vs1 ++ [v])) hgY).G (vs1 ++ [v]) ((List.range (z + 1)).map fun z => nL (hereL ss ps z)) := by
      rw [List.range_succ, List.map_append]
      exact (rs1.up (lz.tr ly1).g).app (.one rv)
    have rw2 : RpL K (Y1.put l1 (.lst (vs1 ++ [v])) hgY).G vs2 (ks.map tabD) := rs2.up (lz.tr ly1).g
    have lW := Wd.put_le (o := .lst (vs1 ++ [v])) (hg := hgY) lYB hl1
    have sW : Sub Z.G (Y1.put l1 (.lst (vs1 ++ [v])) hgY).G := ly1.g
    generalize (Y1.put l1 (.lst (vs1 ++ [v])) hgY) = V1 at hw1 hw2 gw1 gw2 rw1 rw2 lW sW ⊢
    generalize vs1 ++ [v] = vs1 at hw1 rw1
    have hhl : (hereL ss ps z).length ≤ 4 := Nat.le_trans (hereL_len _ _ _) hsl
    refine wb_new 15 fun l3 hl3 => ?_
    have n13 : l3 ≠ l1 := fun e => by rw [e, hw1] at hl3; cases hl3
    have n23 : l3 ≠ l2 := fun e => by rw [e, hw2] at hl3; cases hl3
    refine wb_for (ei_r1 (ev_len (.l _) (ev_v (d := iL es) 7)) (by rw [List.length_map]; omega)) (fun j δ1 Y => ∃ (o14 o16 o17 : Option Sl) (rows : Tb) (vs3 : List V), δ1 = DP m p n ps ss es dr none none (some (.v (.ref l1))) (some (.v (.ref l2))) (some (.d (.int (z : Int)))) o14 (some (.v (.ref l3))) o16 o17 none none none none ∧
      Le V1 Y ∧ Y.H l3 = some (.lst vs3) ∧ Y.G l3 = none ∧ RpL K Y.G vs3 (rows.map iT) ∧ rows.length ≤ j ∧ ∀ r ∈ rows, Rw p (hereL ss ps z).length r) (fun Y ly => ⟨o14, o16, o17, [], [], rfl, (Wd.put_le (Le.refl V1) hl3).tr ly, ly.h _ _ upd_same, ly.fr _ (by show upd _ _ _ _ ≠ none; rw [upd_same]; simp) (V1.gnone hl3), .nil, Nat.le_refl _, fun _ h => (List.not_mem_nil h).elim⟩) ?_ ?_
    · rintro j d δ1 V2 hd ⟨o14, o16, o17, rows, vs3, rfl, l12, h3, g3, rs3, hrl, hrw⟩ Y ly
      obtain ⟨hj, rfl⟩ := rngN_at hd
      rw [List.length_map, Int.toNat_natCast] at hj
      have l1Y := l12.tr ly
      refine ⟨_, _, tg_name 16, ?_⟩
      refine wb_when (t := decide (es.getD j 0 = (z : Int)) || hasB ps (es.getD j 0, (z : Int))) (et_w (ew_or (u := hasB ps (es.getD j 0, (z : Int))) (et_eqI (ev_ix (i := j) (.l _) (ev_v (d := iL es) 7) (ev_v 16) (ints_at hj)) (ev_v 13)) fun _ => ew_or1 (et_inP (ev_ix (i := j) (.l _) (ev_v (d := iL es) 7) (ev_v 16) (ints_at hj)) (ev_v 13) (ev_ix (i := 1) (.t _) (ev_v (d := .tuple [.int (n : Int), psD ps]) 2) ev_int rfl)))) (fun ht Y2 ly2 => ?_) fun ht Y2 ly2 => ?_
      · have l2Y := l1Y.tr ly2
        refine wb_asg 17 (d := .list (((List.range (hereL ss ps z).length).filter fun k => letB ss ps (es.getD j 0) (hereL ss ps z) k).map fun k => .int (((hereL ss ps z).getD k 0 : Nat) : Int))) (EvE.cast (ev_lcNF [("_law_i", 14)] 14 (fun k => letB ss ps (es.getD j 0) (hereL ss ps z) k) (fun k => .int (((hereL ss ps z).getD k 0 : Nat) : Int)) (ei_l (ds := (hereL ss ps z).map fun i : Nat => .int (i : Int)) (ev_ixM 11 (n := z) (l2Y.h _ _ hw1) (rw1.up l2Y.g) (ev_v 13) (rmap_at (f := fun z => nL (hereL ss ps z)) (by omega)))) (by rw [List.length_map]; omega) ?_ ?_) (by rw [List.length_map])) fun Y3 ly3 => ?_
        · intro k d U hd lu s H0 C cl fp gb
          have hk : k < (hereL ss ps z).length := by simpa using (List.getElem?_eq_some_iff.mp hd).1
          rw [nL_at hk] at hd
          obtain rfl := Option.some.inj hd
          have hk2 := hereL_lt hk
          exact et_w (ew_or (u := hasB ps (ss.getD ((hereL ss ps z).getD k 0) 0, es.getD j 0)) (et_eqI (ev_ix (i := (hereL ss ps z).getD k 0) (.l _) (ev_v (d := iL ss) 6) (ev_v 14) (ints_at hk2)) (ev_ix (i := j) (.l _) (ev_v (d := iL es) 7) (ev_v 16) (ints_at hj))) fun _ => ew_or1 (et_inP (ev_ix (i := (hereL ss ps z).getD k 0) (.l _) (ev_v (d := iL ss) 6) (ev_v 14) (ints_at hk2)) (ev_ix (i := j) (.l _) (ev_v (d := iL es) 7) (ev_v 16) (ints_at hj)) (ev_ix (i := 1) (.t _) (ev_v (d := .tuple [.int (n : Int), psD ps]) 2) ev_int rfl)))
        · intro k d U hd lu s H0 C cl fp gb hq
          have hk : k < (hereL ss ps z).length := by simpa using (List.getElem?_eq_some_iff.mp hd).1
          rw [nL_at hk] at hd
          obtain rfl := Option.some.inj hd
          exact ev_v 14
        have plL : Plain (.list (((List.range (hereL ss ps z).length).filter fun k => letB ss ps (es.getD j 0) (hereL ss ps z) k).map fun k => PyData.int (((hereL ss ps z).getD k 0 : Nat) : Int))) := pl_list_of (n := 0) fun d hd => by
          obtain ⟨k, _, rfl⟩ := List.mem_map.mp hd
          exact pl_int _ 0
        generalize (((List.range (hereL ss ps z).length).filter fun k => letB ss ps (es.getD j 0) (hereL ss ps z) k).map fun k => PyData.int (((hereL ss ps z).getD k 0 : Nat) : Int)) = L at plL
        have l3Y := l2Y.tr ly3
        have hh3 := (ly.tr (ly2.tr ly3)).h _ _ h3
        have hg3 := (ly.tr (ly2.tr ly3)).fr _ (by rw [h3]; simp) g3
        let rowF : Nat → Int := fun k => if (L.any fun z' => PyData.eqv z' (.int (((hereL ss ps z).getD k 0 : Nat) : Int))) = true then (dr.getD j []).getD ((hereL ss ps z).getD k 0) 0 else 0
        refine wb_app 15 hh3 hg3 (by rw [rs3.len, List.length_map]; omega) (d := iT ((List.range (hereL ss ps z).length).map rowF)) (EvE.cast (ev_toTup (.l _) (ev_lcN [("_law_i", 14)] 14 (fun k => .int (rowF k)) (ei_l (ds := (hereL ss ps z).map fun i : Nat => .int (i : Int)) (ev_ixM 11 (n := z) (l3Y.h _ _ hw1) (rw1.up l3Y.g) (ev_v 13) (rmap_at (f := fun z => nL (hereL ss ps z)) (by omega)))) (by rw [List.length_map]; omega) ?_)) ?_) fun Y4 v4 ly4 hg4 rv4 => wb_nil (wb_nil ?_)
        · intro k d U hd lu s H0 C cl fp gb
          have hk : k < (hereL ss ps z).length := by simpa using (List.getElem?_eq_some_iff.mp hd).1
          rw [nL_at hk] at hd
          obtain rfl := Option.some.inj hd
          have hk2 := hereL_lt hk
          obtain ⟨d1, d2, d3⟩ := hdrow hj
          exact ev_if (et_in (.l L) (ev_v 14) (ev_v 17) (pl_plain (n := 1) (pl_int _ 1)) plL) (fun ht => EvE.cast (ev_ix (i := (hereL ss ps z).getD k 0) (.l _) (ev_ix (i := j) (.l _) (ev_v (d := .list (dr.map iL)) 10) (ev_v 16) d1) (ev_v 14) (ints_at (by omega))) (by show _ = PyData.int (rowF k); simp only [rowF]; rw [if_pos ht])) fun ht => EvE.cast ev_int (by show _ = PyData.int (rowF k); simp only [rowF]; rw [if_neg (by rw [ht]; decide)])
        · rw [List.length_map]
          show PyData.tuple _ = PyData.tuple _
          rw [List.map_map] <;> rfl
        · refine ⟨((ly2.tr ly3).tr ly4).g, o14, _, _, rows ++ [(List.range (hereL ss ps z).length).map rowF], vs3 ++ [v4], rfl, Wd.put_le (l3Y.tr ly4) hl3, upd_same, hg4, ?_, by rw [List.length_append, List.length_singleton]; omega, fun r hr => ?_⟩
          · rw [List.map_append]
            exact (rs3.up (((ly.tr (ly2.tr ly3)).tr ly4)).g).app (.one rv4)
          · rcases List.mem_append.mp hr with h | h
            · exact hrw r h
            · rw [List.mem_singleton.mp h]
              refine ⟨by rw [List.length_map, List.length_range], fun x hx => ?_⟩
              obtain ⟨k, hk, rfl⟩ := List.mem_map.mp hx
              have hk := List.mem_range.mp hk
              obtain ⟨d1, d2, d3⟩ := hdrow hj
              simp only [rowF]
              split
              · exact in_at d3 (by have := hereL_lt hk; omega)
              · omega
      · exact wb_nil ⟨ly2.g, o14, _, o17, rows, vs3, rfl, l1Y.tr ly2, (ly.tr ly2).h _ _ h3, (ly.tr ly2).fr _ (by rw [h3]; simp) g3, rs3.up (ly.tr ly2).g, by omega, hrw⟩
    · rintro δ1 V2 ⟨o14, o16, o17, rows, vs3, rfl, l12, h3, g3, rs3, hrl, hrw⟩
      rw [rngN_len, List.length_map, Int.toNat_natCast] at hrl
      refine wb_fixD 15 h3 rs3 fun F eF sF _ lF _ nF => ?_
      have l1F := lF V1 l12 hl3
      refine wb_app 12 (l1F.h _ _ hw2) (l1F.fr _ (by rw [hw2]; simp) gw2) (by rw [rs2.len, List.length_map]; omega) (d := tabD (redA p rows (hereL ss ps z).length).2) (ev_call CR r2 (ea_cons (ev_v (d := .int p) 1) (ea_cons (ev_v (d := .list (rows.map iT)) 15) (ea_cons (EvE.cast (ev_len (.l _) (ev_ixM 11 (n := z) (d := nL (hereL ss ps z)) (l1F.h _ _ hw1) (rw1.up l1F.g) (ev_v 13) (rmap_at (by omega)))) (by rw [List.length_map])) ea_nil))) ⟨p, rows, _, rfl, hp, by omega, by omega, hrw, rfl⟩) fun Y3 v3 ly3 hg3' rv3 => wb_nil ?_
      refine ⟨(sW.tr l1F.g).tr ly3.g, _, _, _, _, _, ks ++ [(redA p rows (hereL ss ps z).length).2], vs1, vs2 ++ [v3], rfl, Wd.put_le ((lW.tr l1F).tr ly3) hl2, ?_, ly3.fr _ (by rw [l1F.h _ _ hw1]; simp) (l1F.fr _ (by rw [hw1]; simp) gw1), upd_same, hg3', rw1.up (l1F.g.tr ly3.g), ?_, by rw [List.length_append, hkl] <;> rfl, fun j hj => ?_⟩
      · show upd Y3.H l2 _ l1 = _
        rw [upd_ne hne]
        exact ly3.h _ _ (l1F.h _ _ hw1)
      · rw [List.map_append]
        exact (rw2.up (l1F.g.tr ly3.g)).app (.one rv3)
      · by_cases hjz : j < z
        · have e : (ks ++ [(redA p rows (hereL ss ps z).length).2]).getD j [] = ks.getD j [] := by rw [List.getD_eq_getElem?_getD, List.getElem?_append_left (by omega), List.getD_eq_getElem?_getD]
          rw [e]
          exact hks j hjz
        · have e0 : j = z := by omega
          subst e0
          have e : (ks ++ [(redA p rows (hereL ss ps j).length).2]).getD j [] = (redA p rows (hereL ss ps j).length).2 := by rw [List.getD_eq_getElem?_getD, List.getElem?_append_right (by omega), hkl, Nat.sub_self] <;> rfl
          rw [e]
          exact red_bs hp (by omega) hrw
  · rintro δ1 V0 ⟨o13, o14, o15, o16, o17, ks, vs1, vs2, rfl, lB, q1, g1, q2, g2, rs1, rs2, hkl, hks⟩
    rw [rngN_len, Int.toNat_natCast] at rs1 hkl hks
    refine wb_fixD 11 q1 rs1 fun F eF sF _ lF _ nF => ?_
    have qF2 : F.H l2 = some (.lst vs2) := by rw [eF]; exact q2
    refine wb_fixD 12 qF2 (rs2.up sF) fun F2 eF2 sF2 _ lF2 _ _ => ?_
    have lB2 := lF2 _ (lF _ lB hl1) hl2
    clear sF lF nF sF2 lF2 eF eF2 q1 q2 rs1 rs2 g1 g2 qF2
    have hksat : ∀ {j : Nat}, j < n → (ks.map tabD)[j]? = some (tabD (ks.getD j [])) := fun {j} hj => by
      have hj' : j < ks.length := by omega
      rw [List.getElem?_map, List.getElem?_eq_getElem hj', List.getD_eq_getElem?_getD, List.getElem?_eq_getElem hj'] <;> rfl
    let frN : Nat → List Nat := fun z => (freeL (ks.getD z []) (hereL ss ps z).length).map fun k => (hereL ss ps z).getD k 0
    have hfl : ∀ z, (frN z).length = (freeL (ks.getD z []) (hereL ss ps z).length).length := fun z => by show (List.map _ _).length = _; rw [List.length_map]
    have hf4 : ∀ z, (frN z).length ≤ 4 := fun z => by
      rw [hfl z]
      have h1 := List.length_filter_le (fun k => !isLead (ks.getD z []) k) (List.range (hereL ss ps z).length)
      rw [List.length_range] at h1
      have h2 := hereL_len ss ps z
      show (List.filter _ _).length ≤ 4
      omega
    refine wb_setLc 18 [("_law_z", 13)] fun σ r Q q => lcN [("_law_z", 13)] 13 (fun z => nL (frN z)) (ei_r1 (ev_v (d := .int (n : Int)) 5) (by omega)) (by rw [rngN_len]; omega) ?_ (by exact fun _ _ _ _ _ _ _ => tg_name _) (by decide) σ r Q fun v d F3 gY ⟨ed, lf3⟩ rv => q v d F3 gY ?_ rv
    · intro z d U hd lu s H0 C cl fp gb
      obtain ⟨hz, rfl⟩ := rngN_at hd
      rw [Int.toNat_natCast] at hz
      have hhl : (hereL ss ps z).length ≤ 4 := Nat.le_trans (hereL_len _ _ _) hsl
      have hB := hks z hz
      refine EvE.cast (ev_lc [("_law_k", 23), ("_law_i", 14)] fun U2 l2 => lc_filterI (fun k => !isLead (ks.getD z []) k) (fun k => .int (((hereL ss ps z).getD k 0 : Nat) : Int)) (ei_enumL (xs := (hereL ss ps z).map fun i : Nat => .int (i : Int)) (ev_ix (i := z) (.l _) (ev_v (d := .list ((List.range n).map fun z => nL (hereL ss ps z))) 11) (ev_v 13) (rmap_at (f := fun z => nL (hereL ss ps z)) hz))) (by rw [enumD_len, List.length_map]; omega) ?_) ?_
      · intro k d U3 hd l3
        obtain ⟨x, hx, rfl⟩ := enumD_at hd
        have hk : k < (hereL ss ps z).length := by simpa using (List.getElem?_eq_some_iff.mp hx).1
        rw [nL_at hk] at hx
        obtain rfl := Option.some.inj hx
        refine ⟨_, _, fun s H0 C cl fp gb => tg_tup (tgs_cons (tg_name 23) (tgs_cons (tg_name 14) tgs_nil)) rfl, fun i hi => by simpa using hi, fun s H0 C cl fp gb => ?_, fun s H0 C cl fp gb hq => ev_v 14⟩
        exact EvT.cast (et_notIn (.l _) (ev_v 23) (ev_call CL r1 (ea_cons (ev_ix (i := z) (.l _) (ev_v (d := .list (ks.map tabD)) 12) (ev_v 13) (hksat hz)) ea_nil) ⟨_, rfl, hB.len, fun r hr => ⟨hB.nz r hr, by rw [(hB.rw_ r hr).l]; omega⟩, rfl⟩) (pl_plain (n := 1) (pl_int _ 1)) (pl_leads _)) (by rw [lead_any])
      · rw [enumD_len, List.length_map]
        show PyData.list _ = PyData.list ((frN z).map _)
        simp only [frN]
        unfold freeL
        rw [List.map_map] <;> rfl
    rw [rngN_len, Int.toNat_natCast] at ed
    subst ed
    have lB3 := lB2.tr lf3
    clear gY rv q r
    refine wb_new 19 fun l4 hl4 => ?_
    have lV4 := Wd.put_le (o := .lst []) (hg := F3.gnone hl4) (Le.refl F3) hl4
    have hV4 : (F3.put l4 (.lst []) (F3.gnone hl4)).H l4 = some (.lst []) := upd_same
    have gV4 : (F3.put l4 (.lst []) (F3.gnone hl4)).G l4 = none := F3.gnone hl4
    generalize (F3.put l4 (.lst []) (F3.gnone hl4)) = V4 at lV4 hV4 gV4 ⊢
    refine wb_for (ei_t (ds := ps.map pD) (ev_ix (i := 1) (.t _) (ev_v (d := .tuple [.int (n : Int), psD ps]) 2) ev_int rfl)) (fun i δ1 Z => ∃ (o8 o9 o14 o20 o21 : Option Sl) (Ts : List Tb) (vs4 : List V), δ1 = DP m p n ps ss es dr o8 o9 (some (.d (.list ((List.range n).map fun z => nL (hereL ss ps z))))) (some (.d (.list (ks.map tabD)))) o13 o14 o15 o16 o17 (some (.d (.list ((List.range n).map fun z => nL (frN z))))) (some (.v (.ref l4))) o20 o21 ∧
      Le F3 Z ∧ Z.H l4 = some (.lst vs4) ∧ Z.G l4 = none ∧ RpL K Z.G vs4 (Ts.map tabD) ∧ Ts.length = i ∧ ∀ T ∈ Ts, Tok T) (fun Z lz => ⟨_, _, _, _, _, [], [], rfl, lV4.tr lz, lz.h _ _ hV4, lz.fr _ (by rw [hV4]; simp) gV4, .nil, rfl, fun _ h => (List.not_mem_nil h).elim⟩) ?_ ?_
    · rintro i d δ1 V0 hd ⟨o8, o9, o14, o20, o21, Ts, vs4, rfl, lF3, h4, g4, rs4, hTl, hTs⟩ Z lz
      have hi : i < ps.length := by simpa using (List.getElem?_eq_some_iff.mp hd).1
      rw [List.getElem?_map, getD_pr hi] at hd
      obtain rfl := Option.some.inj hd
      have hq := hps _ (getD_mem hi)
      generalize ps.getD i (0, 0) = q at hq
      obtain ⟨x, y⟩ := q
      obtain ⟨x0, x1, y0, y1⟩ := hq
      obtain ⟨xn, rfl⟩ : ∃ k : Nat, x = (k : Int) := ⟨x.toNat, by have : 0 ≤ x := x0; omega⟩
      obtain ⟨yn, rfl⟩ : ∃ k : Nat, y = (k : Int) := ⟨y.toNat, by have : 0 ≤ y := y0; omega⟩
      have hx : xn < n := by have : (xn : Int) < (n : Int) := x1; omega
      have hy : yn < n := by have : (yn : Int) < (n : Int) := y1; omega
      have hhl : (hereL ss ps yn).length ≤ 4 := Nat.le_trans (hereL_len _ _ _) hsl
      have hB := hks yn hy
      refine ⟨_, _, tg_tup (tgs_cons (tg_name 9) (tgs_cons (tg_name 8) tgs_nil)) rfl, ?_⟩
      refine wb_new 20 fun l5 hl5 => ?_
      refine wb_for (ei_l (ds := (frN xn).map fun i : Nat => .int (i : Int)) (ev_ix (i := xn) (.l _) (ev_v (d := .list ((List.range n).map fun z => nL (frN z))) 18) (ev_v 9) (rmap_at (f := fun z => nL (frN z)) hx))) (fun k δ1 Y => ∃ (o14 o21 : Option Sl) (cols : Tb) (vs5 : List V), δ1 = DP m p n ps ss es dr (some (.d (.int (yn : Int)))) (some (.d (.int (xn : Int)))) (some (.d (.list ((List.range n).map fun z => nL (hereL ss ps z))))) (some (.d (.list (ks.map tabD)))) o13 o14 o15 o16 o17 (some (.d (.list ((List.range n).map fun z => nL (frN z))))) (some (.v (.ref l4))) (some (.v (.ref l5))) o21 ∧
        Le Z Y ∧ Y.H l5 = some (.lst vs5) ∧ Y.G l5 = none ∧ RpL K Y.G vs5 (cols.map iT) ∧ cols.length = k ∧ ∀ c ∈ cols, c.length = (frN yn).length) (fun Y ly => ⟨o14, o21, [], [], rfl, (Wd.put_le (Le.refl Z) hl5).tr ly, ly.h _ _ upd_same, ly.fr _ (by show upd _ _ _ _ ≠ none; rw [upd_same]; simp) (Z.gnone hl5), .nil, rfl, fun _ h => (List.not_mem_nil h).elim⟩) ?_ ?_
      · rintro k d δ1 V2 hd ⟨o14, o21, cols, vs5, rfl, l12, h5, g5, rs5, hcl, hcs⟩ Y ly
        have hk : k < (frN xn).length := by simpa using (List.getElem?_eq_some_iff.mp hd).1
        rw [nL_at hk] at hd
        obtain rfl := Option.some.inj hd
        generalize (frN xn).getD k 0 = iv
        refine ⟨_, _, tg_name 14, ?_⟩
        let uF : Nat → Int := fun k => if decide (((hereL ss ps yn).getD k 0 : Nat) = ((iv : Nat) : Int)) = true then 1 else 0
        refine wb_asg 21 (d := iT ((List.range (hereL ss ps yn).length).map uF)) (EvE.cast (ev_toTup (.l _) (ev_lcN [("_law_other", 25)] 25 (fun k => .int (uF k)) (ei_l (ds := (hereL ss ps yn).map fun i : Nat => .int (i : Int)) (ev_ix (i := yn) (.l _) (ev_v (d := .list ((List.range n).map fun z => nL (hereL ss ps z))) 11) (ev_v 8) (rmap_at (f := fun z => nL (hereL ss ps z)) hy))) (by rw [List.length_map]; omega) ?_)) ?_) fun Y2 ly2 => ?_
        · intro k d U hd lu s H0 C cl fp gb
          have hk : k < (hereL ss ps yn).length := by simpa using (List.getElem?_eq_some_iff.mp hd).1
          rw [nL_at hk] at hd
          obtain rfl := Option.some.inj hd
          exact ev_if (et_eqI (ev_v 25) (ev_v 14)) (fun ht => EvE.cast ev_int (by show _ = PyData.int (uF k); simp only [uF]; rw [if_pos ht])) fun ht => EvE.cast ev_int (by show _ = PyData.int (uF k); simp only [uF]; rw [if_neg (by rw [ht]; decide)])
        · rw [List.length_map]
          show PyData.tuple _ = PyData.tuple _
          rw [List.map_map] <;> rfl
        have hRw : Rw p (hereL ss ps yn).length ((List.range (hereL ss ps yn).length).map uF) := ⟨by rw [List.length_map, List.length_range], fun x hx => by
          obtain ⟨k, hk, rfl⟩ := List.mem_map.mp hx
          simp only [uF]
          split <;> omega⟩
        refine wb_app 20 ((ly.tr ly2).h _ _ h5) ((ly.tr ly2).fr _ (by rw [h5]; simp) g5) (by rw [rs5.len, List.length_map]; have := hf4 xn; omega) (ev_call CS r2 (ea_cons (ev_v (d := .int p) 1) (ea_cons (ev_ix (i := yn) (.l _) (ev_v (d := .list (ks.map tabD)) 12) (ev_v 8) (hksat hy)) (ea_cons (ev_v (d := iT ((List.range (hereL ss ps yn).length).map uF)) 21) (ea_cons (EvE.cast (ev_len (ds := (hereL ss ps yn).map fun i : Nat => .int (i : Int)) (.l _) (ev_ix (i := yn) (.l _) (ev_v (d := .list ((List.range n).map fun z => nL (hereL ss ps z))) 11) (ev_v 8) (rmap_at (f := fun z => nL (hereL ss ps z)) hy))) (by rw [List.length_map])) ea_nil)))) ⟨p, _, _, (hereL ss ps yn).length, rfl, by omega, hp13, by omega, hB, hRw, rfl⟩) fun Y3 v3 ly3 hg3 rv3 => wb_nil ?_
        refine ⟨(ly2.tr ly3).g, _, _, cols ++ [restF p (ks.getD yn []) ((List.range (hereL ss ps yn).length).map uF) (hereL ss ps yn).length], vs5 ++ [v3], rfl, Wd.put_le (((l12.tr ly).tr ly2).tr ly3) hl5, upd_same, hg3, ?_, by rw [List.length_append, hcl] <;> rfl, fun c hc => ?_⟩
        · rw [List.map_append]
          exact (rs5.up ((ly.tr ly2).tr ly3).g).app (.one rv3)
        · rcases List.mem_append.mp hc with h | h
          · exact hcs c h
          · rw [List.mem_singleton.mp h, hfl yn]
            exact (rest_rw (by omega) hRw).l
      · rintro δ1 V2 ⟨o14, o21, cols, vs5, rfl, l12, h5, g5, rs5, hcl, hcs⟩
        rw [List.length_map] at hcl
        refine wb_fixD 20 h5 rs5 fun G1 eG sG _ lG _ nG => ?_
        have lZG := lG Z l12 hl5
        have fx := hf4 xn
        have fy := hf4 yn
        refine wb_app 19 (lZG.h _ _ (lz.h _ _ h4)) (lZG.fr _ (by rw [lz.h _ _ h4]; simp) (lz.fr _ (by rw [h4]; simp) g4)) (by rw [rs4.len, List.length_map]; omega) (ev_call CT r1 (ea_cons (ev_v (d := .list (cols.map iT)) 20) (ea_cons (EvE.cast (ev_len (ds := (frN xn).map fun i : Nat => .int (i : Int)) (.l _) (ev_ix (i := xn) (.l _) (ev_v (d := .list ((List.range n).map fun z => nL (frN z))) 18) (ev_v 9) (rmap_at (f := fun z => nL (frN z)) hx))) (by rw [List.length_map])) (ea_cons (EvE.cast (ev_len (ds := (frN yn).map fun i : Nat => .int (i : Int)) (.l _) (ev_ix (i := yn) (.l _) (ev_v (d := .list ((List.range n).map fun z => nL (frN z))) 18) (ev_v 8) (rmap_at (f := fun z => nL (frN z)) hy))) (by rw [List.length_map])) ea_nil))) ⟨cols, (frN xn).length, (frN yn).length, rfl, by omega, by omega, by omega, fun r hr => by rw [hcs r hr]; exact Nat.le_refl _, rfl⟩) fun Y3 v3 ly3 hg3 rv3 => wb_nil ?_
        refine ⟨(lZG.tr ly3).g, _, _, _, _, _, Ts ++ [(List.range (frN yn).length).map fun j => (List.range (frN xn).length).map fun i => (cols.getD i []).getD j 0], vs4 ++ [v3], rfl, Wd.put_le (((lF3.tr lz).tr lZG).tr ly3) hl4, upd_same, hg3, ?_, by rw [List.length_append, hTl] <;> rfl, fun T hT => ?_⟩
        · rw [List.map_append]
          exact (rs4.up ((lz.tr lZG).tr ly3).g).app (.one rv3)
        · rcases List.mem_append.mp hT with h | h
          · exact hTs T h
          · rw [List.mem_singleton.mp h]
            refine ⟨by rw [List.length_map, List.length_range]; exact fy, (frN xn).length, fx, fun r hr => ?_⟩
            obtain ⟨j, _, rfl⟩ := List.mem_map.mp hr
            rw [List.length_map, List.length_range]
    · rintro δ1 V0 ⟨o8, o9, o14, o20, o21, Ts, vs4, rfl, lF3, h4, g4, rs4, hTl, hTs⟩
      rw [List.length_map] at hTl
      refine wb_fixD 19 h4 rs4 fun G1 eG sG _ lG _ nG => ?_
      have lFG := lG F3 lF3 hl4
      refine wb_ret (ev_tup (ea_cons (ev_v (d := .int p) 1) (ea_cons (ev_v (d := .tuple [.int (n : Int), psD ps]) 2) (ea_cons (ev_toTup (.l _) (ev_lcN [("_law_one", 24)] 24 (fun z => .int (((frN z).length : Nat) : Int)) (ei_l (ds := (List.range n).map fun z => nL (frN z)) (ev_v 18)) (by rw [List.length_map, List.length_range]; omega) ?_)) (ea_cons (ev_toTup (.l _) (ev_v (d := .list (Ts.map tabD)) 19)) ea_nil))))) fun Y ly => ?_
      · intro z d U hd lu s H0 C cl fp gb
        have hz : z < n := by simpa using (List.getElem?_eq_some_iff.mp hd).1
        rw [rmap_at hz] at hd
        obtain rfl := Option.some.inj hd
        exact EvE.cast (ev_len (ds := (frN z).map fun i : Nat => .int (i : Int)) (.l _) (ev_v 24)) (by rw [List.length_map])
      · have lall := (lB3.tr lFG).tr ly
        refine ⟨dU3.le lall, (mU3.up lall).more (by omega), p, n, ps, (List.range n).map fun z => (((frN z).length : Nat) : Int), Ts, ?_, hp, hn, hps, hpl, by rw [List.length_map, List.length_range], hTl, hTs⟩
        rw [List.length_map, List.length_range]
        show _ = PyData.tuple [_, _, PyData.tuple (List.map PyData.int (List.map _ _)), _]
        rw [List.map_map] <;> rfl
end
end Pk
set_option Elab.async false
set_option linter.all false
set_option maxRecDepth 100000
set_option maxHeartbeats 1000000
namespace Pk
open PySem PySem.Spec L2
open PyProof.Rows hiding St
section
variable {K : PySem.W.Frag} {X : Cx} [g : Good K X] {δ : Sd} {W U : Wd} {a b c e : Expr} {es : List Expr} {pos : Pos} {d : PyData}
theorem ev_dict0 : EvE K X δ (.Dict [] [] pos) W (.dict []) := fun U l σ s Q q => (pe_dnewK (X := X)).w fun p hp => q _ (U.add p (.dK []) hp) (U.add_le hp) (.dct upd_same)
theorem ev_dict33 {i j : Int} {k1 k2} {p1 p2 : Pos} : EvE K X δ (.Dict [some (.Constant (.int i) k1 p1)] [.Constant (.int j) k2 p2] pos) W (.dict []) := fun U l σ s Q q =>
  (pe_disp (X := X) (pps_cons pe_int pe_int pps_nil) rfl rfl (by simp) (by simp)).w fun p hp => ⟨upd_same, [(.inl i, .int j)], rfl, by simp, by
    have e : upd (upd U.H p (.dK [])) p (.dK (mergeK [] [(.inl i, .int j)])) = upd U.H p (.dK (mergeK [] [(.inl i, .int j)])) := by
      funext a
      by_cases h : a = p
      · subst h; rw [upd_same, upd_same]
      · rw [upd_ne h, upd_ne h, upd_ne h]
    show Q _ (upd (upd U.H p (.dK [])) p _)
    rw [e]
    exact q _ (U.add p (.dK (mergeK [] [(.inl i, .int j)])) hp) (U.add_le hp) (.dct upd_same)⟩
/-- displays; the length is told by simp -/
theorem ev_L {ds : List PyData} (h : EvA K X δ es W ds) (hl : ds.length ≤ 1000000 := by (simp; done)) : EvE K X δ (.List es pos) W (.list ds) := ev_lst h hl
theorem ev_T {x1} {ds : List PyData} (h : EvA K X δ es W ds) (hl : ds.length ≤ 1000000 := by (simp; done)) : EvE K X δ (.Tuple es x1 pos) W (.tuple ds) := ev_tup h hl
end
theorem all_nil {Q : PyData → Prop} : ∀ x ∈ ([] : List PyData), Q x := fun _ h => (List.not_mem_nil h).elim
theorem all_cons {Q : PyData → Prop} {d : PyData} {ds : List PyData} (h : Q d) (k : ∀ x ∈ ds, Q x) : ∀ x ∈ d :: ds, Q x := fun x hx => by
  rcases List.mem_cons.mp hx with rfl | hx
  · exact h
  · exact k x hx
theorem all_app {Q : PyData → Prop} {ds es : List PyData} (h : ∀ x ∈ ds, Q x) (k : ∀ x ∈ es, Q x) : ∀ x ∈ ds ++ es, Q x := fun x hx => by
  rcases List.mem_append.mp hx with hx | hx
  · exact h x hx
  · exact k x hx
/-- one of these, as _law_of tells it -/
theorem of_all {Q : PyData → Prop} {L : List PyData} {d : PyData} (h : postOf [.list L] d) (q : ∀ x ∈ L, Q x) : Q d := by
  obtain ⟨x, xs, e1, e2, e3⟩ := h
  obtain rfl := (List.cons.inj e1).1
  cases e2
  exact q _ e3
theorem tameO_pair {n : PyData} {ds : List PyData} (h1 : ds.length ≤ 1000) (h2 : ∀ x ∈ ds, pl 10 x = true) : TameO (.tuple [n, .tuple ds]) := fun n' ds' e => by
  injection e with e
  injection e with _ e
  injection e with e _
  injection e with e
  subst e
  exact ⟨h1, h2⟩
theorem tameO_no {d : PyData} (h : ∀ n ds, d ≠ .tuple [n, .tuple ds]) : TameO d := fun n ds e => absurd e (h n ds)
theorem pl_pD10 (q : Pr) : pl 10 (pD q) = true := pl_up (pl_pD q)
theorem pl_ii (i j : Int) : pl 10 (.tuple [.int i, .int j]) = true := pl_up (pl_ints [i, j])
theorem pl_iiL (i j : Int) : pl 10 (.list [.int i, .int j]) = true := pl_up (pl_intsL [i, j])
theorem pl_oL : pl 10 (.tuple [.int 0, .list [.int 1]]) = true := by decide +kernel
def preOO (ds : List PyData) : Prop := ∃ (n : Nat) (ps : List Pr), ds = [.tuple [.int (n : Int), psD ps]] ∧ n ≤ 6 ∧ inN n ps ∧ ps.length < 64
section
variable {P : Program} {w : World} {K : PySem.W.Frag} {mg : Str → Option Value} {base : Heap}
theorem c_odd_prime (T : At K mg "_law_odd_prime" s_L_odd_prime) (B : Bn mg) (C2 : Cal P w K mg base CX0 2 "_law_of" p_L_of (SpOf K)) : Cal P w K mg base CX0 3 "_law_odd_prime" p_L_odd_prime (SpM K (fun ds => ds = []) (fun _ _ => True) 1) := by
  refine cal_m T b_L_odd_prime sc_L_odd_prime B (fun ds h => by rw [h] <;> rfl) fun f cdv A outer s H E => ?_
  intro X gX hr W m M ds h hm hc
  subst h
  refine wb_retW (we_callM 0 C2 hr (wa_ev (ea_cons (ev_L (ea_cons ev_int (ea_cons ev_int (ea_cons ev_int (ea_cons ev_int (ea_cons ev_int (ea_cons ev_bl (ea_cons ev_non (ea_cons ev_str (ea_cons (ev_neg ev_int) (ea_cons (ev_T (ea_cons ev_int ea_nil)) (ea_cons (ev_L (ea_cons ev_int ea_nil)) (ea_cons ev_dict0 (ea_cons ev_dict33 ea_nil)))))))))))))) ea_nil) fun Z lz => ⟨M, hm.up lz, hc, ⟨_, _, rfl, .l _, by simp, by simp⟩, fun Y d dz mz _ => ⟨((Dr.refl W).le lz).tr dz, mz, trivial⟩⟩))
end
end Pk
set_option Elab.async false
set_option linter.all false
set_option maxRecDepth 100000
set_option maxHeartbeats 1000000
namespace Pk
open PySem PySem.Spec L2
open PyProof.Rows hiding St
section
variable {K : PySem.W.Frag} {X : Cx} [g : Good K X] {δ : Sd} {W : Wd} {c : Expr} {pos : Pos} {rest u : List Stmt} {P : Po}
/-- if c: u; rest, where c runs: J of its answer and the world behind it -/
theorem wb_whenJ (J : Bool → Wd → Prop) (hc : WT K X δ c W J) (h1 : ∀ U, J true U → WB K X δ u U { P with nx := fun δ' Z => WB K X δ' rest Z P }) (h2 : ∀ U, J false U → WB K X δ rest U P) : WB K X δ (.If c u [] pos :: rest) W P :=
  wb_whenW fun σ r Q q => hc σ r Q fun t U gu j => q t U gu (by
    cases t with
    | true => rw [if_pos rfl]; exact h1 U j
    | false => rw [if_neg (by decide)]; exact h2 U j)
end
theorem pl_str (x : Str) (n : Nat) (h : PyData.strOk x = true := by decide +kernel) : pl n (.str x) = true := by
  unfold pl
  simp [PyData.canLay0, PyData.depth, h]
theorem pl_1T {n : Nat} (i : Int) (hn : 1 ≤ n := by decide) : pl n (.tuple [.int i]) = true := pl_up (pl_ints [i]) hn
theorem pl_1L {n : Nat} (i : Int) (hn : 1 ≤ n := by decide) : pl n (.list [.int i]) = true := pl_up (pl_intsL [i]) hn
theorem mem_put {xs : List PyData} {k : Nat} {t x : PyData} (h : x ∈ xs.take k ++ [t] ++ xs.drop (k + 1)) : x ∈ xs ∨ x = t := by
  rcases List.mem_append.mp h with h | h
  · rcases List.mem_append.mp h with h | h
    · exact .inl (List.mem_of_mem_take h)
    · exact .inr (List.mem_singleton.mp h)
  · exact .inl (List.mem_of_mem_drop h)
theorem len_put {xs : List PyData} {k : Nat} {t : PyData} (h : k < xs.length) : (xs.take k ++ [t] ++ xs.drop (k + 1)).length = xs.length := by
  rw [List.length_append, List.length_append, List.length_take, List.length_drop, List.length_singleton]; omega
theorem rep_one (k : Nat) (x : PyData) : (List.replicate k [x]).flatten = List.replicate k x := by
  induction k with
  | zero => rfl
  | succ k ih => rw [List.replicate_succ, List.flatten_cons, ih]; rfl
theorem tameS_t {ds : List PyData} (h1 : ds.length ≤ 1000) (h2 : ∀ x ∈ ds, pl 10 x = true) : TameS (.tuple ds) := fun es e => by
  injection e with e
  subst e
  exact ⟨h1, h2⟩
theorem tameS_no {d : PyData} (h : ∀ ds, d ≠ .tuple ds) : TameS d := fun ds e => absurd e (h ds)
theorem tameS_rep {k : Nat} {x : PyData} (h1 : k ≤ 1000) (h2 : pl 10 x = true) : TameS (.tuple (List.replicate k [x]).flatten) := by
  rw [rep_one]
  exact tameS_t (by rw [List.length_replicate]; exact h1) fun y hy => by rw [(List.mem_replicate.mp hy).2]; exact h2
def preOS (ds : List PyData) : Prop := ∃ ss : List Int, ds = [iT ss] ∧ ss.length ≤ 6
section
variable {P : Program} {w : World} {K : PySem.W.Frag} {mg : Str → Option Value} {base : Heap}
theorem c_odd_order (T : At K mg "_law_odd_order" s_L_odd_order) (B : Bn mg) (C2 : Cal P w K mg base CX0 2 "_law_of" p_L_of (SpOf K)) : Cal P w K mg base CX0 3 "_law_odd_order" p_L_odd_order (SpM K preOO (fun _ d => TameO d) 1) := by
  refine cal_m T b_L_odd_order sc_L_odd_order B (fun ds h => ?_) fun f cdv A outer s H E => ?_
  · obtain ⟨n, ps, rfl, _⟩ := h
    rfl
  intro X gX hr W m M ds h hm hc
  obtain ⟨n, ps, rfl, hn, hin, hpl⟩ := h
  have vP : ∀ {δ : Sd} {U : Wd} {p : Pos}, δ[3]? = some (some (.d (.tuple (ps.map pD)))) → EvE K X δ (.Name "_law_pairs" p) U (.tuple (ps.map pD)) := fun h => ev_v 3 h
  refine wb_asgT (ev_v 1) (tg_tup (tgs_cons (tg_name 2) (tgs_cons (tg_name 3) tgs_nil)) rfl) fun U1 l1 => ?_
  refine wb_asg 4 (ev_L (ea_cons ev_non (ea_cons (ev_v 2) (ea_cons (ev_T (ea_cons (ev_v 2) ea_nil)) (ea_cons (ev_L (ea_cons (ev_v 2) (ea_cons (vP rfl) ea_nil))) (ea_cons (ev_T (ea_cons ev_int (ea_cons (ev_T ea_nil) ea_nil))) (ea_cons (ev_T (ea_cons (ev_v 2) (ea_cons (ev_toLst (.t _) (vP rfl)) ea_nil))) (ea_cons (ev_T (ea_cons (ev_v 2) (ea_cons (ev_revT (vP rfl)) ea_nil))) (ea_cons (ev_T (ea_cons (ev_v 2) (ea_cons (ev_slT (vP rfl) (eo_some ev_int) eo_none) ea_nil))) (ea_cons (ev_T (ea_cons (ev_v 2) (ea_cons (ev_slT (vP rfl) eo_none (eo_some (ev_neg ev_int))) ea_nil))) ea_nil)))))))))) fun U2 l2 => ?_
  refine wb_asg 4 (ev_catL (ev_v 4) (ev_L (ea_cons (ev_T (ea_cons ev_bl (ea_cons (ev_T ea_nil) ea_nil))) (ea_cons (ev_T (ea_cons (ev_v 2) (ea_cons (ev_catT (vP rfl) (ev_slT (vP rfl) (eo_some (ev_neg ev_int)) eo_none) ?_) ea_nil))) (ea_cons (ev_T (ea_cons (ev_v 2) (ea_cons (ev_T (ea_cons (ev_T (ea_cons ev_int (ea_cons ev_int ea_nil))) ea_nil)) ea_nil))) (ea_cons (ev_T (ea_cons (ev_v 2) (ea_cons (ev_T (ea_cons (ev_T (ea_cons ev_int (ea_cons ev_int ea_nil))) (ea_cons (ev_T (ea_cons ev_int (ea_cons ev_int ea_nil))) ea_nil))) ea_nil))) (ea_cons (ev_T (ea_cons (ev_v 2) (ea_cons (ev_T (ea_cons (ev_T (ea_cons ev_int (ea_cons (ev_v 2) ea_nil))) ea_nil)) ea_nil))) (ea_cons (ev_T (ea_cons (ev_v 2) (ea_cons (ev_T (ea_cons ev_int ea_nil)) ea_nil))) ea_nil))))))) (by simp)) fun U3 l3 => ?_
  · have := cutD_len (ps.map pD) (some (-1)) none
    rw [List.length_map] at this ⊢
    omega
  refine wb_retW (we_callM 0 C2 hr (wa_ev (ea_cons (ev_catL (ev_v 4) (ev_L (ea_cons (ev_T (ea_cons (ev_L (ea_cons (ev_v 2) ea_nil)) (ea_cons (ev_T ea_nil) ea_nil))) (ea_cons (ev_T (ea_cons (ev_v 2) (ea_cons (ev_T (ea_cons (ev_L (ea_cons ev_int (ea_cons ev_int ea_nil))) ea_nil)) ea_nil))) (ea_cons (ev_T (ea_cons (ev_v 2) (ea_cons (ev_T (ea_cons (ev_T (ea_cons ev_int (ea_cons (ev_L (ea_cons ev_int ea_nil)) ea_nil))) ea_nil)) ea_nil))) (ea_cons (ev_T (ea_cons (ev_v 2) (ea_cons ev_dict0 ea_nil))) (ea_cons ev_dict0 (ea_cons (ev_T (ea_cons (ev_v 2) (ea_cons (vP rfl) (ea_cons (ev_T ea_nil) ea_nil)))) ea_nil))))))) (by simp)) ea_nil) fun Z lz => ⟨M, hm.up (((l1.tr l2).tr l3).tr lz), hc, ⟨_, _, rfl, .l _, by simp, by simp⟩, fun Y d dz mz pd => ⟨((Dr.refl W).le (((l1.tr l2).tr l3).tr lz)).tr dz, mz, of_all pd ?_⟩⟩))
  have pp : ∀ x ∈ ps.map pD, pl 10 x = true := fun x hx => by
    obtain ⟨q, _, rfl⟩ := List.mem_map.mp hx
    exact pl_pD10 q
  have pc : ∀ lo hi, ∀ x ∈ cutD (ps.map pD) lo hi, pl 10 x = true := fun lo hi x hx => pp x (cutD_mem hx)
  have lc : ∀ lo hi, (cutD (ps.map pD) lo hi).length ≤ 100 := fun lo hi => by
    have := cutD_len (ps.map pD) lo hi
    rw [List.length_map] at this
    omega
  have lp : (ps.map pD).length ≤ 100 := by rw [List.length_map]; omega
  refine all_app (all_app (all_cons (tameO_no (by intro _ _ e; cases e)) (all_cons (tameO_no (by intro _ _ e; cases e)) (all_cons (tameO_no (by intro _ _ e; cases e)) (all_cons (tameO_no (by intro _ _ e; cases e)) (all_cons (tameO_pair (by simp) all_nil) (all_cons (tameO_no (by intro _ _ e; cases e)) (all_cons (tameO_pair (by rw [List.length_reverse]; omega) fun x hx => pp x (List.mem_reverse.mp hx)) (all_cons (tameO_pair (by have := lc (some 1) none; omega) (pc _ _)) (all_cons (tameO_pair (by have := lc none (some (-1)); omega) (pc _ _)) all_nil)))))))))
    (all_cons (tameO_pair (by simp) all_nil) (all_cons (tameO_pair (by have := lc (some (-1)) none; rw [List.length_append]; omega) (all_app pp (pc _ _))) (all_cons (tameO_pair (by simp) (all_cons (pl_ii 0 0) all_nil)) (all_cons (tameO_pair (by simp) (all_cons (pl_ii 0 1) (all_cons (pl_ii 1 0) all_nil))) (all_cons (tameO_pair (by simp) (all_cons (pl_ii 0 n) all_nil)) (all_cons (tameO_pair (by simp) (all_cons (pl_int 0 10) all_nil)) all_nil))))))) ?_
  exact all_cons (tameO_pair (by simp) all_nil) (all_cons (tameO_pair (by simp) (all_cons (pl_iiL 0 1) all_nil)) (all_cons (tameO_pair (by simp) (all_cons pl_oL all_nil)) (all_cons (tameO_no (by intro _ _ e; cases e)) (all_cons (tameO_no (by intro _ _ e; cases e)) (all_cons (tameO_no (by intro _ _ e; cases e)) all_nil)))))
theorem c_odd_sizes (T : At K mg "_law_odd_sizes" s_L_odd_sizes) (B : Bn mg) (C1 : Cal P w K mg base CX0 1 "_law_draw" p_L_draw (SpDraw K)) (C2 : Cal P w K mg base CX0 2 "_law_of" p_L_of (SpOf K)) (CP : Cal P w K mg base CX0 1 "_law_put" p_L_put (SpP K R_put)) : Cal P w K mg base CX0 3 "_law_odd_sizes" p_L_odd_sizes (SpM K preOS (fun _ d => TameS d) 4) := by
  refine cal_m T b_L_odd_sizes sc_L_odd_sizes B (fun ds h => ?_) fun f cdv A outer s H E => ?_
  · obtain ⟨ss, rfl, _⟩ := h
    rfl
  intro X gX hr W m M ds h hm hc
  obtain ⟨ss, rfl, hs⟩ := h
  have r1 : Room 1 X.A := hr.mono (by decide)
  have vS : ∀ {δ : Sd} {U : Wd} {p : Pos}, δ[1]? = some (some (.d (.tuple (ss.map PyData.int)))) → EvE K X δ (.Name "_law_sizes" p) U (.tuple (ss.map PyData.int)) := fun h => ev_v 1 h
  have hlen : (ss.map PyData.int).length = ss.length := List.length_map _
  have pp : ∀ x ∈ ss.map PyData.int, pl 10 x = true := fun x hx => by
    obtain ⟨q, _, rfl⟩ := List.mem_map.mp hx
    exact pl_int q 10
  refine wb_asg 2 (EvE.cast (ev_len (.t _) (vS rfl)) (by rw [hlen])) fun U1 l1 => ?_
  refine wb_whenJ (fun t U => (t = true → 0 < ss.length) ∧ Dr m W U ∧ Md U m (M + 1)) (wt_w (ww_and (t := decide ((0 : Int) < (ss.length : Int))) (et_gt (ev_v 2) ev_int) (fun h1 U l => ⟨fun h => Bool.noConfusion h, (Dr.refl W).le (l1.tr l), (hm.up (l1.tr l)).more (by omega)⟩) fun h1 U l => ww_and1 (wt_eqI (we_callM 0 C1 r1 (wa_ev (ea_cons ev_int ea_nil) fun Z lz => ⟨M, hm.up ((l1.tr l).tr lz), by omega, ⟨2, rfl, by decide, by decide⟩, fun Y d dz mz ⟨b, j, e1, e2, _⟩ => ⟨j, e2, fun Z2 lz2 => ⟨fun _ => by have := of_decide_eq_true h1; omega, (((Dr.refl W).le ((l1.tr l).tr lz)).tr dz).le lz2, mz.up lz2⟩⟩⟩)) fun _ => ev_int))) (fun U ⟨h0, dU, mU⟩ => ?_) fun U ⟨_, dU, mU⟩ => ?_
  · have hn : 0 < ss.length := h0 rfl
    refine wb_asgW 3 (we_callM 0 C1 r1 (wa_ev (ea_cons (ev_v 2) ea_nil) fun Z lz => ⟨M + 1, mU.up lz, by omega, ⟨(ss.length : Int), rfl, by omega, by omega⟩, fun Y d dz mz ⟨b, k, e1, e2, k0, k1⟩ => ?_⟩))
    have eb := (List.cons.inj e1).1
    injection eb with eb
    have hk : k.toNat < ss.length := by omega
    rw [e2, toNat_int k0]
    refine wb_retW (we_callP CP r1 (wa_cons (we_ev (vS rfl) fun V1 lv1 => wa_cons (we_ev (ev_v 3) fun V2 lv2 => wa_cons (we_callM 0 C2 (hr.mono (by decide)) (wa_ev (ea_cons (ev_L (ea_cons ev_int (ea_cons (ev_neg ev_int) (ea_cons ev_bl (ea_cons ev_non (ea_cons ev_str (ea_cons (ev_L (ea_cons ev_int ea_nil)) (ea_cons (ev_T (ea_cons ev_int ea_nil)) (ea_cons (ev_add (ev_ix (i := k.toNat) (.t _) (vS rfl) (ev_v 3) (ints_at hk)) ev_int) ea_nil))))))))) ea_nil) fun Z2 lz2 => ⟨M + 1 + 1, mz.up ((lv1.tr lv2).tr lz2), by omega, ⟨_, _, rfl, .l _, by simp, by simp⟩, fun Y2 d2 dz2 mz2 pd => wa_nil ⟨_, ⟨ss.map PyData.int, k.toNat, d2, rfl, by rw [hlen]; omega, rfl⟩, fun V lv => ⟨((((dU.le lz).tr dz).le ((lv1.tr lv2).tr lz2)).tr dz2).le lv, (mz2.up lv).more (by omega), ?_⟩⟩⟩))))))
    have q2 : pl 10 d2 = true := of_all (Q := fun x => pl 10 x = true) pd (all_cons (pl_int _ _) (all_cons (pl_int _ _) (all_cons (pl_bool _ _) (all_cons (pl_none _) (all_cons (pl_str _ _) (all_cons (pl_1L 0) (all_cons (pl_1T 1) (all_cons (pl_int _ _) all_nil))))))))
    refine tameS_t (by rw [len_put (by rw [hlen]; exact hk), hlen]; omega) fun x hx => ?_
    rcases mem_put hx with hx | rfl
    · exact pp x hx
    · exact q2
  · have rep : ∀ {a : Expr} {x : PyData} {δ : Sd} {V : Wd} {p q : Pos}, EvE K X δ a V (.tuple [x]) → δ[2]? = some (some (.d (.int (ss.length : Int)))) → EvE K X δ (.BinOp a .Mult (.Name "_law_n" q) p) V (.tuple (List.replicate (ss.length : Int).toNat [x]).flatten) := fun h h2 => ev_mulT h (ev_v 2 h2) (by simp) (by omega) (by omega) (by simp)
    have ht : (ss.length : Int).toNat ≤ 1000 := by omega
    refine wb_retW (we_callM 0 C2 (hr.mono (by decide)) (wa_ev (ea_cons (ev_L (ea_cons ev_non (ea_cons (ev_toLst (.t _) (vS rfl)) (ea_cons (ev_catT (vS rfl) (ev_T (ea_cons ev_int ea_nil)) ?_) (ea_cons (ev_slT (vS rfl) (eo_some ev_int) eo_none) (ea_cons (rep (ev_T (ea_cons ev_int ea_nil)) rfl) (ea_cons (rep (ev_T (ea_cons ev_int ea_nil)) rfl) (ea_cons (rep (ev_T (ea_cons (ev_neg ev_int) ea_nil)) rfl) (ea_cons (rep (ev_T (ea_cons ev_bl ea_nil)) rfl) (ea_cons ev_int (ea_cons ev_dict0 ea_nil))))))))))) ea_nil) fun Z lz => ⟨M + 1, mU.up lz, by omega, ⟨_, _, rfl, .l _, by simp, by simp⟩, fun Y d dz mz pd => ⟨(dU.le lz).tr dz, mz.more (by omega), of_all pd ?_⟩⟩))
    · rw [hlen, List.length_singleton]; omega
    exact all_cons (tameS_no (by intro _ e; cases e)) (all_cons (tameS_no (by intro _ e; cases e)) (all_cons (tameS_t (by rw [List.length_append, hlen, List.length_singleton]; omega) (all_app pp (all_cons (pl_int _ _) all_nil))) (all_cons (tameS_t (by have := cutD_len (ss.map PyData.int) (some 1) none; omega) fun x hx => pp x (cutD_mem hx)) (all_cons (tameS_rep ht (pl_int _ _)) (all_cons (tameS_rep ht (pl_int _ _)) (all_cons (tameS_rep ht (pl_int _ _)) (all_cons (tameS_rep ht (pl_bool _ _)) (all_cons (tameS_no (by intro _ e; cases e)) (all_cons (tameS_no (by intro _ e; cases e)) all_nil)))))))))
end
end Pk
set_option Elab.async false
set_option linter.all false
set_option maxRecDepth 100000
set_option maxHeartbeats 2000000
namespace Pk
open PySem PySem.Spec L2
open PyProof.Rows hiding St
/-- a line of a bent table, a bent table -/
def LineOk (l : PyData) : Prop := pl 9 l = true ∧ ∀ es, l = .tuple es → es.length ≤ 1000
def TabOk (d : PyData) : Prop := pl 11 d = true ∧ TameTab d
theorem line_t {ds : List PyData} (h1 : ds.length ≤ 1000) (h2 : ∀ x ∈ ds, pl 8 x = true) : LineOk (.tuple ds) := ⟨pl_tuple h2, fun es e => by injection e with e; subst e; exact h1⟩
theorem line_no {d : PyData} (h1 : pl 9 d = true) (h : ∀ ds, d ≠ .tuple ds) : LineOk d := ⟨h1, fun es e => absurd e (h es)⟩
theorem line_iT {r : List Int} (h : r.length ≤ 1000) : LineOk (iT r) := ⟨pl_up (pl_ints r), fun es e => by injection e with e; subst e; rw [List.length_map]; exact h⟩
theorem tab_t {ls : List PyData} (h1 : ls.length ≤ 1000) (h2 : ∀ l ∈ ls, LineOk l) : TabOk (.tuple ls) := ⟨pl_up (pl_tuple (n := 9) fun l hl => (h2 l hl).1), fun es e => by
  injection e with e
  subst e
  exact ⟨h1, fun l hl => ⟨pl_up (h2 l hl).1, (h2 l hl).2⟩⟩⟩
theorem tab_no {d : PyData} (h1 : pl 11 d = true) (h : ∀ ds, d ≠ .tuple ds) : TabOk d := ⟨h1, fun es e => absurd e (h es)⟩
theorem tok_row {T : Tb} (h : Tok T) {r : List Int} (hr : r ∈ T) : r.length ≤ 4 := by
  obtain ⟨_, w, hw, k⟩ := h
  rw [k r hr]; exact hw
theorem tok_lines {T : Tb} (h : Tok T) : ∀ l ∈ T.map iT, LineOk l := fun l hl => by
  obtain ⟨r, hr, rfl⟩ := List.mem_map.mp hl
  exact line_iT (by have := tok_row h hr; omega)
theorem tab_tok {T : Tb} (h : Tok T) : TabOk (tabD T) := tab_t (by rw [List.length_map]; have := h.1; omega) (tok_lines h)
theorem pl_emptyT (n : Nat) : pl (n + 1) (.tuple []) = true := pl_tuple all_nil
theorem pl_rowI {n : Nat} (r : List Int) (hn : 1 ≤ n := by decide) : pl n (iT r) = true := pl_up (pl_ints r) hn
theorem pl_intsM (r : List Int) (n : Nat) : ∀ x ∈ r.map PyData.int, pl n x = true := fun x hx => by
  obtain ⟨q, _, rfl⟩ := List.mem_map.mp hx
  exact pl_int q n
theorem line_nine : LineOk (.tuple (List.replicate (9 : Int).toNat [PyData.int 0]).flatten) := by
  rw [rep_one]
  exact line_t (by rw [List.length_replicate]; decide) fun y hy => by rw [(List.mem_replicate.mp hy).2]; exact pl_int _ _
theorem cells_of {T : Tb} {j : Nat} {r : List Int} (h : Tok T) (hr : r ∈ T) (hj : j < (T.getD 0 []).length) (h0 : 0 < T.length) : j < r.length := by
  obtain ⟨_, w, hw, k⟩ := h
  rw [k r hr]
  rw [k _ (getD_in h0)] at hj
  exact hj
def preBT (ds : List PyData) : Prop := ∃ (p : Int) (T : Tb), ds = [.int p, tabD T] ∧ p ∈ primes ∧ Tok T
theorem prime_rng {p : Int} (h : p ∈ primes) : 2 ≤ p ∧ p ≤ 13 := by
  simp only [primes, List.mem_cons, List.not_mem_nil, or_false] at h
  omega
section
variable {P : Program} {w : World} {K : PySem.W.Frag} {mg : Str → Option Value} {base : Heap}
theorem c_bent_table (T : At K mg "_law_bent_table" s_L_bent_table) (B : Bn mg) (C1 : Cal P w K mg base CX0 1 "_law_draw" p_L_draw (SpDraw K)) (C2 : Cal P w K mg base CX0 2 "_law_of" p_L_of (SpOf K)) (CP : Cal P w K mg base CX0 1 "_law_put" p_L_put (SpP K R_put)) : Cal P w K mg base CX0 3 "_law_bent_table" p_L_bent_table (SpM K preBT (fun _ d => TabOk d) 6) := by
  refine cal_m T b_L_bent_table sc_L_bent_table B (fun ds h => ?_) fun f cdv A outer s H E => ?_
  · obtain ⟨p, T0, rfl, _⟩ := h
    rfl
  intro X gX hr W m M ds h hm hc
  obtain ⟨p, T0, rfl, hp, hT⟩ := h
  have hpp := prime_rng hp
  have r1 : Room 1 X.A := hr.mono (by decide)
  have r2 : Room 2 X.A := hr.mono (by decide)
  have hl4 := hT.1
  have hlen : (T0.map iT).length = T0.length := List.length_map _
  have vT : ∀ {δ : Sd} {U : Wd} {q : Pos}, δ[2]? = some (some (.d (.tuple (T0.map iT)))) → EvE K X δ (.Name "_law_table" q) U (.tuple (T0.map iT)) := fun h => ev_v 2 h
  have lT : ∀ {δ : Sd} {U : Wd} {q q2 q3 : Pos}, δ[2]? = some (some (.d (.tuple (T0.map iT)))) → EvE K X δ (.Call (.Name "len" q3) [.Name "_law_table" q] [] q2) U (.int (T0.length : Int)) := fun h => EvE.cast (ev_len (.t _) (vT h)) (by rw [hlen])
  refine wb_asgW 3 (we_callM 0 C2 r2 (wa_ev (ea_cons (ev_L (ea_cons ev_non (ea_cons (ev_toLst (.t _) (vT rfl)) (ea_cons (ev_catT (vT rfl) (ev_T (ea_cons (ev_T ea_nil) ea_nil)) ?_) (ea_cons (ev_slT (vT rfl) (eo_some ev_int) eo_none) (ea_cons (ev_catT (vT rfl) (ev_slT (vT rfl) eo_none (eo_some ev_int)) ?_) (ea_cons ev_int (ea_cons (ev_mulT (ev_T (ea_cons (ev_mulT (ev_T (ea_cons ev_int ea_nil)) ev_int (by simp) (by decide) (by decide) (by simp)) ea_nil)) (lT rfl) (by simp) (by omega) (by omega) (by simp)) ea_nil)))))))) ea_nil) fun Z lz => ⟨M, hm.up lz, by omega, ⟨_, _, rfl, .l _, by simp, by simp⟩, fun Y odd dz mz pd => ?_⟩))
  · rw [hlen]; simp; omega
  · have := cutD_len (T0.map iT) none (some 1)
    omega
  have qo : TabOk odd := of_all pd (all_cons (tab_no (pl_none _) (by intro _ e; cases e)) (all_cons (tab_no (pl_up (pl_list (n := 9) fun l hl => (tok_lines hT l hl).1)) (by intro _ e; cases e)) (all_cons (tab_t (by rw [List.length_append, hlen]; simp; omega) (all_app (tok_lines hT) (all_cons (line_t (by simp) all_nil) all_nil))) (all_cons (tab_t (by have := cutD_len (T0.map iT) (some 1) none; omega) fun l hl => tok_lines hT l (cutD_mem hl))
    (all_cons (tab_t (by have := cutD_len (T0.map iT) none (some 1); rw [List.length_append]; omega) (all_app (tok_lines hT) fun l hl => tok_lines hT l (cutD_mem hl))) (all_cons (tab_no (pl_int _ _) (by intro _ e; cases e)) (all_cons (by rw [rep_one]; exact tab_t (by rw [List.length_replicate]; omega) fun l hl => by rw [(List.mem_replicate.mp hl).2]; exact line_nine) all_nil)))))))
  have dY := ((Dr.refl W).le lz).tr dz
  have eT : ∀ {δ : Sd} {U : Wd} {q q2 q3 : Pos} {x1 : Nat}, δ[2]? = some (some (.d (.tuple (T0.map iT)))) → EvT K X δ (.Compare (.Name "_law_table" q) [.Eq] [.Tuple [] x1 q2] q3) U (T0.map iT).isEmpty := fun h => EvT.cast (et_eqD (vT h) (ev_T ea_nil) (pl_plain (pl_tab T0)) plain_nilT) (eqv_nilT _)
  refine wb_whenJ (fun t U => (t = false → 0 < T0.length ∧ 0 < (T0.getD 0 []).length) ∧ Dr m W U ∧ Md U m (M + 2)) (wt_w (ww_or (t := (T0.map iT).isEmpty) (eT rfl) (fun h1 U l => ⟨fun h => Bool.noConfusion h, dY.le l, (mz.up l).more (by omega)⟩) fun h1 U l => ?_)) (fun U ⟨_, dU, mU⟩ => ?_) fun U ⟨h0, dU, mU⟩ => ?_
  · have h0 : 0 < T0.length := by
      cases T0 with
      | nil => cases h1
      | cons a b => simp
    refine ww_or (t := ((T0.getD 0 []).map PyData.int).isEmpty) (EvT.cast (et_eqD (ev_ix (i := 0) (.t _) (vT rfl) ev_int (tab_at h0)) (ev_T ea_nil) (pl_plain (pl_rowI (n := 1) _)) plain_nilT) (eqv_nilT _)) (fun h2 V lv => ⟨fun h => Bool.noConfusion h, dY.le (l.tr lv), (mz.up (l.tr lv)).more (by omega)⟩) fun h2 V lv => ?_
    have h00 : 0 < (T0.getD 0 []).length := by
      cases q : T0.getD 0 [] with
      | nil => rw [q] at h2; cases h2
      | cons a b => simp
    exact ww_or1 (wt_eqI (we_callM 0 C1 r1 (wa_ev (ea_cons ev_int ea_nil) fun Z2 lz2 => ⟨M + 1, mz.up ((l.tr lv).tr lz2), by omega, ⟨3, rfl, by decide, by decide⟩, fun Y2 d dz2 mz2 ⟨b, j, e1, e2, _⟩ => ⟨j, e2, fun Z3 lz3 => ⟨fun _ => ⟨h0, h00⟩, ((dY.le ((l.tr lv).tr lz2)).tr dz2).le lz3, mz2.up lz3⟩⟩⟩)) fun _ => ev_int)
  · exact wb_ret (ev_v 3) fun Z2 lz2 => ⟨dU.le lz2, (mU.up lz2).more (by omega), qo⟩
  obtain ⟨h1, h2⟩ := h0 rfl
  have hl1 : (T0.getD 0 []).length ≤ 4 := tok_row hT (getD_in h1)
  refine wb_par 4 5 (wa_cons (we_callM 0 C1 r1 (wa_ev (ea_cons (lT rfl) ea_nil) fun Z2 lz2 => ⟨M + 2, mU.up lz2, by omega, ⟨(T0.length : Int), rfl, by omega, by omega⟩, fun Y2 d2 dz2 mz2 ⟨b2, i, e1, e2, i0, i1⟩ => wa_cons (we_callM 0 C1 r1 (wa_ev (ea_cons (EvE.cast (ev_len (.t _) (ev_ix (i := 0) (.t _) (vT rfl) ev_int (tab_at h1))) (by rw [List.length_map])) ea_nil) fun Z3 lz3 => ⟨M + 2 + 1, mz2.up lz3, by omega, ⟨((T0.getD 0 []).length : Int), rfl, by omega, by omega⟩, fun Y3 d3 dz3 mz3 ⟨b3, j, f1, f2, j0, j1⟩ => wa_nil ⟨d2, d3, rfl, ?_⟩⟩))⟩)))
  have eb2 := (List.cons.inj e1).1
  injection eb2 with eb2
  have eb3 := (List.cons.inj f1).1
  injection eb3 with eb3
  have hi : i.toNat < T0.length := by omega
  have hRi : T0.getD i.toNat [] ∈ T0 := getD_in hi
  have hj : j.toNat < (T0.getD i.toNat []).length := cells_of hT hRi (by omega) h1
  have hli : (T0.getD i.toNat []).length ≤ 4 := tok_row hT hRi
  rw [e2, f2, toNat_int i0, toNat_int j0]
  have dY3 := (((dU.le lz2).tr dz2).le lz3).tr dz3
  generalize hR : T0.getD i.toNat [] = R at hRi hj hli
  have hRl : (R.map PyData.int).length = R.length := List.length_map _
  have vR : ∀ {δ : Sd} {V : Wd} {q q2 q3 : Pos}, δ[2]? = some (some (.d (.tuple (T0.map iT)))) → δ[4]? = some (some (.d (.int ((i.toNat : Nat) : Int)))) → EvE K X δ (.Subscript (.Name "_law_table" q) (.Name "_law_i" q2) q3) V (.tuple (R.map PyData.int)) := fun h h' => ev_ix (i := i.toNat) (.t _) (vT h) (ev_v 4 h') (by rw [tab_at hi, hR])
  refine wb_asgW 6 (we_callM 0 C2 r2 (wa_ev (ea_cons (ev_L (ea_cons (ev_v 1) (ea_cons (ev_neg ev_int) (ea_cons ev_bl (ea_cons ev_non (ea_cons (ev_mod (ev_toInt (ev_add (ev_ix (i := j.toNat) (.t _) (vR rfl rfl) (ev_v 5) (ints_at hj)) ev_int)) (ev_v 1) (by omega)) (ea_cons ev_str (ea_cons (ev_T (ea_cons ev_int ea_nil)) (ea_cons (ev_L (ea_cons ev_int ea_nil)) ea_nil))))))))) ea_nil) fun Z4 lz4 => ⟨M + 2 + 1 + 1, mz3.up lz4, by omega, ⟨_, _, rfl, .l _, by simp, by simp⟩, fun Y4 en dz4 mz4 pe => ?_⟩))
  have qe : pl 8 en = true := of_all (Q := fun x => pl 8 x = true) pe (all_cons (pl_int _ _) (all_cons (pl_int _ _) (all_cons (pl_bool _ _) (all_cons (pl_none _) (all_cons (pl_int _ _) (all_cons (pl_str _ _) (all_cons (pl_1T 0) (all_cons (pl_1L 1) all_nil))))))))
  have put1 : ∀ {δ : Sd} {V : Wd} {q q2 q3 q4 q5 q6 q7 : Pos}, δ[2]? = some (some (.d (.tuple (T0.map iT)))) → δ[4]? = some (some (.d (.int ((i.toNat : Nat) : Int)))) → δ[5]? = some (some (.d (.int ((j.toNat : Nat) : Int)))) → δ[6]? = some (some (.d en)) → EvE K X δ (.Call (.Name "_law_put" q) [.Subscript (.Name "_law_table" q2) (.Name "_law_i" q3) q4, .Name "_law_j" q5, .Name "_law_entry" q6] [] q7) V (.tuple ((R.map PyData.int).take j.toNat ++ [en] ++ (R.map PyData.int).drop (j.toNat + 1))) := fun h2 h4 h5 h6 => ev_call CP r1 (ea_cons (vR h2 h4) (ea_cons (ev_v 5 h5) (ea_cons (ev_v 6 h6) ea_nil))) ⟨R.map PyData.int, j.toNat, en, rfl, by rw [hRl]; omega, rfl⟩
  have ql : LineOk (.tuple ((R.map PyData.int).take j.toNat ++ [en] ++ (R.map PyData.int).drop (j.toNat + 1))) := line_t (by rw [len_put (by rw [hRl]; exact hj), hRl]; omega) fun x hx => by
    rcases mem_put hx with hx | rfl
    · exact pl_intsM R 8 x hx
    · exact qe
  refine wb_asgW 7 (we_callM 0 C2 r2 (wa_ev (ea_cons (ev_L (ea_cons (put1 rfl rfl rfl rfl) (ea_cons (put1 rfl rfl rfl rfl) (ea_cons (ev_slT (vR rfl rfl) (eo_some ev_int) eo_none) (ea_cons (ev_toLst (.t _) (vR rfl rfl)) (ea_cons ev_non ea_nil)))))) ea_nil) fun Z5 lz5 => ⟨M + 2 + 1 + 1 + 1, mz4.up lz5, by omega, ⟨_, _, rfl, .l _, by simp, by simp⟩, fun Y5 ln dz5 mz5 pl5 => ?_⟩))
  have qn : LineOk ln := of_all pl5 (all_cons ql (all_cons ql (all_cons (line_t (by have := cutD_len (R.map PyData.int) (some 1) none; omega) fun x hx => pl_intsM R 8 x (cutD_mem hx)) (all_cons (line_no (pl_list (n := 8) (pl_intsM R 8)) (by intro _ e; cases e)) (all_cons (line_no (pl_none _) (by intro _ e; cases e)) all_nil)))))
  refine wb_ret (ev_call CP r1 (ea_cons (vT rfl) (ea_cons (ev_v 4) (ea_cons (ev_v 7) ea_nil))) ⟨T0.map iT, i.toNat, ln, rfl, by rw [hlen]; omega, rfl⟩) fun Z6 lz6 => ⟨((((dY3.le lz4).tr dz4).le lz5).tr dz5).le lz6, (mz5.up lz6).more (by omega), tab_t (by rw [len_put (by rw [hlen]; exact hi), hlen]; omega) fun l hl => ?_⟩
  rcases mem_put hl with hl | rfl
  · exact tok_lines hT l hl
  · exact qn
end
end Pk
set_option Elab.async false
set_option linter.all false
set_option maxRecDepth 100000
set_option maxHeartbeats 2000000
namespace Pk
open PySem PySem.Spec L2
open PyProof.Rows hiding St
theorem tameT_t {ts : List PyData} (h1 : ts.length ≤ 1000) (h2 : ∀ x ∈ ts, TabOk x) : TameT (.tuple ts) := fun es e => by
  injection e with e
  subst e
  exact ⟨h1, h2⟩
theorem tameT_no {d : PyData} (h : ∀ ds, d ≠ .tuple ds) : TameT d := fun ds e => absurd e (h ds)
theorem tabs_ok {Ts : List Tb} (h : ∀ T ∈ Ts, Tok T) : ∀ x ∈ Ts.map tabD, TabOk x := fun x hx => by
  obtain ⟨T, hT, rfl⟩ := List.mem_map.mp hx
  exact tab_tok (h T hT)
theorem getT_in {Ts : List Tb} {i : Nat} (h : i < Ts.length) : Ts.getD i [] ∈ Ts := by
  rw [List.getD_eq_getElem?_getD, List.getElem?_eq_getElem h]
  exact List.getElem_mem h
def fullB (Ts : List Tb) (k : Nat) : Bool := !((Ts.getD k []).map iT).isEmpty && !(((Ts.getD k []).getD 0 []).map PyData.int).isEmpty
theorem full_ok {Ts : List Tb} {k : Nat} (h : fullB Ts k = true) : 0 < (Ts.getD k []).length ∧ 0 < ((Ts.getD k []).getD 0 []).length := by
  unfold fullB at h
  rw [Bool.and_eq_true] at h
  obtain ⟨a, b⟩ := h
  constructor
  · cases q : Ts.getD k [] with
    | nil => rw [q] at a; cases a
    | cons x y => simp
  · cases q : (Ts.getD k []).getD 0 [] with
    | nil => rw [q] at b; cases b
    | cons x y => simp
def preOT (ds : List PyData) : Prop := ∃ (p : Int) (Ts : List Tb), ds = [.int p, .tuple (Ts.map tabD)] ∧ p ∈ primes ∧ Ts.length < 64 ∧ ∀ T ∈ Ts, Tok T
section
variable {P : Program} {w : World} {K : PySem.W.Frag} {mg : Str → Option Value} {base : Heap}
theorem c_odd_tables (T : At K mg "_law_odd_tables" s_L_odd_tables) (B : Bn mg) (C1 : Cal P w K mg base CX0 1 "_law_draw" p_L_draw (SpDraw K)) (C2 : Cal P w K mg base CX0 2 "_law_of" p_L_of (SpOf K)) (CP : Cal P w K mg base CX0 1 "_law_put" p_L_put (SpP K R_put))
    (CB : Cal P w K mg base CX0 3 "_law_bent_table" p_L_bent_table (SpM K preBT (fun _ d => TabOk d) 6)) : Cal P w K mg base CX0 4 "_law_odd_tables" p_L_odd_tables (SpM K preOT (fun _ d => TameT d) 20) := by
  refine cal_m T b_L_odd_tables sc_L_odd_tables B (fun ds h => ?_) fun f cdv A outer s H E => ?_
  · obtain ⟨p, Ts, rfl, _⟩ := h
    rfl
  intro X gX hr W m M ds h hm hc
  obtain ⟨p, Ts, rfl, hp, hn, hT⟩ := h
  have hpp := prime_rng hp
  have r1 : Room 1 X.A := hr.mono (by decide)
  have r2 : Room 2 X.A := hr.mono (by decide)
  have hlen : (Ts.map tabD).length = Ts.length := List.length_map _
  have hTs := tabs_ok hT
  have vT : ∀ {δ : Sd} {U : Wd} {q : Pos}, δ[2]? = some (some (.d (.tuple (Ts.map tabD)))) → EvE K X δ (.Name "_law_tables" q) U (.tuple (Ts.map tabD)) := fun h => ev_v 2 h
  have lT : ∀ {δ : Sd} {U : Wd} {q q2 q3 : Pos}, δ[2]? = some (some (.d (.tuple (Ts.map tabD)))) → EvE K X δ (.Call (.Name "len" q3) [.Name "_law_tables" q] [] q2) U (.int (Ts.length : Int)) := fun h => EvE.cast (ev_len (.t _) (vT h)) (by rw [hlen])
  have tail : ∀ (o3 o6 o7 o8 : Option Sl) (fs fu : List PyData) (U : Wd) (N : Nat), fs.length = Ts.length → (∀ x ∈ fs, TabOk x) → 0 < Ts.length → Dr m W U → Md U m N → N ≤ M + 10 →
      WB K X [some (.v (.ref m)), some (.d (.int p)), some (.d (.tuple (Ts.map tabD))), o3, some (.d (.tuple fs)), some (.d (.list fu)), o6, o7, o8] ((defBody s_L_odd_tables).drop 3) U { nx := fun _ _ => False, rt := fun d U => Dr m W U ∧ Md U m (M + 20) ∧ TameT d } := by
    intro o3 o6 o7 o8 fs fu U N hfl hfs h0 dU mU hN
    refine wb_asgW 3 (we_callM 0 C1 r1 (wa_ev (ea_cons (lT rfl) ea_nil) fun Z lz => ⟨N, mU.up lz, by omega, ⟨(Ts.length : Int), rfl, by omega, by omega⟩, fun Y d dz mz ⟨b, k, e1, e2, k0, k1⟩ => ?_⟩))
    have eb := (List.cons.inj e1).1
    injection eb with eb
    have hk : k.toNat < Ts.length := by omega
    rw [e2, toNat_int k0]
    refine wb_retW (we_callP CP r1 (wa_cons (we_ev (ev_v (d := .tuple fs) 4) fun V1 lv1 => wa_cons (we_ev (ev_v 3) fun V2 lv2 => wa_cons (we_callM 0 CB hr (wa_ev (ea_cons (ev_v 1) (ea_cons (ev_ix (i := k.toNat) (.t _) (vT rfl) (ev_v 3) (tabs_at hk)) ea_nil)) fun Z2 lz2 => ⟨N + 1, mz.up ((lv1.tr lv2).tr lz2), by omega, ⟨p, Ts.getD k.toNat [], rfl, hp, hT _ (getT_in hk)⟩, fun Y2 d2 dz2 mz2 qb => wa_nil ⟨_, ⟨fs, k.toNat, d2, rfl, by omega, rfl⟩, fun V lv => ⟨((((dU.le lz).tr dz).le ((lv1.tr lv2).tr lz2)).tr dz2).le lv, (mz2.up lv).more (by omega), tameT_t (by rw [len_put (by omega)]; omega) fun x hx => ?_⟩⟩⟩))))))
    rcases mem_put hx with hx | rfl
    · exact hfs x hx
    · exact qb
  have eT : ∀ {δ : Sd} {U : Wd} {q q2 q3 : Pos} {x1 : Nat}, δ[2]? = some (some (.d (.tuple (Ts.map tabD)))) → EvT K X δ (.Compare (.Name "_law_tables" q) [.Eq] [.Tuple [] x1 q2] q3) U (Ts.map tabD).isEmpty := fun h => EvT.cast (et_eqD (vT h) (ev_T ea_nil) (pl_plain (pl_tuple (n := 2) fun d hd => by
    obtain ⟨T, _, rfl⟩ := List.mem_map.mp hd
    exact pl_tab T)) plain_nilT) (eqv_nilT _)
  refine wb_whenJ (fun t U => (t = false → 0 < Ts.length) ∧ Dr m W U ∧ Md U m (M + 1)) (wt_w (ww_or (t := (Ts.map tabD).isEmpty) (eT rfl) (fun h1 U l => ⟨fun h => Bool.noConfusion h, (Dr.refl W).le l, (hm.up l).more (by omega)⟩) fun h1 U l => ww_or1 (wt_eqI (we_callM 0 C1 r1 (wa_ev (ea_cons ev_int ea_nil) fun Z lz => ⟨M, hm.up (l.tr lz), by omega, ⟨5, rfl, by decide, by decide⟩, fun Y d dz mz ⟨b, j, e1, e2, _⟩ => ⟨j, e2, fun Z2 lz2 => ⟨fun _ => ?_, (((Dr.refl W).le (l.tr lz)).tr dz).le lz2, mz.up lz2⟩⟩⟩)) fun _ => ev_int))) (fun U ⟨_, dU, mU⟩ => ?_) fun U ⟨h0, dU, mU⟩ => ?_
  · cases Ts with
    | nil => cases h1
    | cons a b => simp
  · refine wb_retW (we_callM 0 C2 r2 (wa_ev (ea_cons (ev_L (ea_cons ev_non (ea_cons (ev_toLst (.t _) (vT rfl)) (ea_cons (ev_slT (vT rfl) (eo_some ev_int) eo_none) (ea_cons (ev_catT (vT rfl) (ev_T (ea_cons (ev_T ea_nil) ea_nil)) ?_) (ea_cons (ev_T ea_nil) (ea_cons (ev_mulT (ev_T (ea_cons ev_non ea_nil)) (lT rfl) (by simp) (by omega) (by omega) (by simp)) (ea_cons ev_int (ea_cons ev_dict0 ea_nil))))))))) ea_nil) fun Z lz => ⟨M + 1, mU.up lz, by omega, ⟨_, _, rfl, .l _, by simp, by simp⟩, fun Y d dz mz pd => ⟨(dU.le lz).tr dz, mz.more (by omega), of_all pd ?_⟩⟩))
    · rw [hlen]; simp; omega
    exact all_cons (tameT_no (by intro _ e; cases e)) (all_cons (tameT_no (by intro _ e; cases e)) (all_cons (tameT_t (by have := cutD_len (Ts.map tabD) (some 1) none; omega) fun x hx => hTs x (cutD_mem hx)) (all_cons (tameT_t (by rw [List.length_append, hlen]; simp; omega) (all_app hTs (all_cons (tab_t (by simp) all_nil) all_nil))) (all_cons (tameT_t (by simp) all_nil)
      (all_cons (by rw [rep_one]; exact tameT_t (by rw [List.length_replicate]; omega) fun l hl => by rw [(List.mem_replicate.mp hl).2]; exact tab_no (pl_none _) (by intro _ e; cases e)) (all_cons (tameT_no (by intro _ e; cases e)) (all_cons (tameT_no (by intro _ e; cases e)) all_nil)))))))
  have hTp := h0 rfl
  refine wb_par 4 5 (wa_ev (ea_cons (vT rfl) (ea_cons (ev_lcNF [("_law_k", 3)] 3 (fullB Ts) (fun k => .int (k : Int)) (ei_r1 (lT rfl) (by omega)) (by rw [rngN_len]; omega) ?_ ?_) ea_nil)) fun U1 l1 => ⟨_, _, rfl, ?_⟩)
  · intro k d U2 hd l2 s H0 C cl fp gb
    obtain ⟨hk, rfl⟩ := rngN_at hd
    have hk' : k < Ts.length := by omega
    refine et_w (ew_and (t := !((Ts.getD k []).map iT).isEmpty) (u := !(((Ts.getD k []).getD 0 []).map PyData.int).isEmpty) (EvT.cast (et_neD (ev_ix (i := k) (.t _) (ev_v (d := .tuple (Ts.map tabD)) 2) (ev_v 3) (tabs_at hk')) (ev_T ea_nil) (pl_plain (pl_tab _)) plain_nilT) (congrArg (fun b => !b) (eqv_nilT _))) fun h1 => ew_and1 (EvT.cast (et_neD (ev_ix (i := 0) (.t _) (ev_ix (d := .tuple ((Ts.getD k []).map iT)) (i := k) (.t _) (ev_v (d := .tuple (Ts.map tabD)) 2) (ev_v 3) (tabs_at hk')) ev_int (tab_at ?_)) (ev_T ea_nil) (pl_plain (pl_rowI (n := 1) _)) plain_nilT) (congrArg (fun b => !b) (eqv_nilT _))))
    cases q : Ts.getD k [] with
    | nil => rw [q] at h1; cases h1
    | cons x y => simp
  · intro k d U2 hd l2 s H0 C cl fp gb _
    obtain ⟨hk, rfl⟩ := rngN_at hd
    exact ev_v 3
  rw [rngN_len, Int.toNat_natCast]
  have hLq : ∀ x ∈ ((List.range Ts.length).filter (fullB Ts)).map (fun k : Nat => PyData.int (k : Int)), ∃ k : Nat, k < Ts.length ∧ fullB Ts k = true ∧ x = .int (k : Int) := fun x hx => by
    obtain ⟨k, hk, rfl⟩ := List.mem_map.mp hx
    obtain ⟨a, b⟩ := List.mem_filter.mp hk
    exact ⟨k, List.mem_range.mp a, b, rfl⟩
  have hLl : (((List.range Ts.length).filter (fullB Ts)).map (fun k : Nat => PyData.int (k : Int))).length ≤ Ts.length := by
    have := List.length_filter_le (fullB Ts) (List.range Ts.length)
    rw [List.length_range] at this
    rw [List.length_map]; exact this
  have hLp : Plain (.list (((List.range Ts.length).filter (fullB Ts)).map (fun k : Nat => PyData.int (k : Int)))) := pl_list_of (n := 0) fun d hd => by
    obtain ⟨k, _, _, rfl⟩ := hLq d hd
    exact pl_int _ 0
  generalize ((List.range Ts.length).filter (fullB Ts)).map (fun k : Nat => PyData.int (k : Int)) = L at hLq hLl hLp ⊢
  have dU1 := dU.le l1
  have mU1 := mU.up l1
  refine wb_whenJ (fun t U => (t = true → L ≠ []) ∧ Dr m W U ∧ Md U m (M + 2)) (wt_w (ww_and (t := !L.isEmpty) (EvT.cast (et_neD (ev_v (d := .list L) 5) (ev_L ea_nil) hLp plain_nilL) (congrArg (fun b => !b) (eqv_nilL _))) (fun h1 U l => ⟨fun h => Bool.noConfusion h, dU1.le l, (mU1.up l).more (by omega)⟩) fun h1 U l => ww_and1 (wt_gtI (we_callM 0 C1 r1 (wa_ev (ea_cons ev_int ea_nil) fun Z lz => ⟨M + 1, mU1.up (l.tr lz), by omega, ⟨3, rfl, by decide, by decide⟩, fun Y d dz mz ⟨b, j, e1, e2, _⟩ => ⟨j, e2, fun Z2 lz2 => ⟨fun _ => ?_, ((dU1.le (l.tr lz)).tr dz).le lz2, mz.up lz2⟩⟩⟩)) fun _ => ev_int))) (fun U2 ⟨hL, dU2, mU2⟩ => ?_) fun U2 ⟨_, dU2, mU2⟩ => ?_
  · intro q
    rw [q] at h1; cases h1
  · refine wb_asgW 3 (we_callM 0 C2 r2 (wa_ev (ea_cons (ev_v (d := .list L) 5) ea_nil) fun Z lz => ⟨M + 2, mU2.up lz, by omega, ⟨_, L, rfl, .l _, hL rfl, by omega⟩, fun Y kd dz mz pd => ?_⟩))
    obtain ⟨k, hk, hfk, rfl⟩ := of_all pd hLq
    obtain ⟨h1, h2⟩ := full_ok hfk
    have hTk := hT _ (getT_in hk)
    generalize hTe : Ts.getD k [] = T0 at h1 h2 hTk
    have hl4 := hTk.1
    have hl1 : (T0.getD 0 []).length ≤ 4 := tok_row hTk (getD_in h1)
    have hT0 : (T0.map iT).length = T0.length := List.length_map _
    have vK : ∀ {δ : Sd} {V : Wd} {q q2 q3 : Pos}, δ[2]? = some (some (.d (.tuple (Ts.map tabD)))) → δ[3]? = some (some (.d (.int (k : Int)))) → EvE K X δ (.Subscript (.Name "_law_tables" q) (.Name "_law_k" q2) q3) V (.tuple (T0.map iT)) := fun h h' => ev_ix (i := k) (.t _) (vT h) (ev_v 3 h') (by rw [tabs_at hk, hTe] <;> rfl)
    refine wb_par 6 7 (wa_cons (we_callM 0 C1 r1 (wa_ev (ea_cons (EvE.cast (ev_len (.t _) (vK rfl rfl)) (by rw [hT0])) ea_nil) fun Z2 lz2 => ⟨M + 2 + 1, mz.up lz2, by omega, ⟨(T0.length : Int), rfl, by omega, by omega⟩, fun Y2 d2 dz2 mz2 ⟨b2, i, e1, e2, i0, i1⟩ => wa_cons (we_callM 0 C1 r1 (wa_ev (ea_cons (EvE.cast (ev_len (.t _) (ev_ix (i := 0) (.t _) (vK rfl rfl) ev_int (tab_at h1))) (by rw [List.length_map])) ea_nil) fun Z3 lz3 => ⟨M + 2 + 1 + 1, mz2.up lz3, by omega, ⟨((T0.getD 0 []).length : Int), rfl, by omega, by omega⟩, fun Y3 d3 dz3 mz3 ⟨b3, j, f1, f2, j0, j1⟩ => wa_nil ⟨d2, d3, rfl, ?_⟩⟩))⟩)))
    have eb2 := (List.cons.inj e1).1
    injection eb2 with eb2
    have eb3 := (List.cons.inj f1).1
    injection eb3 with eb3
    have hi : i.toNat < T0.length := by omega
    have hRi : T0.getD i.toNat [] ∈ T0 := getD_in hi
    have hj : j.toNat < (T0.getD i.toNat []).length := cells_of hTk hRi (by omega) h1
    have hli : (T0.getD i.toNat []).length ≤ 4 := tok_row hTk hRi
    rw [e2, f2, toNat_int i0, toNat_int j0]
    have dY3 := (((((dU2.le lz).tr dz).le lz2).tr dz2).le lz3).tr dz3
    generalize hR : T0.getD i.toNat [] = R at hRi hj hli
    have hRl : (R.map PyData.int).length = R.length := List.length_map _
    have vR : ∀ {δ : Sd} {V : Wd} {q q2 q3 q4 q5 : Pos}, δ[2]? = some (some (.d (.tuple (Ts.map tabD)))) → δ[3]? = some (some (.d (.int (k : Int)))) → δ[6]? = some (some (.d (.int ((i.toNat : Nat) : Int)))) → EvE K X δ (.Subscript (.Subscript (.Name "_law_tables" q) (.Name "_law_k" q2) q3) (.Name "_law_i" q4) q5) V (.tuple (R.map PyData.int)) := fun h h' h6 => ev_ix (i := i.toNat) (.t _) (vK h h') (ev_v 6 h6) (by rw [tab_at hi, hR])
    refine wb_asgW 8 (we_callP CP r1 (wa_cons (we_ev (vR rfl rfl rfl) fun V1 lv1 => wa_cons (we_ev (ev_v 7) fun V2 lv2 => wa_cons (we_mod (n := p) (we_toInt (we_add (ev_add (ev_ix (i := j.toNat) (.t _) (vR rfl rfl rfl) (ev_v 7) (ints_at hj)) ev_int) fun V3 lv3 => we_callM 0 C1 r1 (wa_ev (ea_cons (ev_sub (ev_v 1) ev_int) ea_nil) fun Z4 lz4 => ⟨M + 2 + 1 + 1 + 1, mz3.up (((lv1.tr lv2).tr lv3).tr lz4), by omega, ⟨p - 1, rfl, by omega, by omega⟩, fun Y4 d4 dz4 mz4 ⟨b4, q4, g1, g2, _⟩ => ⟨q4, g2, _, rfl, fun V5 lv5 => ⟨_, rfl, fun V6 lv6 => wa_nil ⟨_, ⟨R.map PyData.int, j.toNat, _, rfl, by rw [hRl]; omega, rfl⟩, fun V7 lv7 => ?_⟩⟩⟩⟩))) (fun _ _ => ev_v 1) (by omega))))))
    have dV7 := ((dY3.le (((lv1.tr lv2).tr lv3).tr lz4)).tr dz4).le ((lv5.tr lv6).tr lv7)
    have mV7 := mz4.up ((lv5.tr lv6).tr lv7)
    generalize hln : (PyData.int (((R.getD j.toNat 0 + 1) + q4) % p)) = en
    have qe : pl 8 en = true := by rw [← hln]; exact pl_int _ _
    have ql : LineOk (.tuple ((R.map PyData.int).take j.toNat ++ [en] ++ (R.map PyData.int).drop (j.toNat + 1))) := line_t (by rw [len_put (by rw [hRl]; exact hj), hRl]; omega) fun x hx => by
      rcases mem_put hx with hx | rfl
      · exact pl_intsM R 8 x hx
      · exact qe
    generalize (PyData.tuple ((R.map PyData.int).take j.toNat ++ [en] ++ (R.map PyData.int).drop (j.toNat + 1))) = ln at ql ⊢
    refine wb_asg 4 (ev_call CP r1 (ea_cons (ev_v (d := .tuple (Ts.map tabD)) 4) (ea_cons (ev_v 3) (ea_cons (ev_call CP r1 (ea_cons (vK rfl rfl) (ea_cons (ev_v 6) (ea_cons (ev_v 8) ea_nil))) ⟨T0.map iT, i.toNat, ln, rfl, by rw [hT0]; omega, rfl⟩) ea_nil))) ⟨Ts.map tabD, k, _, rfl, by rw [hlen]; omega, rfl⟩) fun V8 lv8 => ?_
    have qt : TabOk (.tuple ((T0.map iT).take i.toNat ++ [ln] ++ (T0.map iT).drop (i.toNat + 1))) := tab_t (by rw [len_put (by rw [hT0]; exact hi), hT0]; omega) fun l hl => by
      rcases mem_put hl with hl | rfl
      · exact tok_lines hTk l hl
      · exact ql
    generalize (PyData.tuple ((T0.map iT).take i.toNat ++ [ln] ++ (T0.map iT).drop (i.toNat + 1))) = nt at qt ⊢
    have hfl : ((Ts.map tabD).take k ++ [nt] ++ (Ts.map tabD).drop (k + 1)).length = Ts.length := by rw [len_put (by rw [hlen]; exact hk), hlen]
    have hfs : ∀ x ∈ (Ts.map tabD).take k ++ [nt] ++ (Ts.map tabD).drop (k + 1), TabOk x := fun x hx => by
      rcases mem_put hx with hx | rfl
      · exact hTs x hx
      · exact qt
    generalize (Ts.map tabD).take k ++ [nt] ++ (Ts.map tabD).drop (k + 1) = fs at hfl hfs ⊢
    refine wb_whenJ (fun _ U => Dr m W U ∧ Md U m (M + 7)) (wt_eqI (we_callM 0 C1 r1 (wa_ev (ea_cons ev_int ea_nil) fun Z5 lz5 => ⟨M + 2 + 1 + 1 + 1 + 1, mV7.up (lv8.tr lz5), by omega, ⟨2, rfl, by decide, by decide⟩, fun Y5 d5 dz5 mz5 ⟨b5, q5, g3, g4, _⟩ => ⟨q5, g4, fun Z6 lz6 => ⟨((dV7.le (lv8.tr lz5)).tr dz5).le lz6, mz5.up lz6⟩⟩⟩)) fun _ => ev_int) (fun U9 ⟨d9, m9⟩ => ?_) fun U9 ⟨d9, m9⟩ => ?_
    · exact wb_ret (ev_v (d := .tuple fs) 4) fun Z9 lz9 => ⟨d9.le lz9, (m9.up lz9).more (by omega), tameT_t (by omega) hfs⟩
    · exact wb_nil (tail _ _ _ _ fs L U9 (M + 7) hfl hfs hTp d9 m9 (by omega))
  · exact tail _ _ _ _ (Ts.map tabD) L U2 (M + 2) hlen hTs hTp dU2 mU2 (by omega)
end
end Pk
set_option Elab.async false
set_option linter.all false
set_option maxRecDepth 100000
set_option maxHeartbeats 2000000
namespace Pk
open PySem PySem.Spec L2
open PyProof.Rows hiding St
theorem tameP_mk {p o s t : PyData} (h1 : TameO o) (h2 : TameS s) (h3 : TameT t) : TameP (.tuple [p, o, s, t]) := fun p' o' s' t' e => by
  injection e with e
  injection e with _ e
  injection e with e1 e
  injection e with e2 e
  injection e with e3 _
  subst e1 e2 e3
  exact ⟨h1, h2, h3⟩
theorem tameP_no {d : PyData} (h : ∀ p o s t, d ≠ .tuple [p, o, s, t]) : TameP d := fun p o s t e => absurd e (h p o s t)
theorem tameO_ord {n : Nat} {ps : List Pr} (h : ps.length < 64) : TameO (.tuple [.int (n : Int), psD ps]) := tameO_pair (by rw [List.length_map]; omega) fun x hx => by
  obtain ⟨q, _, rfl⟩ := List.mem_map.mp hx
  exact pl_pD10 q
theorem tameS_ints {ss : List Int} (h : ss.length ≤ 1000) : TameS (iT ss) := tameS_t (by rw [List.length_map]; exact h) (pl_intsM ss 10)
theorem tameT_tabs {Ts : List Tb} (h1 : Ts.length ≤ 1000) (h2 : ∀ T ∈ Ts, Tok T) : TameT (.tuple (Ts.map tabD)) := tameT_t (by rw [List.length_map]; exact h1) (tabs_ok h2)
def preBe (ds : List PyData) : Prop := ∃ d, ds = [d] ∧ isPatch d
section
variable {P : Program} {w : World} {K : PySem.W.Frag} {mg : Str → Option Value} {base : Heap}
theorem c_bent (T : At K mg "_law_bent" s_L_bent) (B : Bn mg) (C1 : Cal P w K mg base CX0 1 "_law_draw" p_L_draw (SpDraw K)) (C2 : Cal P w K mg base CX0 2 "_law_of" p_L_of (SpOf K)) (Cp : Cal P w K mg base CX0 3 "_law_odd_prime" p_L_odd_prime (SpM K (fun ds => ds = []) (fun _ _ => True) 1))
    (Co : Cal P w K mg base CX0 3 "_law_odd_order" p_L_odd_order (SpM K preOO (fun _ d => TameO d) 1)) (Cs : Cal P w K mg base CX0 3 "_law_odd_sizes" p_L_odd_sizes (SpM K preOS (fun _ d => TameS d) 4)) (Ct : Cal P w K mg base CX0 4 "_law_odd_tables" p_L_odd_tables (SpM K preOT (fun _ d => TameT d) 20)) :
    Cal P w K mg base CX0 5 "_law_bent" p_L_bent (SpM K preBe (fun _ d => TameP d) 30) := by
  refine cal_m T b_L_bent sc_L_bent B (fun ds h => ?_) fun f cdv A outer s H E => ?_
  · obtain ⟨d, rfl, _⟩ := h
    rfl
  intro X gX hr W m M ds h hm hc
  obtain ⟨d, rfl, p, n, ps, ss, Ts, rfl, hp, hn, hin, hpl, hsl, hTl, hTs⟩ := h
  have r1 : Room 1 X.A := hr.mono (by decide)
  have r2 : Room 2 X.A := hr.mono (by decide)
  have r3 : Room 3 X.A := hr.mono (by decide)
  have o0 : TameO (.tuple [.int (n : Int), psD ps]) := tameO_ord hpl
  have s0 : TameS (iT ss) := tameS_ints (by omega)
  have t0 : TameT (.tuple (Ts.map tabD)) := tameT_tabs (by omega) hTs
  have inS : ∀ {δ : Sd} {U : Wd} {i : Int} {is : List Int} {j : Nat} {q q2 q3 : Pos}, δ[6]? = some (some (.d (iT is))) → EvT K X δ (.Compare (.Constant (.int i) j q) [.In] [.Name "_law_some" q2] q3) U ((is.map PyData.int).any fun z => PyData.eqv z (.int i)) := fun h => et_in (.t _) ev_int (ev_v 6 h) (pl_plain (n := 1) (pl_int _ _)) (pl_plain (pl_intsL _))
  have pre2 : inN n ps := hin
  -- from the last back to the first
  have e7 : ∀ (is : List Int) (dp o1 s1 t1 : PyData) (U : Wd) (N : Nat), TameO o1 → TameS s1 → TameT t1 → Dr m W U → Md U m N → N ≤ M + 28 →
      WB K X [some (.v (.ref m)), some (.d (.tuple [.int p, .tuple [.int (n : Int), psD ps], iT ss, .tuple (Ts.map tabD)])), some (.d dp), some (.d o1), some (.d s1), some (.d t1), some (.d (iT is))] ((defBody s_L_bent).drop 7) U { nx := fun _ _ => False, rt := fun d U => Dr m W U ∧ Md U m (M + 30) ∧ TameP d } := by
    intro is dp o1 s1 t1 U N h1 h2 h3 dU mU hN
    exact wb_ret (ev_T (ea_cons (ev_v 2) (ea_cons (ev_v 3) (ea_cons (ev_v 4) (ea_cons (ev_v 5) ea_nil))))) fun Z lz => ⟨dU.le lz, (mU.up lz).more (by omega), tameP_mk h1 h2 h3⟩
  have e6 : ∀ (is : List Int) (dp o1 s1 : PyData) (U : Wd) (N : Nat), TameO o1 → TameS s1 → Dr m W U → Md U m N → N ≤ M + 8 →
      WB K X [some (.v (.ref m)), some (.d (.tuple [.int p, .tuple [.int (n : Int), psD ps], iT ss, .tuple (Ts.map tabD)])), some (.d dp), some (.d o1), some (.d s1), some (.d (.tuple (Ts.map tabD))), some (.d (iT is))] ((defBody s_L_bent).drop 6) U { nx := fun _ _ => False, rt := fun d U => Dr m W U ∧ Md U m (M + 30) ∧ TameP d } := by
    intro is dp o1 s1 U N h1 h2 dU mU hN
    refine wb_when (inS rfl) (fun _ V lv => ?_) fun _ V lv => e7 is dp o1 s1 _ V N h1 h2 t0 (dU.le lv) (mU.up lv) (by omega)
    exact wb_asgW 5 (we_callM 0 Ct hr (wa_ev (ea_cons (ev_ix (i := 0) (.t _) (ev_v 1) ev_int rfl) (ea_cons (ev_v 5) ea_nil)) fun Z lz => ⟨N, mU.up (lv.tr lz), by omega, ⟨p, Ts, rfl, hp, by omega, hTs⟩, fun Y d dz mz qd => wb_nil (e7 is dp o1 s1 d Y (N + 20) h1 h2 qd ((dU.le (lv.tr lz)).tr dz) mz (by omega))⟩))
  have e5 : ∀ (is : List Int) (dp o1 : PyData) (U : Wd) (N : Nat), TameO o1 → Dr m W U → Md U m N → N ≤ M + 4 →
      WB K X [some (.v (.ref m)), some (.d (.tuple [.int p, .tuple [.int (n : Int), psD ps], iT ss, .tuple (Ts.map tabD)])), some (.d dp), some (.d o1), some (.d (iT ss)), some (.d (.tuple (Ts.map tabD))), some (.d (iT is))] ((defBody s_L_bent).drop 5) U { nx := fun _ _ => False, rt := fun d U => Dr m W U ∧ Md U m (M + 30) ∧ TameP d } := by
    intro is dp o1 U N h1 dU mU hN
    refine wb_when (inS rfl) (fun _ V lv => ?_) fun _ V lv => e6 is dp o1 _ V N h1 s0 (dU.le lv) (mU.up lv) (by omega)
    exact wb_asgW 4 (we_callM 0 Cs r3 (wa_ev (ea_cons (ev_v 4) ea_nil) fun Z lz => ⟨N, mU.up (lv.tr lz), by omega, ⟨ss, rfl, by omega⟩, fun Y d dz mz qd => wb_nil (e6 is dp o1 d Y (N + 4) h1 qd ((dU.le (lv.tr lz)).tr dz) mz (by omega))⟩))
  have e4 : ∀ (is : List Int) (dp : PyData) (U : Wd) (N : Nat), Dr m W U → Md U m N → N ≤ M + 3 →
      WB K X [some (.v (.ref m)), some (.d (.tuple [.int p, .tuple [.int (n : Int), psD ps], iT ss, .tuple (Ts.map tabD)])), some (.d dp), some (.d (.tuple [.int (n : Int), psD ps])), some (.d (iT ss)), some (.d (.tuple (Ts.map tabD))), some (.d (iT is))] ((defBody s_L_bent).drop 4) U { nx := fun _ _ => False, rt := fun d U => Dr m W U ∧ Md U m (M + 30) ∧ TameP d } := by
    intro is dp U N dU mU hN
    refine wb_when (inS rfl) (fun _ V lv => ?_) fun _ V lv => e5 is dp _ V N o0 (dU.le lv) (mU.up lv) (by omega)
    exact wb_asgW 3 (we_callM 0 Co r3 (wa_ev (ea_cons (ev_v 3) ea_nil) fun Z lz => ⟨N, mU.up (lv.tr lz), by omega, ⟨n, ps, rfl, hn, hin, hpl⟩, fun Y d dz mz qd => wb_nil (e5 is dp d Y (N + 1) qd ((dU.le (lv.tr lz)).tr dz) mz (by omega))⟩))
  refine wb_asgT (ev_v 1) (tg_tup (tgs_cons (tg_name 2) (tgs_cons (tg_name 3) (tgs_cons (tg_name 4) (tgs_cons (tg_name 5) tgs_nil)))) rfl) fun U1 l1 => ?_
  refine wb_whenJ (fun _ U => Dr m W U ∧ Md U m (M + 1)) (wt_eqI (we_callM 0 C1 r1 (wa_ev (ea_cons ev_int ea_nil) fun Z lz => ⟨M, hm.up (l1.tr lz), by omega, ⟨9, rfl, by decide, by decide⟩, fun Y d dz mz ⟨b, j, e1, e2, _⟩ => ⟨j, e2, fun Z2 lz2 => ⟨(((Dr.refl W).le (l1.tr lz)).tr dz).le lz2, mz.up lz2⟩⟩⟩)) fun _ => ev_int) (fun U ⟨dU, mU⟩ => ?_) fun U ⟨dU, mU⟩ => ?_
  · refine wb_retW (we_callM 0 C2 r2 (wa_ev (ea_cons (ev_L (ea_cons ev_non (ea_cons (ev_toLst (.t _) (ev_v 1)) (ea_cons (ev_slT (ev_v 1) eo_none (eo_some ev_int)) (ea_cons (ev_catT (ev_v 1) (ev_T (ea_cons ev_int ea_nil)) (by simp)) (ea_cons (ev_T ea_nil) (ea_cons ev_str (ea_cons ev_int (ea_cons ev_dict0 ea_nil))))))))) ea_nil) fun Z lz => ⟨M + 1, mU.up lz, by omega, ⟨_, _, rfl, .l _, by simp, by simp⟩, fun Y d dz mz pd => ⟨(dU.le lz).tr dz, mz.more (by omega), of_all pd ?_⟩⟩))
    exact all_cons (tameP_no (by intro _ _ _ _ e; cases e)) (all_cons (tameP_no (by intro _ _ _ _ e; cases e)) (all_cons (tameP_no (by intro _ _ _ _ e; rw [show (3 : Int) = ((3 : Nat) : Int) from rfl, cutD_to] at e; cases e)) (all_cons (tameP_no (by intro _ _ _ _ e; cases e)) (all_cons (tameP_no (by intro _ _ _ _ e; cases e)) (all_cons (tameP_no (by intro _ _ _ _ e; cases e)) (all_cons (tameP_no (by intro _ _ _ _ e; cases e)) (all_cons (tameP_no (by intro _ _ _ _ e; cases e)) all_nil)))))))
  refine wb_asgW 6 (we_callM 0 C2 r2 (wa_ev (ea_cons (ev_L (ea_cons (ev_T (ea_cons ev_int ea_nil)) (ea_cons (ev_T (ea_cons ev_int ea_nil)) (ea_cons (ev_T (ea_cons ev_int ea_nil)) (ea_cons (ev_T (ea_cons ev_int ea_nil)) (ea_cons (ev_T (ea_cons ev_int ea_nil)) (ea_cons (ev_T (ea_cons ev_int ea_nil)) (ea_cons (ev_T (ea_cons ev_int (ea_cons ev_int ea_nil))) (ea_cons (ev_T (ea_cons ev_int (ea_cons ev_int ea_nil))) (ea_cons (ev_T (ea_cons ev_int (ea_cons ev_int ea_nil))) (ea_cons (ev_T (ea_cons ev_int (ea_cons ev_int ea_nil))) (ea_cons (ev_T (ea_cons ev_int (ea_cons ev_int ea_nil))) (ea_cons (ev_T (ea_cons ev_int (ea_cons ev_int ea_nil))) (ea_cons (ev_T (ea_cons ev_int (ea_cons ev_int (ea_cons ev_int (ea_cons ev_int ea_nil))))) ea_nil)))))))))))))) ea_nil) fun Z lz => ⟨M + 1, mU.up lz, by omega, ⟨_, _, rfl, .l _, by simp, by simp⟩, fun Y d dz mz pd => ?_⟩))
  obtain ⟨is, rfl⟩ : ∃ is : List Int, d = iT is := of_all (Q := fun d => ∃ is : List Int, d = iT is) pd (all_cons ⟨[_], rfl⟩ (all_cons ⟨[_], rfl⟩ (all_cons ⟨[_], rfl⟩ (all_cons ⟨[_], rfl⟩ (all_cons ⟨[_], rfl⟩ (all_cons ⟨[_], rfl⟩ (all_cons ⟨[_, _], rfl⟩ (all_cons ⟨[_, _], rfl⟩ (all_cons ⟨[_, _], rfl⟩ (all_cons ⟨[_, _], rfl⟩ (all_cons ⟨[_, _], rfl⟩ (all_cons ⟨[_, _], rfl⟩ (all_cons ⟨[_, _, _, _], rfl⟩ all_nil)))))))))))))
  refine wb_when (inS rfl) (fun _ V lv => ?_) fun _ V lv => e4 is _ V (M + 1 + 1) (((dU.le lz).tr dz).le lv) (mz.up lv) (by omega)
  exact wb_asgW 2 (we_callM 0 Cp r3 (wa_ev ea_nil fun Z2 lz2 => ⟨M + 1 + 1, mz.up (lv.tr lz2), by omega, rfl, fun Y2 d dz2 mz2 _ => wb_nil (e4 is d Y2 (M + 1 + 1 + 1) ((((dU.le lz).tr dz).le (lv.tr lz2)).tr dz2) mz2 (by omega))⟩))
end
end Pk
set_option Elab.async false
set_option linter.all false
set_option maxRecDepth 100000
set_option maxHeartbeats 2000000
/-! rules for the law itself -/
namespace Pk
open PySem PySem.Spec L2
open PyProof.Rows hiding St
theorem sql_dr {K : PySem.W.Frag} {Z Y : Wd} {a m : Addr} {N : Nat} {xs : List V} (h : SqL K Z.H a xs) (hm : Md Z m N) (d : Dr m Z Y) : SqL K Y.H a xs := by
  obtain ⟨left, seed, spot, c, cs, e1, _⟩ := hm.ex
  rcases h with (h | ⟨o, h⟩) | h
  · have n : a ≠ m := fun e => by
      rw [e, e1] at h
      cases h
    exact .inl (.inl (d.h _ _ n h))
  · have n : a ≠ m := fun e => by
      rw [e, e1] at h
      cases h
    exact .inl (.inr ⟨o, d.h _ _ n h⟩)
  · exact .inr h
section
variable {K : PySem.W.Frag} {X : Cx} [g : Good K X] {δ : Sd} {W : Wd} {a b e : Expr} {es : List Expr} {pos : Pos} {d : PyData} {rest : List Stmt} {P : Po}
theorem ev_max2 {i j : Int} {p : Pos} (ha : EvE K X δ a W (.int i)) (hb : EvE K X δ b W (.int j)) (hg : Gl X "max" := by rfl) (he : starEach [a, b] X.env = (false, eval a X.env) :: starEach [b] X.env := by rfl) (he2 : starEach [b] X.env = (false, eval b X.env) :: starEach [] X.env := by rfl) (hpl : (backTo pos (starEach [b] X.env)).any (·.1) = false := by rfl) :
    EvE K X δ (.Call (.Name "max" p) [a, b] [] pos) W (.int (if j > i then j else i)) :=
  ev_blt (call_max2 g.calm) (by simp) (by decide +kernel) (ea_cons ha (ea_cons hb ea_nil he2) he) (fun U vs l rs Q k => by
    obtain ⟨v, u, rfl, rv, ru⟩ := rs.two_inv
    exact ⟨i, j, by rw [rv.int_inv, ru.int_inv], k _ U (Le.refl U) (.int _)⟩) hg (by decide) (by decide) he hpl
theorem ev_min2 {i j : Int} {p : Pos} (ha : EvE K X δ a W (.int i)) (hb : EvE K X δ b W (.int j)) (hg : Gl X "min" := by rfl) (he : starEach [a, b] X.env = (false, eval a X.env) :: starEach [b] X.env := by rfl) (he2 : starEach [b] X.env = (false, eval b X.env) :: starEach [] X.env := by rfl) (hpl : (backTo pos (starEach [b] X.env)).any (·.1) = false := by rfl) :
    EvE K X δ (.Call (.Name "min" p) [a, b] [] pos) W (.int (if j < i then j else i)) :=
  ev_blt (call_min2 g.calm) (by simp) (by decide +kernel) (ea_cons ha (ea_cons hb ea_nil he2) he) (fun U vs l rs Q k => by
    obtain ⟨v, u, rfl, rv, ru⟩ := rs.two_inv
    exact ⟨i, j, by rw [rv.int_inv, ru.int_inv], k _ U (Le.refl U) (.int _)⟩) hg (by decide) (by decide) he hpl
/-- m = _law_begun(script, k) -/
theorem wb_begun (i j : Nat) {s0 : Addr} {cs : List Int} {k : Nat} {x y : Str} {px py p cpos : Pos} (C : Cal X.prog X.w X.K X.mg X.base CX0 1 "_law_begun" p_L_begun (SpB K)) (hr : Room 1 X.A) (hS : SqL K W.H s0 (cs.map V.int)) (he2 : EvE K X δ e W (.int (k : Int))) (hk : k ≤ 1000) (hcs : cs.length ≤ 100000)
    (h : ∀ m Z, Le W Z → Md Z m 0 → WB K X (δ.set i (some (.v (.ref m)))) rest Z P) (hj : δ[j]? = some (some (.v (.ref s0))) := by rfl) (hN : X.N[i]? = some x := by rfl) (hx : Loc X.env.scope x := by first | exact Or.inl rfl | exact Or.inr rfl) (hN2 : X.N[j]? = some y := by rfl)
    (hv : Vis X.env.scope y := by first | exact Or.inl rfl | exact Or.inr (Or.inl rfl) | exact Or.inr (Or.inr rfl)) (hd : (y == ("__debug__" : Str)) = false := by decide) (hcd : (y == ("__classdict__" : Str)) = false := by decide) (hg : Gl X "_law_begun" := by rfl)
    (he : starEach (.Name y py :: [e]) X.env = (false, eval (.Name y py) X.env) :: starEach [e] X.env := by rfl) (hpl : (backTo cpos (starEach [e] X.env)).any (·.1) = false := by rfl) (h1e : starEach [e] X.env = (false, eval e X.env) :: starEach [] X.env := by rfl)
    (hs : swapsWith (.Call (.Name "_law_begun" p) (.Name y py :: [e]) [] cpos) (some (.Name x px)) pos.line X.env = pure false := by rfl) (hf : X.fn x = true ∨ X.env.scope.names.lookup x = some .local := by first | exact .inl rfl | exact .inr rfl) :
    WB K X δ (.Assign [.Name x px] (.Call (.Name "_law_begun" p) (.Name y py :: [e]) [] cpos) pos :: rest) W P :=
  wb_cons fun σ r => by
    obtain ⟨f, fd, q1, q2, q3, q4⟩ := C
    obtain ⟨v, e1, e2⟩ := r.at_ j _ hj
    obtain rfl : v = .ref s0 := e2
    refine (ps_set g.nd hN hx (pe_call q4 hr hg q1 q2 q3 .nil pass0 (pa_cons (pe_var hN2 hv hd hcd) (pa_w X [e]) he) (by decide) he hpl) hs hf).w ⟨.ref s0, e1, ?_⟩
    refine (ea_cons he2 ea_nil h1e) W (Le.refl W) σ r _ fun vs U l rs => ?_
    obtain ⟨u, rfl, ru⟩ := rs.one_inv
    obtain rfl := ru.int_inv
    show SpB K ([V.ref s0, V.int (k : Int)] ++ []) U.H _ _
    rw [List.append_nil]
    exact ⟨U, s0, cs, k, rfl, rfl, l.h.l hS, hk, hcs, fun m Z lz mz => ⟨_, Z, rfl, SRep.set (s := .v (.ref m)) (r.up (l.g.tr lz.g)) rfl i, h m Z (l.tr lz) mz⟩⟩
/-! told rightly: True -/
theorem ev_told {p : Pos} {v : PyData} (C : CalG X.prog X.w X.K X.mg X.base 9 "_law_told_rightly" p_L_told_rightly (SpTold K)) (hr : Room 9 X.A) (hgd : X.A.guards = some []) (ha : EvE K X δ a W v) (hT : TameP v) (hg : Gl X "_law_told_rightly" := by rfl)
    (he : starEach [a] X.env = (false, eval a X.env) :: starEach [] X.env := by rfl) : EvE K X δ (.Call (.Name "_law_told_rightly" p) [a] [] pos) W (.bool true) :=
  ev_of fun U l => we_callGG C hr hgd (ea_cons (ha.up l) ea_nil he) (fun Z vs lz rs Q E q => ⟨Z, v, rfl, rs, hT, fun Y ly => q _ _ Y ly.g (.bl true) ⟨rfl, lz.tr ly⟩⟩) hg (by decide) he rfl
theorem we_told {p : Pos} {Post : PyData → Wd → Prop} (C : CalG X.prog X.w X.K X.mg X.base 9 "_law_told_rightly" p_L_told_rightly (SpTold K)) (hr : Room 9 X.A) (hgd : X.A.guards = some []) (ha : WE K X δ a W fun v U => TameP v ∧ ∀ Z, Le U Z → Post (.bool true) Z) (hg : Gl X "_law_told_rightly" := by rfl)
    (he : starEach [a] X.env = (false, eval a X.env) :: starEach [] X.env := by rfl) : WE K X δ (.Call (.Name "_law_told_rightly" p) [a] [] pos) W Post := fun σ r Q q => by
  obtain ⟨f, fd, h1, h2, h3, h4⟩ := C
  exact (pe_callG h4 hr hgd hg h1 h2 h3 (pa_cons (pe_w X a) pa_nil he) (by decide) he rfl).w (ha σ r _ fun v d U gu rv ⟨hT, k⟩ => ⟨U, d, rfl, .one rv, hT, fun Z l => q _ _ Z (gu.tr l.g) (.bl true) (k Z l)⟩)
theorem wt_val {Post : Bool → Wd → Prop} (h : WE K X δ a W fun d U => ∃ t, d = .bool t ∧ Post t U) (he : ∀ whole, isTrue a X.env whole = (do let v ← whole; standAt a.pos; holding [v] (truthy v)) := by intro _; rfl) : WT K X δ a W Post := fun σ s Q q =>
  (pt_val (pe_w X a) he).w (h σ s _ fun v d U gu rv ⟨t, e1, p⟩ => ⟨t, by rw [e1] at rv; exact rv.bool_inv, q t U gu p⟩)
theorem wt_not {Post : Bool → Wd → Prop} (h : WT K X δ a W fun t U => Post (!t) U) : WT K X δ (.UnaryOp .Not a pos) W Post := fun σ s Q q =>
  (pt_not (pt_w X a)).w (h σ s _ fun t U gu p => q (!t) U gu p)
theorem ev_br {p : Pos} {v : PyData} (C : Cal X.prog X.w X.K X.mg X.base CX0 7 "patch_breach" p_patch_breach (SpP K R_breach)) (hr : Room 7 X.A) (ha : EvE K X δ a W v) (hT : TameP v) (hg : Gl X "patch_breach" := by rfl)
    (he : starEach [a] X.env = (false, eval a X.env) :: starEach [] X.env := by rfl) : EvE K X δ (.Call (.Name "patch_breach" p) [a] [] pos) W (brD (breachO v)) :=
  ev_call C hr (ea_cons ha ea_nil he) ⟨v, rfl, hT, rfl⟩ hg (by decide) he rfl
end
/-! tame: a Bool -/
def tameOB (o : PyData) : Bool := match o with
  | .tuple [_, .tuple ds] => decide (ds.length ≤ 1000) && ds.all (pl 10)
  | _ => true
def tameSB (s : PyData) : Bool := match s with
  | .tuple ds => decide (ds.length ≤ 1000) && ds.all (pl 10)
  | _ => true
def lenB (l : PyData) : Bool := match l with
  | .tuple es => decide (es.length ≤ 1000)
  | _ => true
def tameTabB (v : PyData) : Bool := match v with
  | .tuple ls => decide (ls.length ≤ 1000) && ls.all fun l => pl 10 l && lenB l
  | _ => true
def tameTB (t : PyData) : Bool := match t with
  | .tuple ts => decide (ts.length ≤ 1000) && ts.all fun x => pl 11 x && tameTabB x
  | _ => true
def tamePB (v : PyData) : Bool := match v with
  | .tuple [_, o, s, t] => tameOB o && (tameSB s && tameTB t)
  | _ => true
theorem all_b {ds : List PyData} {n : Nat} (h : (decide (ds.length ≤ 1000) && ds.all (pl n)) = true) : ds.length ≤ 1000 ∧ ∀ x ∈ ds, pl n x = true := by
  rw [Bool.and_eq_true] at h
  exact ⟨of_decide_eq_true h.1, List.all_eq_true.mp h.2⟩
theorem tameO_b {o : PyData} (h : tameOB o = true) : TameO o := fun n ds e => by
  subst e
  exact all_b h
theorem tameS_b {o : PyData} (h : tameSB o = true) : TameS o := fun ds e => by
  subst e
  exact all_b h
theorem tameTab_b {o : PyData} (h : tameTabB o = true) : TameTab o := fun ls e => by
  subst e
  have h' : (decide (ls.length ≤ 1000) && ls.all fun l => pl 10 l && lenB l) = true := h
  rw [Bool.and_eq_true] at h'
  refine ⟨of_decide_eq_true h'.1, fun l hl => ?_⟩
  have q := List.all_eq_true.mp h'.2 l hl
  rw [Bool.and_eq_true] at q
  refine ⟨q.1, fun es e => ?_⟩
  subst e
  exact of_decide_eq_true q.2
theorem tameT_b {o : PyData} (h : tameTB o = true) : TameT o := fun ls e => by
  subst e
  have h' : (decide (ls.length ≤ 1000) && ls.all fun x => pl 11 x && tameTabB x) = true := h
  rw [Bool.and_eq_true] at h'
  refine ⟨of_decide_eq_true h'.1, fun l hl => ?_⟩
  have q := List.all_eq_true.mp h'.2 l hl
  rw [Bool.and_eq_true] at q
  exact ⟨q.1, tameTab_b q.2⟩
theorem tameP_b {v : PyData} (h : tamePB v = true) : TameP v := fun p o s t e => by
  subst e
  have h' : (tameOB o && (tameSB s && tameTB t)) = true := h
  rw [Bool.and_eq_true, Bool.and_eq_true] at h'
  exact ⟨tameO_b h'.1, tameS_b h'.2.1, tameT_b h'.2.2⟩
theorem tameP_patch {d : PyData} (h : isPatch d) : TameP d := by
  obtain ⟨p, n, ps, ss, Ts, rfl, hp, hn, hin, hpl, hsl, hTl, hTs⟩ := h
  exact tameP_mk (tameO_ord hpl) (tameS_ints (by omega)) (tameT_tabs (by omega) hTs)
end Pk
set_option Elab.async false
set_option linter.all false
set_option maxRecDepth 100000
set_option maxHeartbeats 2000000
/-! the law (this text is printed by gen_D17.py) -/
namespace Pk
open PySem PySem.Spec L2
open PyProof.Rows hiding St
def wideT : PyData := .tuple [.tuple [.tuple [.int 1, .int 0], .tuple [.int 0, .int 1]]]
def wideD : PyData := .tuple [.int 3, .tuple [.int 16, .tuple [.tuple [.int 14, .int 15]]], .tuple (List.replicate (16 : Int).toNat [.int 2]).flatten, wideT]
def threeD : PyData := .tuple [.int 3, .tuple [.tuple [.int 0, .int 1], .tuple [.int 0, .int 2], .tuple [.int 1, .int 2]]]
def sixD : PyData := .tuple [.int 6, .tuple []]
def threeL : List PyData := [wideD, .tuple [.int 3, .tuple [.int 17, .tuple [.tuple [.int 14, .int 15]]], .tuple (List.replicate (17 : Int).toNat [.int 2]).flatten, wideT], .tuple [.int 3, .tuple [.int 16, .tuple [.tuple [.int 15, .int 16]]], .tuple (List.replicate (16 : Int).toNat [.int 2]).flatten, wideT]]
def dueD : PyData := .list [.tuple [.str "ways", .int 1], .none, .tuple [.str "sizes", .int (-1)], .none, .none, .tuple [.str "table", .int 0], .tuple [.str "prime", .int (-1)], .tuple [.str "prime", .int (-1)], .tuple [.str "prime", .int (-1)], .tuple [.str "order", .int (-1)], .tuple [.str "sizes", .int (-1)], .tuple [.str "table", .int (-1)], .tuple [.str "table", .int (-1)]]
theorem shw_due : Shw dueD := ⟨by decide +kernel, by decide +kernel, by decide +kernel, sz (by decide +kernel), .inr ⟨_, .inr rfl⟩⟩
def SpLaw (K : PySem.W.Frag) : Sp := fun vs H Q _ => ∃ (a : Addr) (ns : List Int), vs = [.ref a] ∧ SqL K H a (ns.map V.int) ∧ ns.length ≤ 63 ∧ ∀ H', Q (.bl true) H'
section
variable {P : Program} {w : World} {K : PySem.W.Frag} {mg : Str → Option Value} {base : Heap} {f : Addr} {fd : FuncData}
theorem ok_law (F : Fun K "law" "law" s_law f fd) (B : Bn mg) (Cb : Cal P w K mg base CX0 1 "_law_begun" p_L_begun (SpB K)) (Cp : Cal P w K mg base CX0 3 "_law_prime" p_L_prime (SpM K (fun ds => ds = []) (fun _ d => ∃ p, d = .int p ∧ p ∈ primes) 1))
    (Co : Cal P w K mg base CX0 4 "_law_drawn_order" p_L_drawn_order (SpM K (fun ds => ds = [.int 6]) (fun _ d => isOrd d) 50)) (Cd : Cal P w K mg base CX0 4 "_law_drawn_patch" p_L_drawn_patch (SpM K prePatch (fun _ d => isPatch d) 30)) (Cn : Cal P w K mg base CX0 5 "_law_bent" p_L_bent (SpM K preBe (fun _ d => TameP d) 30))
    (CT : CalG P w K mg base 9 "_law_told_rightly" p_L_told_rightly (SpTold K)) (CL : CalG P w K mg base 1 "_law_like" p_L_like (SpLike K)) (C7 : Cal P w K mg base CX0 7 "patch_breach" p_patch_breach (SpP K R_breach)) : GOk P w K mg base 10 f fd p_law (SpLaw K) := by
  refine F.gok sc_law (fun vs H Q E h => ?_) fun cdv A outer s H vs Q E hr hgd h => ?_
  · obtain ⟨a, ns, rfl, _⟩ := h
    rfl
  obtain ⟨a, ns, rfl, hS, hl, q⟩ := h
  obtain ⟨W0, rfl⟩ : ∃ W0 : Wd, W0.H = H := ⟨⟨fun _ => none, H, fun _ _ e => by cases e⟩, rfl⟩
  refine ⟨_, pb_w _ _, ?_⟩
  have gX : Good K (FX P w K mg base n_law "law" s_law f cdv A outer s W0.H E) := ⟨rfl, rfl, sc_law.nd, hr.mono (Nat.zero_le _), B.bn⟩
  have hgd : (FX P w K mg base n_law "law" s_law f cdv A outer s W0.H E).A.guards = some [] := hgd
  have hr : Room 9 (FX P w K mg base n_law "law" s_law f cdv A outer s W0.H E).A := hr
  refine wB_imp (D := Po.ends K { nx := fun _ _ => False, rt := fun d _ => d = .bool true }) ?_ (fun σ H' ⟨_, _, _, _, z⟩ => z.elim) (fun v H' ⟨d', U, e, rv, e2⟩ => ?_) (fun _ _ ⟨_, _, _, _, z⟩ => z) fun _ _ ⟨_, _, _, _, z⟩ => z
  rotate_left
  · subst e2
    rw [rv.bool_inv]
    exact q H'
  refine WB.run_begun ?_ _ (srep_startM (m := a) (ds := []) .nil)
  have r1 := hr.mono (show 1 ≤ 9 by decide)
  have r3 := hr.mono (show 3 ≤ 9 by decide)
  have r4 := hr.mono (show 4 ≤ 9 by decide)
  have r5 := hr.mono (show 5 ≤ 9 by decide)
  have r7 := hr.mono (show 7 ≤ 9 by decide)
  have hml : (ns.map V.int).length = ns.length := List.length_map _
  have hbd : ∀ x : Int, x = (if (if (3 : Int) < ((ns.map V.int).length : Int) then (3 : Int) else ((ns.map V.int).length : Int)) > 1 then (if (3 : Int) < ((ns.map V.int).length : Int) then (3 : Int) else ((ns.map V.int).length : Int)) else 1) → 0 ≤ x ∧ x ≤ 3 := fun x hx => by
    subst hx
    repeat' split
    all_goals omega
  refine wb_for (ei_r1 (ev_max2 ev_int (ev_min2 (ev_lenM 0 hS) ev_int)) (by have := hbd _ rfl; omega)) (fun i δ1 Z => (∃ o1 o2 o3 o4 : Option Sl, δ1 = [some (.v (.ref a)), o1, o2, o3, o4, none, none, none, none, none, none]) ∧ SqL K Z.H a (ns.map V.int)) (fun Z lz => ⟨⟨none, none, none, none, rfl⟩, lz.h.l hS⟩) ?_ ?_
  · rintro i d δ1 V0 hd ⟨⟨o1, o2, o3, o4, rfl⟩, hS0⟩ Z lz
    obtain ⟨hi, rfl⟩ := rngN_at hd
    have hi' : i ≤ 3 := by have := hbd _ rfl; omega
    refine ⟨_, _, tg_name 1, ?_⟩
    have hSZ := lz.h.l hS0
    refine wb_begun 2 0 Cb r1 hSZ (ev_v 1) (by omega) (by omega) fun m Z1 l1 m1 => ?_
    have hS1 := l1.h.l hSZ
    refine wb_asgW 3 (we_callM 2 Cd r4 (wa_cons (we_callM 2 Cp r3 (wa_ev ea_nil fun Z2 l2 => ⟨0, m1.up l2, by omega, rfl, fun Y2 d2 dz2 mz2 ⟨p, e2, hp⟩ => wa_cons (we_callM 2 Co r4 (wa_ev (ea_cons ev_int ea_nil) fun Z3 l3 => ⟨0 + 1, mz2.up l3, by omega, rfl, fun Y3 d3 dz3 mz3 ⟨n, ps, e3, hn, hin, hpl⟩ => wa_ev (ea_cons ev_int (ea_cons ev_int ea_nil)) fun Z4 l4 => ⟨0 + 1 + 50, mz3.up l4, by omega, ⟨p, n, ps, by rw [e2, e3], hp, hn, hin, hpl⟩, fun Y5 d5 dz5 mz5 hP => ?_⟩⟩))⟩))))
    have dY5 : Dr m Z1 Y5 := (((((Dr.refl Z1).le l2).tr dz2).le l3).tr dz3 |>.le l4).tr dz5
    refine wb_when (t := false) (EvT.cast (et_not (et_val (ev_told CT hr hgd (ev_v 3) (tameP_patch hP)))) rfl) (fun h => absurd h (by decide)) fun _ U6 l6 => ?_
    refine wb_for (ei_r1 ev_int (by decide)) (fun j δ1 Z => (∃ o4 : Option Sl, δ1 = [some (.v (.ref a)), some (.d (.int (i : Int))), some (.v (.ref m)), some (.d d5), o4, none, none, none, none, none, none]) ∧ Dr m Z1 Z ∧ Md Z m (100 + j * 30)) (fun Z lz => ⟨⟨o4, rfl⟩, dY5.le (l6.tr lz), (mz5.up (l6.tr lz)).more (by omega)⟩) ?_ ?_
    · rintro j d δ1 V1 hd ⟨⟨o4', rfl⟩, dV, mV⟩ Z8 lz8
      obtain ⟨hj, rfl⟩ := rngN_at hd
      have hj' : j < 12 := by simpa using hj
      refine ⟨_, _, tg_name 4, ?_⟩
      refine wb_whenJ (fun t U => t = false ∧ Dr m Z8 U ∧ Md U m (100 + (j + 1) * 30)) (wt_not (wt_val (we_told CT hr hgd (we_callM 2 Cn r5 (wa_ev (ea_cons (ev_v 3) ea_nil) fun Z9 l9 => ⟨100 + j * 30, (mV.up lz8).up l9, by omega, ⟨d5, rfl, hP⟩, fun Y9 d9 dz9 mz9 hT => ⟨hT, fun Z10 l10 => ⟨true, rfl, rfl, (((Dr.refl Z8).le l9).tr dz9).le l10, (mz9.up l10).more (by omega)⟩⟩⟩))))) (fun U ⟨h, _⟩ => Bool.noConfusion h) fun U ⟨_, dU, mU⟩ => wb_nil ⟨dU.g, ⟨_, rfl⟩, (dV.le lz8).tr dU, mU⟩
    · rintro δ1 V1 ⟨⟨o4', rfl⟩, dV, mV⟩
      exact wb_nil ⟨l1.g.tr dV.g, ⟨_, _, _, _, rfl⟩, sql_dr hS1 m1 dV⟩
  rintro δ1 V0 ⟨⟨o1, o2, o3, o4, rfl⟩, _⟩
  refine wb_asg 5 (EvE.cast (d' := wideD) (ev_T (ea_cons ev_int (ea_cons (ev_T (ea_cons ev_int (ea_cons (ev_T (ea_cons (ev_T (ea_cons ev_int (ea_cons ev_int ea_nil))) ea_nil)) ea_nil))) (ea_cons (ev_mulT (ev_T (ea_cons ev_int ea_nil)) ev_int (by simp) (by decide) (by decide) (by simp)) (ea_cons (ev_T (ea_cons (ev_T (ea_cons (ev_T (ea_cons ev_int (ea_cons ev_int ea_nil))) (ea_cons (ev_T (ea_cons ev_int (ea_cons ev_int ea_nil))) ea_nil))) ea_nil)) ea_nil))))) rfl) fun U1 l1 => ?_
  refine wb_for (ei_l (EvE.cast (d' := .list threeL) (ev_L (ea_cons (ev_v (d := wideD) 5) (ea_cons (ev_T (ea_cons ev_int (ea_cons (ev_T (ea_cons ev_int (ea_cons (ev_T (ea_cons (ev_T (ea_cons ev_int (ea_cons ev_int ea_nil))) ea_nil)) ea_nil))) (ea_cons (ev_mulT (ev_T (ea_cons ev_int ea_nil)) ev_int (by simp) (by decide) (by decide) (by simp)) (ea_cons (ev_ix (i := 3) (.t _) (ev_v (d := wideD) 5) ev_int rfl) ea_nil))))) (ea_cons (ev_T (ea_cons ev_int (ea_cons (ev_T (ea_cons ev_int (ea_cons (ev_T (ea_cons (ev_T (ea_cons ev_int (ea_cons ev_int ea_nil))) ea_nil)) ea_nil))) (ea_cons (ev_mulT (ev_T (ea_cons ev_int ea_nil)) ev_int (by simp) (by decide) (by decide) (by simp)) (ea_cons (ev_ix (i := 3) (.t _) (ev_v (d := wideD) 5) ev_int rfl) ea_nil))))) ea_nil)))) rfl)) (fun i δ1 Z => ∃ o6 : Option Sl, δ1 = [some (.v (.ref a)), o1, o2, o3, o4, some (.d wideD), o6, none, none, none, none]) (fun Z lz => ⟨none, rfl⟩) ?_ ?_
  · rintro i d δ1 V0 hd ⟨o6, rfl⟩ Z lz
    have hT : TameP d := all_cons (Q := TameP) (tameP_b (by decide +kernel)) (all_cons (tameP_b (by decide +kernel)) (all_cons (tameP_b (by decide +kernel)) all_nil)) d (List.mem_of_getElem? hd)
    refine ⟨_, _, tg_name 6, ?_⟩
    exact wb_when (t := false) (EvT.cast (et_not (et_val (ev_told CT (hr.mono (by decide)) hgd (ev_v 6) hT))) rfl) (fun h => absurd h (by decide)) fun _ U l => wb_nil ⟨l.g, _, rfl⟩
  rintro δ1 V0 ⟨o6, rfl⟩
  refine wb_asgT (ev_T (ea_cons (EvE.cast (d' := threeD) (ev_T (ea_cons ev_int (ea_cons (ev_T (ea_cons (ev_T (ea_cons ev_int (ea_cons ev_int ea_nil))) (ea_cons (ev_T (ea_cons ev_int (ea_cons ev_int ea_nil))) (ea_cons (ev_T (ea_cons ev_int (ea_cons ev_int ea_nil))) ea_nil)))) ea_nil))) rfl) (ea_cons (EvE.cast (d' := sixD) (ev_T (ea_cons ev_int (ea_cons (ev_T ea_nil) ea_nil))) rfl) ea_nil))) (tg_tup (tgs_cons (tg_name 7) (tgs_cons (tg_name 8) tgs_nil)) rfl) fun U2 l2 => ?_
  refine wb_asg 9 (ev_L (ea_cons (ev_br C7 r7 (ev_T (ea_cons ev_int (ea_cons (ev_v (d := threeD) 7) (ea_cons (ev_T (ea_cons ev_int (ea_cons ev_int (ea_cons ev_int ea_nil)))) (ea_cons (ev_T (ea_cons (ev_T (ea_cons (ev_T (ea_cons ev_int ea_nil)) ea_nil)) (ea_cons (ev_T (ea_cons (ev_T (ea_cons ev_int ea_nil)) ea_nil)) (ea_cons (ev_T (ea_cons (ev_T (ea_cons ev_int ea_nil)) ea_nil)) ea_nil)))) ea_nil))))) (tameP_b (by decide +kernel))) (ea_cons (ev_br C7 r7 (ev_T (ea_cons ev_int (ea_cons (ev_v (d := sixD) 8) (ea_cons (ev_T (ea_cons ev_int (ea_cons ev_int (ea_cons ev_int (ea_cons ev_int (ea_cons ev_int (ea_cons ev_int ea_nil))))))) (ea_cons (ev_T ea_nil) ea_nil))))) (tameP_b (by decide +kernel))) ea_nil))) fun U3 l3 => ?_
  refine wb_asg 9 (ev_catL (ev_v 9) (ev_L (ea_cons (ev_br C7 r7 (ev_T (ea_cons ev_int (ea_cons (ev_v (d := sixD) 8) (ea_cons (ev_T (ea_cons ev_int (ea_cons ev_int (ea_cons ev_int (ea_cons ev_int (ea_cons ev_int (ea_cons ev_int ea_nil))))))) (ea_cons (ev_T ea_nil) ea_nil))))) (tameP_b (by decide +kernel))) (ea_cons (ev_br C7 r7 (ev_T (ea_cons ev_int (ea_cons (ev_T (ea_cons ev_int (ea_cons (ev_T ea_nil) ea_nil))) (ea_cons (ev_T ea_nil) (ea_cons (ev_T ea_nil) ea_nil))))) (tameP_b (by decide +kernel))) ea_nil))) (by simp)) fun U4 l4 => ?_
  refine wb_asg 9 (ev_catL (ev_v 9) (ev_L (ea_cons (ev_br C7 r7 (ev_T (ea_cons ev_int (ea_cons (ev_T (ea_cons ev_int (ea_cons (ev_T (ea_cons (ev_T (ea_cons ev_int (ea_cons ev_int ea_nil))) ea_nil)) ea_nil))) (ea_cons (ev_T (ea_cons ev_int (ea_cons ev_int ea_nil))) (ea_cons (ev_T (ea_cons (ev_T (ea_cons (ev_T ea_nil) (ea_cons (ev_T ea_nil) ea_nil))) ea_nil)) ea_nil))))) (tameP_b (by decide +kernel))) (ea_cons (ev_br C7 r7 (ev_T (ea_cons ev_int (ea_cons (ev_T (ea_cons ev_int (ea_cons (ev_T (ea_cons (ev_T (ea_cons ev_int (ea_cons ev_int ea_nil))) ea_nil)) ea_nil))) (ea_cons (ev_T (ea_cons ev_int (ea_cons ev_int ea_nil))) (ea_cons (ev_T (ea_cons (ev_T (ea_cons (ev_T ea_nil) ea_nil)) ea_nil)) ea_nil))))) (tameP_b (by decide +kernel))) ea_nil))) (by simp)) fun U5 l5 => ?_
  refine wb_asg 9 (ev_catL (ev_v 9) (ev_L (ea_cons (ev_br C7 r7 (ev_T (ea_cons ev_int (ea_cons (ev_T (ea_cons ev_int (ea_cons (ev_T ea_nil) ea_nil))) (ea_cons (ev_T ea_nil) (ea_cons (ev_T ea_nil) ea_nil))))) (tameP_b (by decide +kernel))) (ea_cons (ev_br C7 r7 (ev_T (ea_cons (ev_L (ea_cons ev_int ea_nil)) (ea_cons (ev_v (d := sixD) 8) (ea_cons (ev_mulT (ev_T (ea_cons ev_int ea_nil)) ev_int (by simp) (by decide) (by decide) (by simp)) (ea_cons (ev_T ea_nil) ea_nil))))) (tameP_b (by decide +kernel))) (ea_cons (ev_br C7 r7 (ev_T (ea_cons ev_dict0 (ea_cons ev_non (ea_cons (ev_T ea_nil) (ea_cons (ev_T ea_nil) ea_nil))))) (tameP_b (by decide +kernel))) ea_nil)))) (by simp)) fun U6 l6 => ?_
  refine wb_asg 9 (ev_catL (ev_v 9) (ev_L (ea_cons (ev_br C7 r7 (ev_T (ea_cons ev_int (ea_cons (ev_T (ea_cons ev_int (ea_cons (ev_T (ea_cons (ev_T (ea_cons ev_int (ea_cons ev_int ea_nil))) ea_nil)) ea_nil))) (ea_cons (ev_T (ea_cons ev_int (ea_cons ev_int ea_nil))) (ea_cons (ev_T ea_nil) ea_nil))))) (tameP_b (by decide +kernel))) (ea_cons (ev_br C7 r7 (ev_T (ea_cons ev_int (ea_cons (ev_v (d := sixD) 8) (ea_cons (ev_mulT (ev_T (ea_cons (ev_L (ea_cons ev_int ea_nil)) ea_nil)) ev_int (by simp) (by decide) (by decide) (by simp)) (ea_cons ev_non ea_nil))))) (tameP_b (by decide +kernel))) ea_nil))) (by simp)) fun U7 l7 => ?_
  refine wb_asg 9 (ev_catL (ev_v 9) (ev_L (ea_cons (ev_br C7 r7 (ev_T (ea_cons ev_int (ea_cons (ev_v (d := sixD) 8) (ea_cons (ev_mulT (ev_T (ea_cons ev_int ea_nil)) ev_int (by simp) (by decide) (by decide) (by simp)) (ea_cons ev_non ea_nil))))) (tameP_b (by decide +kernel))) (ea_cons (ev_br C7 r7 (ev_T (ea_cons ev_int (ea_cons (ev_v (d := sixD) 8) (ea_cons (ev_mulT (ev_T (ea_cons ev_int ea_nil)) ev_int (by simp) (by decide) (by decide) (by simp)) (ea_cons (ev_T (ea_cons (ev_T ea_nil) ea_nil)) ea_nil))))) (tameP_b (by decide +kernel))) ea_nil))) (by simp)) fun U8 l8 => ?_
  refine wb_asg 10 (ev_L (ea_cons (ev_T (ea_cons ev_str (ea_cons ev_int ea_nil))) (ea_cons ev_non (ea_cons (ev_T (ea_cons ev_str (ea_cons (ev_neg ev_int) ea_nil))) (ea_cons ev_non (ea_cons ev_non (ea_cons (ev_T (ea_cons ev_str (ea_cons ev_int ea_nil))) (ea_cons (ev_T (ea_cons ev_str (ea_cons (ev_neg ev_int) ea_nil))) (ea_cons (ev_T (ea_cons ev_str (ea_cons (ev_neg ev_int) ea_nil))) (ea_cons (ev_T (ea_cons ev_str (ea_cons (ev_neg ev_int) ea_nil))) ea_nil)))))))))) fun U9 l9 => ?_
  exact wb_ret (ev_like CL (hr.mono (by decide)) hgd (EvE.cast (d' := dueD) (ev_v 9) (by kernel_rfl)) (EvE.cast (d' := dueD) (ev_catL (ev_v 10) (ev_L (ea_cons (ev_T (ea_cons ev_str (ea_cons (ev_neg ev_int) ea_nil))) (ea_cons (ev_T (ea_cons ev_str (ea_cons (ev_neg ev_int) ea_nil))) (ea_cons (ev_T (ea_cons ev_str (ea_cons (ev_neg ev_int) ea_nil))) (ea_cons (ev_T (ea_cons ev_str (ea_cons (ev_neg ev_int) ea_nil))) ea_nil))))) (by simp)) (by kernel_rfl)) shw_due) fun Z lz => rfl
end
end Pk
set_option Elab.async false
set_option linter.all false
set_option maxRecDepth 100000
set_option maxHeartbeats 4000000
/-! what the head tells of the two classes with their own __init__, as Bools -/
namespace PkX
open PySem PySem.W PySem.Calls PyProof.Rows PySem.HandSPX
def clsXB (K : Frag) (C : Addr) : Bool := match K.lookup C with
  | some ⟨.type t, _, .cls cd, sl⟩ => decide (t = "type") && ((match cd.mro with
    | .ref c :: bm => decide (c = C) && refsVE bm
    | _ => false) && ((match sl.toList with
    | [_, _, _, _, some (.builtin n), _] => decide (n = "ValueError.__new__")
    | _ => false) && (cd.hasDict && !cd.hasDel)))
  | _ => false
theorem clsXB_ok {K : Frag} {C : Addr} (h : clsXB K C = true) : ∃ nm q N bs bm sn sub ab col dd k0 k1 k2 k3 k5, K.lookup C = some (excClassObj nm q C N bs bm true sn sub ab col dd k0 k1 k2 k3 k5 "ValueError.__new__") ∧ refsVE bm = true := by
  unfold clsXB at h
  split at h
  · rename_i t dd cd sl ho
    obtain ⟨nm, bs, mro, ns, qn, hd, sn, sub, ab, col, del⟩ := cd
    obtain ⟨sl⟩ := sl
    simp only [Bool.and_eq_true, decide_eq_true_eq, Bool.not_eq_true'] at h
    obtain ⟨h1, h2, h3, h4, h5⟩ := h
    split at h2
    · rename_i c bm
      simp only [Bool.and_eq_true, decide_eq_true_eq] at h2
      split at h3
      · rename_i k0 k1 k2 k3 n k5
        simp only [decide_eq_true_eq] at h3
        obtain ⟨e1, e2⟩ := h2
        have h4' : hd = true := h4
        have h5' : del = false := h5
        subst h1 e1 h3 h4' h5'
        exact ⟨_, _, _, _, _, _, _, _, _, _, _, _, _, _, _, ho, e2⟩
      · cases h3
    · cases h2
  · cases h
abbrev FnI : Type := Option (Str × Str × Arguments × FuncBody × Scope × Addr × Addr)
def fnI (K : Frag) (fI : Addr) : FnI := match K.lookup fI with
  | some ⟨_, _, .func fd, _⟩ => some (fd.name, fd.qualname, fd.params, fd.body, fd.scope, fd.globals, fd.builtins)
  | _ => none
def ccOf (K : Frag) (fI : Addr) : Addr := match K.lookup fI with
  | some ⟨_, _, .func fd, _⟩ => (match fd.closure with
    | [(_, c)] => c
    | _ => 0)
  | _ => 0
def cdOf (K : Frag) (fI : Addr) : Addr := match K.lookup fI with
  | some ⟨_, _, .func fd, _⟩ => (match fd.code with
    | .ref c => c
    | _ => 0)
  | _ => 0
def fnB (K : Frag) (fI : Addr) : Bool := match K.lookup fI with
  | some ⟨_, _, .func fd, _⟩ => (match fd.closure with
    | [(n, _)] => decide (n = ("__class__" : Str))
    | _ => false) && ((match fd.defaults with
    | .none => true
    | _ => false) && (match fd.code with
    | .ref _ => true
    | _ => false))
  | _ => false
theorem fnB_ok {K : Frag} {fI : Addr} {qual : Str} {params : Arguments} {body : List Stmt} {scope : Scope} (e : fnI K fI = some (("__init__" : Str), qual, params, FuncBody.stmts body, scope, mainGlobals, builtinsNs)) (h : fnB K fI = true) :
    ∃ oc od kV doc pm an ct osl, K.lookup fI = some ⟨oc, od, .func (ksFn "__init__" qual params body scope .none kV doc pm an (.ref (cdOf K fI)) ct (ccOf K fI)), osl⟩ := by
  unfold fnI at e
  unfold fnB at h
  unfold cdOf ccOf
  cases q : K.lookup fI with
  | none => rw [q] at h; cases h
  | some o =>
    obtain ⟨oc, od, dt, osl⟩ := o
    rw [q] at h e
    cases dt with
    | func fd =>
      obtain ⟨n1, n2, n3, n4, n5, n6, n7, n8, n9, n10, n11, n12, n13, n14, n15⟩ := fd
      simp only [Option.some.injEq, Prod.mk.injEq] at e
      obtain ⟨e1, e2, e3, e4, e5, e6, e7⟩ := e
      dsimp only at e1 e2 e3 e4 e5 e6 e7 h ⊢
      subst e1 e2 e3 e4 e5 e6 e7
      simp only [Bool.and_eq_true] at h
      obtain ⟨h1, h2, h3⟩ := h
      split at h1
      · rename_i nn cc
        split at h2
        · split at h3
          · rename_i cda
            rw [of_decide_eq_true h1]
            exact ⟨_, _, _, _, _, _, _, _, rfl⟩
          · cases h3
        · cases h2
      · cases h1
    | _ => cases h
def codeB (P : Program) (K : Frag) (cda : Addr) (qual : Str) : Bool := codeIn K (.ref cda) qual && (match K.lookup cda with
  | some ⟨_, _, .fields vs, _⟩ => (match (vs[2]? : Option Value) with
    | some (Value.str file _) => (P.main.file : Str) == file
    | _ => false)
  | _ => false)
theorem codeB_ok {P : Program} {K : Frag} {cda : Addr} {qual : Str} (h : codeB P K cda qual = true) : codeIn K (.ref cda) qual = true ∧ ∃ ccl cdd vs ccs file tf, K.lookup cda = some ⟨ccl, cdd, .fields vs, ccs⟩ ∧ vs[2]? = some (.str file tf) ∧ ((P.main.file : Str) == file) = true := by
  unfold codeB at h
  rw [Bool.and_eq_true] at h
  refine ⟨h.1, ?_⟩
  have h2 := h.2
  split at h2
  · rename_i ccl cdd vs ccs ho
    split at h2
    · rename_i file tf hv
      exact ⟨_, _, _, _, _, _, ho, hv, h2⟩
    · cases h2
  · cases h2
def cellB (K : Frag) (cc C : Addr) : Bool := match K.lookup cc with
  | some ⟨_, _, .cell (some (.ref c)), _⟩ => decide (c = C)
  | _ => false
theorem cellB_ok {K : Frag} {cc C : Addr} (h : cellB K cc C = true) : ∃ cl cld csl, K.lookup cc = some ⟨cl, cld, .cell (some (.ref C)), csl⟩ := by
  unfold cellB at h
  split at h
  · rename_i cl cld c csl ho
    rw [← of_decide_eq_true h]
    exact ⟨_, _, _, ho⟩
  · cases h
def fIOf (K : Frag) (C : Addr) : Addr := He.ma K C "__init__"
def xtB (P : Program) (K : Frag) (C : Addr) (qual : Str) : Bool :=
  clsXB K C && (fnB K (fIOf K C) && (codeB P K (cdOf K (fIOf K C)) qual && (cellB K (ccOf K (fIOf K C)) C && (decide (findIn K (.ref C) "__init__" = some (some (.ref (fIOf K C)))) && (decide (typeIn K (.ref (fIOf K C)) = some (.type "function")) && (decide (mroIn K C (.ref C) = some true)
    && (decide (ks_superIn K C C "__init__" = some (some (.builtin "ValueError.__init__"))) && (decide (subIn K (.ref C) (.type "ValueError") = some true) && (decide (nsIn K cStatics "thirdparty.any" = some none) && !(P.main.scope.names.lookup ("super" : Str)).isSome)))))))))
theorem xtB_ok {P : Program} {K : Frag} {C : Addr} {qual : Str} {params : Arguments} {body : List Stmt} {scope : Scope} (e : fnI K (fIOf K C) = some (("__init__" : Str), qual, params, FuncBody.stmts body, scope, mainGlobals, builtinsNs)) (h : xtB P K C qual = true) :
    XT P K C (fIOf K C) (ccOf K (fIOf K C)) (cdOf K (fIOf K C)) qual params body scope := by
  unfold xtB at h
  simp only [Bool.and_eq_true, decide_eq_true_eq] at h
  obtain ⟨h1, h2, h3, h4, h5, h6, h7, h8, h9, h10, h11⟩ := h
  exact ⟨clsXB_ok h1, h5, h6, fnB_ok e h2, (codeB_ok h3).1, (codeB_ok h3).2, cellB_ok h4, h7, h8, h9, h10, by simpa using h11⟩
def xclB (K : Frag) (C : Addr) : Bool := decide (findIn K (.ref C) "__setattr__" = some (some (.builtin "object.__setattr__"))) && (decide (findIn K (.ref C) "rule" = some none) && (decide (findIn K (.ref C) "place" = some none) && (keepIn K (.ref C)
  && (decide (subIn K (.ref C) (.type "BaseException") = some true) && (decide (typeIn K (.ref C) = some (.type "type")) && decide (exmOne K (.ref C) (.ref C) = some true))))))
theorem xclB_ok {K : Frag} {C : Addr} (h : xclB K C = true) : L2.XCls K C ∧ exmOne K (.ref C) (.ref C) = some true := by
  unfold xclB at h
  simp only [Bool.and_eq_true, decide_eq_true_eq] at h
  obtain ⟨h1, h2, h3, h4, h5, h6, h7⟩ := h
  refine ⟨⟨⟨h1, fun f hf => ?_⟩, h4, h5, h6⟩, h7⟩
  rcases List.mem_cons.mp hf with rfl | hf
  · exact h2
  · rw [List.mem_singleton.mp hf]; exact h3
def excB (K : Frag) (C CE CO CF : Addr) : Bool := decide (findIn K (.ref C) "__getattribute__" = some (some (.builtin "BaseException.__getattribute__"))) && (decide (findIn K (.ref C) "__getattr__" = some none) && (decide (subIn K (.ref C) (.type "BaseException") = some true) && (hasDictIn K C
  && (decide (findIn K (.ref C) "__class__" = some (some (.builtin "object.__class__"))) && (decide (specialIn K (.builtin "object.__class__") "__get__" = some (some (.builtin "getset_descriptor.__get__"))) && (decide (takesIn K (.builtin "object.__class__") = some true) && (decide (mroIn K C (.type "object") = some true)
  && (decide (kitOne K (.ref C) (.ref CE) = some true) && decide (kitAny K (.ref C) [.ref CO, .ref CF] = some false)))))))))
theorem excB_ok {K : Frag} {C CE CO CF : Addr} {mg : Str → Option Value} (g1 : mg "PatchError" = some (.ref CE)) (g2 : mg "NotOrder" = some (.ref CO)) (g3 : mg "NotFit" = some (.ref CF)) (h : excB K C CE CO CF = true) : Pk.HasE K mg C := by
  unfold excB at h
  simp only [Bool.and_eq_true, decide_eq_true_eq] at h
  obtain ⟨h1, h2, h3, h4, h5, h6, h7, h8, h9, h10⟩ := h
  exact ⟨⟨h1, h2, h3, h4, h5, h6, h7, h8⟩, ⟨CE, g1, h9⟩, ⟨CO, CF, g2, g3, h10⟩, h1, h2⟩
end PkX
set_option Elab.async false
set_option linter.all false
set_option maxRecDepth 100000
set_option maxHeartbeats 0
namespace PkHead
open PySem PySem.Spec PyProof.Rows L2
def dOf (x : Str) (i : Nat) : He.DefD := ⟨(x, none), x, x, defArgs (Pk.tp i), defBody (Pk.tp i), defScope (Pk.tp i), [], []⟩
def fn0 : List He.DefD := [dOf "is_integer" 7, dOf "is_spot" 8, dOf "is_pair" 9, dOf "ascends" 10, dOf "has_form" 11, dOf "need_order" 12, dOf "above_lists" 13, dOf "behind_table" 15, dOf "is_number" 20, dOf "is_order" 21, dOf "are_sizes" 22, dOf "is_table" 23]
def fn1 : List He.DefD := [dOf "table_place" 24, dOf "ways_place" 25, dOf "patch_breach" 26, dOf "need_patch" 27, dOf "_law_begun" 29, dOf "_law_draw" 30, dOf "_law_of" 31, dOf "_law_shuffled" 32, dOf "_law_like" 33, dOf "_law_back" 34, dOf "_law_off" 35, dOf "_law_reduced" 36]
def fn2 : List He.DefD := [dOf "_law_leads" 37, dOf "_law_rest" 38, dOf "_law_turned" 39, dOf "_law_behind" 40, dOf "_law_unit" 41, dOf "_law_closed" 42, dOf "_law_drawn_order" 43, dOf "_law_drawn_patch" 44, dOf "_law_lead" 45, dOf "_law_prime" 46, dOf "_law_whole" 47, dOf "_law_is_pair" 48]
def fn3 : List He.DefD := [dOf "_law_is_order" 49, dOf "_law_is_table" 50, dOf "_law_breach" 51, dOf "_law_put" 52, dOf "_law_bent_table" 53, dOf "_law_odd_prime" 54, dOf "_law_odd_order" 55, dOf "_law_odd_sizes" 56, dOf "_law_odd_tables" 57, dOf "_law_bent" 58, dOf "_law_told_rightly" 59, dOf "law" 60]
def fn : List He.DefD := fn0 ++ fn1 ++ fn2 ++ fn3
def fa0 : List He.Fa := [.free "isinstance", .free "int", .free "bool", .free "tuple", .free "all", .free "zip", .free "range", .free "len", .free "sum", .free "enumerate", .free "dict", .free "list", .free "repr", .free "sorted", .free "set", .free "max", .free "min", .free "super", .free "ValueError"]
def fa1 : List He.Fa := [.int "MOST_SPOTS" 16, .int "MOST_HERE" 8, .int "MOST_IN_ALL" 40]
def fg0 : List He.Fa := [.glo "is_integer", .glo "is_spot", .glo "is_pair", .glo "ascends", .glo "has_form", .glo "need_order", .glo "above_lists", .glo "behind_table", .glo "is_number", .glo "is_order", .glo "are_sizes", .glo "is_table"]
def fg1 : List He.Fa := [.glo "table_place", .glo "ways_place", .glo "patch_breach", .glo "need_patch", .glo "_law_begun", .glo "_law_draw", .glo "_law_of", .glo "_law_shuffled", .glo "_law_like", .glo "_law_back", .glo "_law_off", .glo "_law_reduced"]
def fg2 : List He.Fa := [.glo "_law_leads", .glo "_law_rest", .glo "_law_turned", .glo "_law_behind", .glo "_law_unit", .glo "_law_closed", .glo "_law_drawn_order", .glo "_law_drawn_patch", .glo "_law_lead", .glo "_law_prime", .glo "_law_whole", .glo "_law_is_pair"]
def fg3 : List He.Fa := [.glo "_law_is_order", .glo "_law_is_table", .glo "_law_breach", .glo "_law_put", .glo "_law_bent_table", .glo "_law_odd_prime", .glo "_law_odd_order", .glo "_law_odd_sizes", .glo "_law_odd_tables", .glo "_law_bent", .glo "_law_told_rightly", .glo "law"]
def fgC : List He.Fa := [.glo "PatchError", .glo "NotOrder", .glo "NotPatch", .glo "NotFit", .glo "PRIMES"]
def fa : List He.Fa := fa0 ++ fa1 ++ fgC ++ fg0 ++ fg1 ++ fg2 ++ fg3
def lo0 : List Str := ["PatchError", "NotOrder", "NotPatch", "NotFit", "MOST_SPOTS", "is_integer", "is_spot", "is_pair", "ascends", "has_form", "need_order", "above_lists", "behind_table", "PRIMES", "MOST_HERE", "MOST_IN_ALL", "is_number", "is_order", "are_sizes", "is_table"]
def lo1 : List Str := ["table_place", "ways_place", "patch_breach", "need_patch", "_law_begun", "_law_draw", "_law_of", "_law_shuffled", "_law_like", "_law_back", "_law_off", "_law_reduced", "_law_leads", "_law_rest", "_law_turned", "_law_behind", "_law_unit", "_law_closed", "_law_drawn_order", "_law_drawn_patch"]
def lo2 : List Str := ["_law_lead", "_law_prime", "_law_whole", "_law_is_pair", "_law_is_order", "_law_is_table", "_law_breach", "_law_put", "_law_bent_table", "_law_odd_prime", "_law_odd_order", "_law_odd_sizes", "_law_odd_tables", "_law_bent", "_law_told_rightly"]
def loose : List Str := lo0 ++ lo1 ++ lo2
/-! the hook: facts of names and defs, of the two classes, their __init__ -/
abbrev AlP : Type := He.AlD × (Bool × List PkX.FnI)
def asP (g : Addr → Option Obj) (n : Nat) : List Addr := He.asD g n ++ [cStatics]
abbrev aO (K : PySem.W.Frag) : Addr := He.ga K "NotOrder"
abbrev aP (K : PySem.W.Frag) : Addr := He.ga K "NotPatch"
abbrev R : PySem.W.OpenRow := PySem.W.OpenLaw.row PySem.Challenge.rw_patchrooms_k12_whole_patches_judged
def primesD : List He.Dv := [.int 2, .int 3, .int 5, .int 7, .int 11, .int 13]
def exm (K : PySem.W.Frag) : Bool := He.tupB K "PRIMES" primesD && (PkX.xtB R.prog K (aO K) "NotOrder.__init__" && (PkX.xtB R.prog K (aP K) "NotPatch.__init__" && (PkX.xclB K (aO K) && (PkX.xclB K (aP K) && PkX.excB K (aP K) (He.ga K "PatchError") (aO K) (He.ga K "NotFit")))))
def obsK (fa : List He.Fa) (fn : List He.DefD) (K : PySem.W.Frag) : AlP := (He.obsD fa fn K, (exm K, [PkX.fnI K (PkX.fIOf K (aO K)), PkX.fnI K (PkX.fIOf K (aP K))]))
def valP (fn : List He.DefD) : AlP := (He.valD fn, (true, [some (("__init__" : Str), ("NotOrder.__init__" : Str), L2.defArgs PkX.iO, FuncBody.stmts (L2.defBody PkX.iO), L2.defScope PkX.iO, mainGlobals, builtinsNs), some (("__init__" : Str), ("NotPatch.__init__" : Str), L2.defArgs PkX.iP, FuncBody.stmts (L2.defBody PkX.iP), L2.defScope PkX.iP, mainGlobals, builtinsNs)]))
def obsP (n : Nat) (fa : List He.Fa) (fn : List He.DefD) (g : Addr → Option Obj) : AlP := obsK fa fn (He.frG g (asP g n))
structure SaysP (fa : List He.Fa) (fn : List He.DefD) (K : PySem.W.Frag) : Prop where
  d : He.SaysD fa fn K
  ex : exm K = true
  io : PkX.fnI K (PkX.fIOf K (aO K)) = some (("__init__" : Str), ("NotOrder.__init__" : Str), L2.defArgs PkX.iO, FuncBody.stmts (L2.defBody PkX.iO), L2.defScope PkX.iO, mainGlobals, builtinsNs)
  ip : PkX.fnI K (PkX.fIOf K (aP K)) = some (("__init__" : Str), ("NotPatch.__init__" : Str), L2.defArgs PkX.iP, FuncBody.stmts (L2.defBody PkX.iP), L2.defScope PkX.iP, mainGlobals, builtinsNs)
theorem says_of {fa : List He.Fa} {fn : List He.DefD} {K : PySem.W.Frag} (e : obsK fa fn K = valP fn) : SaysP fa fn K := by
  have e1 := congrArg (fun z : AlP => z.1) e
  have e2 := congrArg (fun z : AlP => z.2.1) e
  have e3 := congrArg (fun z : AlP => z.2.2) e
  injection (show [_, _] = [_, _] from e3) with e4 e5
  injection e5 with e5 _
  exact ⟨e1, e2, e4, e5⟩
def hookP (n : Nat) (fa : List He.Fa) (fn : List He.DefD) : PySem.W.Hook where
  α := AlP
  obs := fun s => obsP n fa fn s.heap.get?
  val := fun _ => valP fn
  says := fun _ h => ∃ K : PySem.W.Frag, K.In h ∧ SaysP fa fn K
  of := fun _ _ e => ⟨_, He.frG_in, says_of e⟩
  keeps := fun _ _ _ ⟨K, hK, c⟩ k => ⟨K, PySem.W.Frag.In.keeps hK k, c⟩
theorem obsP_eq {n : Nat} {fa : List He.Fa} {fn : List He.DefD} {g : Addr → Option Obj} {s : Shared} (h : ∀ a, g a = s.heap.get? a) : obsP n fa fn g = (hookP n fa fn).obs s := by
  have q : g = s.heap.get? := funext h
  subst q
  rfl
abbrev hk : PySem.W.Hook := hookP 5 fa fn
def ob (s : PySem.W.SharedT) : AlP := obsP 5 fa fn (HandSHeadRun.getT s)
theorem ob_eq (s : PySem.W.SharedT) : ob s = hk.obs s.abs := obsP_eq (HandSHeadRun.getT_eq s)
theorem run (w : World) : HandSHeadRun.RunEq R (PySem.W.view R.prog [60]) hk ob 4000 loose w := by
  intro os
  kernel_rfl
end PkHead
set_option Elab.async false
set_option linter.all false
set_option maxRecDepth 100000
set_option maxHeartbeats 4000000
/-! the law's call, by a promise that wants no guards -/
namespace PkEnd
open PySem PySem.Spec PyProof.Rows L2
/-- what is tracked at the start: the script, its object known; nothing, should the script be one of the module's own objects -/
def scrH (K : PySem.W.Frag) (a : Addr) (ob : Obj) (xs : List V) : Hp := fun b => match K.lookup a with
  | none => if b = a then some (.frz ob (.lst xs)) else none
  | some _ => none
theorem scrH_some {K : PySem.W.Frag} {a b : Addr} {ob : Obj} {xs : List V} {o : HO} (h : scrH K a ob xs b = some o) : K.lookup a = none ∧ b = a ∧ o = .frz ob (.lst xs) := by
  unfold scrH at h
  cases q : K.lookup a with
  | some u =>
    rw [q] at h
    cases h
  | none =>
    rw [q] at h
    by_cases e : b = a
    · exact ⟨rfl, e, (Option.some.inj ((if_pos e).symm.trans h)).symm⟩
    · have z := (if_neg e).symm.trans h
      cases z
theorem scrH_at {K : PySem.W.Frag} {a : Addr} {ob : Obj} {xs : List V} (q : K.lookup a = none) : scrH K a ob xs a = some (.frz ob (.lst xs)) := by
  unfold scrH
  rw [q]
  exact if_pos rfl
abbrev scrO (vs : List Value) : Obj := { cls := .type "list", data := .seq vs.toArray }
section
variable {P : Program} {w : World} {K : PySem.W.Frag} {mg mb : Str → Option Value} {k : Nat} {fa a : Addr} {fd : FuncData} {x : Str} {sp : Sp} {s : Shared} {vs : List Value} {ns : List Int}
theorem scr_sql (X : K.In s.heap) (ho : s.heap.get? a = some (scrO vs)) (hi : IntsAre vs ns) (hl : ns.length ≤ sizeLine) : SqL K (scrH K a (scrO vs) (ns.map V.int)) a (ns.map V.int) := by
  cases q : K.lookup a with
  | none => exact .inl (.inr ⟨_, scrH_at q⟩)
  | some o =>
    obtain rfl : o = scrO vs := Option.some.inj ((X a o q).symm.trans ho)
    have n := hi.length
    refine .inr ⟨scrO vs, vs.toArray, _, q, rfl, rfl, rfl, ?_, by simpa using vals_ints hi⟩
    rw [List.size_toArray]
    omega
theorem scr_hok (ho : s.heap.get? a = some (scrO vs)) (hi : IntsAre vs ns) (hl : ns.length ≤ sizeLine) : HOk P w (scrH K a (scrO vs) (ns.map V.int)) s.heap := by
  intro b u z
  obtain ⟨_, e1, e2⟩ := scrH_some z
  subst e1 e2
  refine ⟨ho, ?_, vs, _, vals_ints hi, ho⟩
  rw [List.length_map]
  exact hl
theorem law_go (X : K.In s.heap) (Gm : s.heap.Ns mainGlobals mg) (Gb : s.heap.Ns builtinsNs mb) (hbb : ∀ y : Str, y ≠ "__name__" → mb y = bootBuiltins y) (lim : s.heap.NoLimit) (hg : s.gens = #[])
    (ho : s.heap.get? a = some (scrO vs)) (hi : IntsAre vs ns) (hl : ns.length ≤ sizeLine) (hr : Room k callerA) (F : ∀ base : Heap, GOk P w K mg base k fa fd [x] sp) (bind : Binds K fd [x] [])
    (hsp : ∀ H : Hp, SqL K H a (ns.map V.int) → sp [.ref a] H (fun v _ => v = .bl true) fun _ _ _ => False) :
    codeAny (model P w) callerA (.call (.ref fa) ⟨[.ref a], []⟩) (fun r t => r = .ok (.ret (.bool true)) ∧ OldK s.heap t.heap ∧ t.os = s.os ∧ AllBare t.gens) s := by
  generalize eH : scrH K a (scrO vs) (ns.map V.int) = H
  have S : SqL K H a (ns.map V.int) := eH ▸ scr_sql X ho hi hl
  have hok : HOk P w H s.heap := eH ▸ scr_hok ho hi hl
  have only : ∀ {b : Addr} {u : HO}, H b = some u → K.lookup a = none ∧ b = a ∧ u = .frz (scrO vs) (.lst (ns.map V.int)) := fun {b u} z => scrH_some (by rw [eH]; exact z)
  have free : ∀ {b : Addr} {o : Obj} {es : Array DictEntry} {n : Nat}, s.heap.get? b = some o → o.data = .dict es n → H b = none := by
    intro b o es n e d
    cases z : H b with
    | none => rfl
    | some u =>
      obtain ⟨_, e1, _⟩ := only z
      subst e1
      obtain rfl : o = scrO vs := Option.some.inj (e.symm.trans ho)
      cases d
  have ns_ : ∀ {b : Addr} {m : Str → Option Value}, s.heap.Ns b m → (hidT s.heap H).Ns b m := by
    rintro b m ⟨o, es, n, e, d, r⟩
    exact ⟨o, es, n, hidT_get e (free e d), d, r⟩
  have kin : K.In (hidT s.heap H) := by
    intro b o e
    refine hidT_get (X b o e) ?_
    cases z : H b with
    | none => rfl
    | some u =>
      obtain ⟨e1, e2, _⟩ := only z
      rw [e2, e1] at e
      cases e
  obtain ⟨ml, l1, l2⟩ := lim
  have env : Env0 P w K mg (hidT s.heap H) callerA [] s H :=
    { frames := rfl, mod := { kin := kin, glob := ns_ Gm, blt := ⟨mb, ns_ Gb, hbb⟩, nolimit := ⟨ml, ns_ l1, l2⟩ }, bs := fun _ _ e => of_hidT e, bsz := by rw [hidT_size]; exact Nat.le_refl _, funs := trivial, frf := fun _ z => (List.not_mem_nil z).elim, hok := hok, bare := .of_eq hg }
  have run := (F (hidT s.heap H)).go callerA [] s H ⟨[.ref a], []⟩ [.ref a] [.ref a] (fun v _ => v = .bl true) (fun _ _ _ => False) hr rfl env (bind s [.ref a] X rfl) (.cons rfl .nil) (hsp H S)
  refine codeAny_mono run ?_
  rintro r t h
  rcases r with e | fl
  · exact False.elim h
  rcases fl with _ | _ | _ | u
  all_goals first | exact False.elim h | skip
  obtain ⟨v, H2, c1, c2, un, hok2, rv, e⟩ := h
  obtain rfl : v = .bl true := e
  obtain rfl : u = Value.bool true := rv
  refine ⟨rfl, OldK.of_keep fun b o q => ?_, c1, c2⟩
  cases z : H b with
  | none => exact un.keep b o q z (List.not_mem_nil) (List.not_mem_nil)
  | some u =>
    obtain ⟨_, e1, e2⟩ := only z
    subst e1 e2
    have q2 := (hok2 _ _ (un.frzs _ _ _ z)).1
    rw [q2, ← ho, q]
end
end PkEnd
set_option Elab.async false
set_option linter.all false
set_option maxRecDepth 100000
set_option maxHeartbeats 4000000
namespace PkHead
open PySem PySem.Spec PyProof.Rows L2
section
variable {w : World} {K : PySem.W.Frag} {h : Heap} {mg : Str → Option Value} {f : Addr}
theorem at_of (X : K.In h) (G : h.Ns mainGlobals mg) (c : SaysP fa fn K) {x : Str} {n : Nat} (i j : Nat) (hi : fn[i]? = some (dOf x n) := by rfl) (hj : fa[j]? = some (.glo x) := by rfl) : Pk.At K mg x (Pk.tp n) := by
  obtain ⟨fd, F⟩ := c.d.def_ i hi
  exact ⟨_, fd, He.glo_ok X G (c.d.fact j hj), He5.fun_of F⟩
theorem bn_of (X : K.In h) (G : h.Ns mainGlobals mg) (c : SaysP fa fn K) : Pk.Bn mg := by
  refine ⟨fun x hx => ?_⟩
  have key : ∀ i, i < 17 → ∀ y, fa[i]? = some (.free y) → mg y = none := fun i _ y e => He.free_ok X G (c.d.fact i e)
  simp only [List.mem_cons, List.not_mem_nil, or_false] at hx
  rcases hx with rfl | rfl | rfl | rfl | rfl | rfl | rfl | rfl | rfl | rfl | rfl | rfl | rfl | rfl | rfl | rfl | rfl
  · exact key 0 (by decide) _ rfl
  · exact key 1 (by decide) _ rfl
  · exact key 2 (by decide) _ rfl
  · exact key 3 (by decide) _ rfl
  · exact key 4 (by decide) _ rfl
  · exact key 5 (by decide) _ rfl
  · exact key 6 (by decide) _ rfl
  · exact key 7 (by decide) _ rfl
  · exact key 8 (by decide) _ rfl
  · exact key 9 (by decide) _ rfl
  · exact key 10 (by decide) _ rfl
  · exact key 11 (by decide) _ rfl
  · exact key 12 (by decide) _ rfl
  · exact key 13 (by decide) _ rfl
  · exact key 14 (by decide) _ rfl
  · exact key 15 (by decide) _ rfl
  · exact key 16 (by decide) _ rfl
/-- the facts of the classes -/
structure ClsF (K : PySem.W.Frag) (mg : Str → Option Value) : Prop where
  pr : Pk.HasPr K mg
  o : Pk.HasO R.prog K mg (aO K)
  p : Pk.HasP R.prog K mg (aP K)
  e : Pk.HasE K mg (aP K)
theorem cls_of (X : K.In h) (G : h.Ns mainGlobals mg) (c : SaysP fa fn K) : ClsF K mg := by
  have q := c.ex
  unfold exm at q
  simp only [Bool.and_eq_true] at q
  obtain ⟨q1, q2, q3, q4, q5, q6⟩ := q
  have g0 : mg "PatchError" = some (.ref (He.ga K "PatchError")) := He.glo_ok X G (c.d.fact 22 (f := .glo "PatchError") rfl)
  have g1 : mg "NotOrder" = some (.ref (aO K)) := He.glo_ok X G (c.d.fact 23 (f := .glo "NotOrder") rfl)
  have g2 : mg "NotPatch" = some (.ref (aP K)) := He.glo_ok X G (c.d.fact 24 (f := .glo "NotPatch") rfl)
  have g3 : mg "NotFit" = some (.ref (He.ga K "NotFit")) := He.glo_ok X G (c.d.fact 25 (f := .glo "NotFit") rfl)
  have g4 : mg "PRIMES" = some (.ref (He.ga K "PRIMES")) := He.glo_ok X G (c.d.fact 26 (f := .glo "PRIMES") rfl)
  have su : mg "super" = none := He.free_ok X G (c.d.fact 17 (f := .free "super") rfl)
  exact ⟨⟨_, g4, fun H => He.tupB_ok q1 H⟩, ⟨g1, su, (PkX.xclB_ok q4).1, (PkX.xclB_ok q4).2, _, _, _, PkX.xtB_ok c.io q2⟩, ⟨g2, su, (PkX.xclB_ok q5).1, (PkX.xclB_ok q5).2, _, _, _, PkX.xtB_ok c.ip q3⟩, PkX.excB_ok g0 g1 g3 q6⟩
theorem facts (X : K.In h) (G : h.Ns mainGlobals mg) (hfa : mg ("law" : Str) = some (.ref f)) (c : SaysP fa fn K) :
    ∃ fd : FuncData, Binds K fd ["_law_script"] [] ∧ ∀ base : Heap, GOk R.prog w K mg base 10 f fd ["_law_script"] (Pk.SpLaw K) := by
  have B := bn_of X G c
  have E := cls_of X G c
  have m16 : ∃ t, mg "MOST_SPOTS" = some (.int 16 t) := He.int_ok X G (c.d.fact 19 (f := .int "MOST_SPOTS" 16) rfl)
  have m8 : ∃ t, mg "MOST_HERE" = some (.int 8 t) := He.int_ok X G (c.d.fact 20 (f := .int "MOST_HERE" 8) rfl)
  have m40 : ∃ t, mg "MOST_IN_ALL" = some (.int 40 t) := He.int_ok X G (c.d.fact 21 (f := .int "MOST_IN_ALL" 40) rfl)
  obtain ⟨f2, fd, e2, F⟩ := (at_of X G c (x := "law") (n := 60) 47 74 : Pk.At K mg "law" Pk.s_law)
  obtain rfl : f2 = f := by
    have z := e2.symm.trans hfa
    injection z with z
    injection z
  refine ⟨fd, Pk.b_law F, fun base => ?_⟩
  have C1 := Pk.c_is_integer (P := R.prog) (w := w) (base := base) (at_of X G c 0 27) B
  have C2 := Pk.c_is_spot (at_of X G c 1 28) B C1
  have C3 := Pk.c_is_pair (at_of X G c 2 29) B C2
  have C4 := Pk.c_ascends (P := R.prog) (w := w) (base := base) (at_of X G c 3 30) B
  have C5 := Pk.c_has_form (at_of X G c 4 31) B m16 C1 C3 C4
  have C6 := Pk.c_above (P := R.prog) (w := w) (base := base) (at_of X G c 6 33) B
  have C7 := Pk.c_need_order (at_of X G c 5 32) B E.o C5 C6
  have C8 := Pk.c_is_order (at_of X G c 9 36) B E.o C7
  have C9 := Pk.c_is_number (P := R.prog) (w := w) (base := base) (at_of X G c 8 35) B
  have C10 := Pk.c_are_sizes (at_of X G c 10 37) B m8 m40 C9
  have C11 := Pk.c_is_table (at_of X G c 11 38) B C9
  have C12 := Pk.c_table_place (at_of X G c 12 39) B C11
  have C13 := Pk.c_behind (P := R.prog) (w := w) (base := base) (at_of X G c 7 34) B
  have C14 := Pk.c_ways_place (at_of X G c 13 40) B C13
  have C15 := Pk.c_patch_breach (at_of X G c 14 41) B E.pr C9 C8 C10 C12 C14
  have C16 := Pk.c_need_patch (at_of X G c 15 42) B E.p C15
  have D1 := Pk.c_whole (P := R.prog) (w := w) (base := base) (at_of X G c 34 61) B
  have D2 := Pk.c_Lis_pair (at_of X G c 35 62) B D1
  have D3 := Pk.c_Lis_order (at_of X G c 36 63) B D1 D2
  have D4 := Pk.c_Lis_table (at_of X G c 37 64) B D1
  have D5 := Pk.c_Lbehind (P := R.prog) (w := w) (base := base) (at_of X G c 27 54) B
  have D6 := Pk.c_lead (P := R.prog) (w := w) (base := base) (at_of X G c 32 59) B
  have D7 := Pk.c_Lbreach (at_of X G c 38 65) B D1 D3 D4 D5 D6
  have D8 := Pk.c_like (P := R.prog) (w := w) (base := base) (at_of X G c 20 47) B
  have D9 := Pk.c_told (at_of X G c 46 73) B E.p E.e D8 D7 C15 C16
  have G1 := Pk.c_draw (P := R.prog) (w := w) (base := base) (at_of X G c 17 44) B
  have G2 := Pk.c_of (at_of X G c 18 45) B G1
  have G3 := Pk.c_prime (at_of X G c 33 60) B G2
  have G4 := Pk.c_shuffled (at_of X G c 19 46) B G2
  have G5 := Pk.c_closed (P := R.prog) (w := w) (base := base) (at_of X G c 29 56) B
  have G6 := Pk.c_drawn_order (at_of X G c 30 57) B G1 G4 G5
  have G7 := Pk.c_off (P := R.prog) (w := w) (base := base) (at_of X G c 22 49) B
  have G8 := Pk.c_back (P := R.prog) (w := w) (base := base) (at_of X G c 21 48) B
  have G9 := Pk.c_leads (P := R.prog) (w := w) (base := base) (at_of X G c 24 51) B
  have G10 := Pk.c_rest (at_of X G c 25 52) B G7 G9
  have G11 := Pk.c_turned (P := R.prog) (w := w) (base := base) (at_of X G c 26 53) B
  have G12 := Pk.c_reduced (at_of X G c 23 50) B G7 G8
  have G13 := Pk.c_drawn_patch (at_of X G c 31 58) B G1 G12 G9 G10 G11
  have G14 := Pk.c_put (P := R.prog) (w := w) (base := base) (at_of X G c 39 66) B
  have G15 := Pk.c_begun (P := R.prog) (w := w) (base := base) (at_of X G c 16 43) B
  have O1 := Pk.c_odd_prime (at_of X G c 41 68) B G2
  have O2 := Pk.c_odd_order (at_of X G c 42 69) B G2
  have O3 := Pk.c_odd_sizes (at_of X G c 43 70) B G1 G2 G14
  have O4 := Pk.c_bent_table (at_of X G c 40 67) B G1 G2 G14
  have O5 := Pk.c_odd_tables (at_of X G c 44 71) B G1 G2 G14 O4
  have O6 := Pk.c_bent (at_of X G c 45 72) B G1 G2 O1 O2 O3 O5
  exact Pk.ok_law F B G15 G3 G6 G13 O6 D9 D8 C15
end
end PkHead
open PySem PySem.W PySem.Calls PyProof.Rows in
theorem PySem.Challenge.cw_patchrooms_k12_whole_patches_judged_holds : PySem.Challenge.rw_patchrooms_k12_whole_patches_judged.Holds := by
  w_on; o_law
  refine HandSHeadRun.head_any (r := OpenLaw.row PySem.Challenge.rw_patchrooms_k12_whole_patches_judged) (q := view (OpenLaw.row PySem.Challenge.rw_patchrooms_k12_whole_patches_judged).prog [60]) (H := PkHead.hk) (ob := PkHead.ob) (M := 4000) (loose := PkHead.loose) (d := HandSHeadRun.topDef (OpenLaw.row PySem.Challenge.rw_patchrooms_k12_whole_patches_judged).prog 60) (kwd := []) PkHead.ob_eq
    (by kernel_rfl) (fun s => by kernel_rfl) PkHead.run (by kernel_rfl) (by kernel_rfl) (by kernel_rfl) (by rfl) (by first | assumption | decide +kernel) (by decide +kernel) ⟨rfl, rfl, rfl, rfl, rfl, by decide +kernel⟩ ?hw ?hc
  case hw => w_witness2
  case hc =>
    refine Att.attach_call (n := 63) rfl (by kernel_rfl) fun w s₀ s₁ mg mb fa o pm cd doc a vs ns G Y ho hd hcd hmg0 hobj hints hlen hg => ?_
    obtain ⟨K, KX, c⟩ := Y
    have hmg : mg ("law" : PySem.Str) = some (.ref fa) := by
      have e : (HandSHeadRun.topDef (OpenLaw.row PySem.Challenge.rw_patchrooms_k12_whole_patches_judged).prog 60).name = ("law" : PySem.Str) := by kernel_rfl
      rw [← e]
      exact hmg0
    obtain ⟨fd, hb, hF⟩ := PkHead.facts (w := w) KX G.T.g hmg c
    exact PkEnd.law_go (k := 10) KX G.T.g G.T.b G.T.builtins G.T.nolimit hg hobj hints (Nat.le_trans hlen (by decide)) ⟨rfl, by decide, by decide⟩ hF hb fun H hS => ⟨a, ns, rfl, hS, hlen, fun _ => rfl⟩
