import PyProof.Rows.All
import Wide.All
import OpenK.AllK
import Wide.FinOn
import HandS.ForMost
import HandS.Exc
import HandS.ExcOwn
import HandS.TryOnly
import HandS.WordsExc
import HandS.Defaults
import HandS.Lambda
import HandS.Zip
import HandS.IsInst
import HandS.DictComp
import HandS.Property
import HandS.HeadHook2
import HandS.HeadEnd
import HandS.Deep
import HandS.TupAny
import HandS.MakeKw
import HandS.Sort
import KE.KExcSuper
import HandS.ExcIs
import HandS.ExcValue
import HandS.ExcField
import HandS.Style
import HandS.Small
import HandS.HeadHook4
import HandS.HeadWalk
import PyProof.ReprLen
import PyProof.Ascii
import PyProof.Rows.ReprOcc
import HandS.Iter
import KE.GoesEnum
import KE.GoesMore
import HandS.TupMul
import HandS.WideBits
import HandS.Head0
import HandS.Head1
import HandS.Head2
import KE.KStateDown
import PySem.Challenge.RW_boughwebs_k74_tallies_by_their_numbers
set_option Elab.async false
set_option linter.all false
set_option maxRecDepth 100000
set_option maxHeartbeats 0
/-! The data layer: values as data, the heap hidden. -/
namespace DL
open PySem PySem.Spec L2
open PyProof.Rows hiding St

inductive D where
  | non | bl (b : Bool) | int (i : Int) | str (x : Str) | ty (n : String) | glo (x : Str)
  | lst (xs : List D) | kls (xs : List D) | tup (xs : List D) | dct (kvs : List (Key × D))
  | ob (c : Str) (fs : List (Str × D)) | exc (c : Str) (fs : List (Str × D)) | drw | adr (a : Addr)

/-- where the draws' state stands -/
structure DrwA where
  dr : Addr
  lg : Addr
  cl : Addr
  cs : List Int
abbrev DW := Option DrwA

/-- an exception's object, held as a value: its class, its own dict -/
def ExcO (C : Addr) (dd : Option Addr) (a : Addr) : HO := .ext fun h => ∃ (oe : Obj) (vs : Array Value), h.get? a = some oe ∧ Zc (.ref C) dd oe ∧ oe.data = .fields vs

mutual
inductive Den (K : PySem.W.Frag) (W : DW) (F : Hp) : V → D → Prop
  | non : Den K W F .non .non
  | bl (b : Bool) : Den K W F (.bl b) (.bl b)
  | int (i : Int) : Den K W F (.int i) (.int i)
  | str (x : Str) : Den K W F (.str x) (.str x)
  | ty (n : String) : Den K W F (.ty n) (.ty n)
  | glo (x : Str) : Den K W F (.ref (He.ga K x)) (.glo x)
  | lst {a : Addr} {xs : List V} {ds : List D} : F a = some (.lst xs) → Dens K W F xs ds → Den K W F (.ref a) (.lst ds)
  | kls {a : Addr} {xs : List V} {ds : List D} : SqL K F a xs → Dens K W F xs ds → Den K W F (.ref a) (.kls ds)
  | tup {a : Addr} {xs : List V} {ds : List D} : SqT K F a xs → Dens K W F xs ds → Den K W F (.ref a) (.tup ds)
  | dct {a : Addr} {ks : List (Key × V)} {kvs : List (Key × D)} : F a = some (.dK ks) → ks.map (·.1) = kvs.map (·.1) → Dens K W F (ks.map (·.2)) (kvs.map (·.2)) → Den K W F (.ref a) (.dct kvs)
  | ob {a dx : Addr} {c : Str} {gs : List (Str × V)} {fs : List (Str × D)} : F a = some (.ins (He.ga K c) dx gs) → gs.map (·.1) = fs.map (·.1) → Dens K W F (gs.map (·.2)) (fs.map (·.2)) → Den K W F (.ref a) (.ob c fs)
  | exc0 {a : Addr} {c : Str} : F a = some (ExcO (He.ga K c) none a) → Den K W F (.ref a) (.exc c [])
  | exc1 {a dd : Addr} {c : Str} {gs : List (Str × V)} {fs : List (Str × D)} : F a = some (ExcO (He.ga K c) (some dd) a) → F dd = some (.xd gs) → gs.map (·.1) = fs.map (·.1) → Dens K W F (gs.map (·.2)) (fs.map (·.2)) → Den K W F (.ref a) (.exc c fs)
  | drw {w : DrwA} : W = some w → Den K W F (.ref w.dr) .drw
  | adr (a : Addr) : Den K W F (.ref a) (.adr a)
inductive Dens (K : PySem.W.Frag) (W : DW) (F : Hp) : List V → List D → Prop
  | nil : Dens K W F [] []
  | cons {v : V} {vs : List V} {d : D} {ds : List D} : Den K W F v d → Dens K W F vs ds → Dens K W F (v :: vs) (d :: ds)
end

def WLe (W W' : DW) : Prop := W = none ∨ W' = W
theorem WLe.refl (W : DW) : WLe W W := .inr rfl
theorem WLe.trans {a b c : DW} (x : WLe a b) (y : WLe b c) : WLe a c := by
  rcases x with x | x
  · exact .inl x
  · subst x; exact y
def Up (F F' : Hp) : Prop := ∀ a o, F a = some o → F' a = some o
theorem Up.refl (F : Hp) : Up F F := fun _ _ h => h
theorem Up.trans {a b c : Hp} (x : Up a b) (y : Up b c) : Up a c := fun p o h => y p o (x p o h)
theorem Up.ne {F F' : Hp} (h : Up F F') (a : Addr) (e : F a ≠ none) : F' a ≠ none := by
  cases q : F a with
  | none => exact absurd q e
  | some o => rw [h a o q]; simp
theorem Rd.up {F F' : Hp} {a : Addr} {u : HO} (h : Up F F') (r : Rd F a u) : Rd F' a u := by
  rcases r with r | ⟨o, r⟩
  · exact .inl (h _ _ r)
  · exact .inr ⟨o, h _ _ r⟩
theorem SqL.up {K : PySem.W.Frag} {F F' : Hp} {a : Addr} {xs : List V} (h : Up F F') (r : SqL K F a xs) : SqL K F' a xs := by
  rcases r with r | r
  · exact .inl (Rd.up h r)
  · exact .inr r
theorem SqT.up {K : PySem.W.Frag} {F F' : Hp} {a : Addr} {xs : List V} (h : Up F F') (r : SqT K F a xs) : SqT K F' a xs := by
  rcases r with r | r
  · exact .inl (Rd.up h r)
  · exact .inr r
mutual
theorem Den.up {K : PySem.W.Frag} {W W' : DW} {F F' : Hp} (h : Up F F') (hw : WLe W W') : ∀ {v : V} {d : D}, Den K W F v d → Den K W' F' v d
  | _, _, .non => .non
  | _, _, .bl b => .bl b
  | _, _, .int i => .int i
  | _, _, .str x => .str x
  | _, _, .ty n => .ty n
  | _, _, .glo x => .glo x
  | _, _, .lst s r => .lst (h _ _ s) (Dens.up h hw r)
  | _, _, .kls s r => .kls (SqL.up h s) (Dens.up h hw r)
  | _, _, .tup s r => .tup (SqT.up h s) (Dens.up h hw r)
  | _, _, .dct e k r => .dct (h _ _ e) k (Dens.up h hw r)
  | _, _, .ob e k r => .ob (h _ _ e) k (Dens.up h hw r)
  | _, _, .exc0 e => .exc0 (h _ _ e)
  | _, _, .exc1 e e2 k r => .exc1 (h _ _ e) (h _ _ e2) k (Dens.up h hw r)
  | _, _, .adr a => .adr a
  | _, _, .drw e => .drw (by rcases hw with z | z; · rw [z] at e; cases e
                             · rw [z]; exact e)
theorem Dens.up {K : PySem.W.Frag} {W W' : DW} {F F' : Hp} (h : Up F F') (hw : WLe W W') : ∀ {vs : List V} {ds : List D}, Dens K W F vs ds → Dens K W' F' vs ds
  | _, _, .nil => .nil
  | _, _, .cons r t => .cons (Den.up h hw r) (Dens.up h hw t)
end
theorem Dens.length {K : PySem.W.Frag} {W : DW} {F : Hp} : ∀ {vs : List V} {ds : List D}, Dens K W F vs ds → vs.length = ds.length
  | _, _, .nil => rfl
  | _, _, .cons _ t => congrArg Nat.succ (Dens.length t)
theorem Dens.append {K : PySem.W.Frag} {W : DW} {F : Hp} : ∀ {vs ws : List V} {ds es : List D}, Dens K W F vs ds → Dens K W F ws es → Dens K W F (vs ++ ws) (ds ++ es)
  | _, _, _, _, .nil, s => s
  | _, _, _, _, .cons r t, s => .cons r (Dens.append t s)
theorem Dens.get {K : PySem.W.Frag} {W : DW} {F : Hp} : ∀ {vs : List V} {ds : List D} {i : Nat} {d : D}, Dens K W F vs ds → ds[i]? = some d → ∃ v, vs[i]? = some v ∧ Den K W F v d
  | _, _, _, _, .nil, e => by simp at e
  | _, _, 0, _, .cons r _, e => by
    simp at e; subst e; exact ⟨_, rfl, r⟩
  | _, _, i + 1, d, .cons _ t, e => by
    obtain ⟨u, h1, h2⟩ := Dens.get (i := i) (d := d) t (by simpa using e)
    exact ⟨u, by simpa using h1, h2⟩
theorem Dens.getV {K : PySem.W.Frag} {W : DW} {F : Hp} : ∀ {vs : List V} {ds : List D} {i : Nat} {v : V}, Dens K W F vs ds → vs[i]? = some v → ∃ d, ds[i]? = some d ∧ Den K W F v d
  | _, _, _, _, .nil, e => by simp at e
  | _, _, 0, _, .cons r _, e => by
    simp at e; subst e; exact ⟨_, rfl, r⟩
  | _, _, i + 1, d, .cons _ t, e => by
    obtain ⟨u, h1, h2⟩ := Dens.getV (i := i) (v := d) t (by simpa using e)
    exact ⟨u, by simpa using h1, h2⟩
theorem Dens.set {K : PySem.W.Frag} {W : DW} {F : Hp} {v : V} {d : D} (r : Den K W F v d) : ∀ {vs : List V} {ds : List D} (i : Nat), Dens K W F vs ds → Dens K W F (vs.set i v) (ds.set i d)
  | _, _, _, .nil => .nil
  | _, _, 0, .cons _ t => .cons r t
  | _, _, i + 1, .cons q t => .cons q (Dens.set r i t)
theorem Dens.take {K : PySem.W.Frag} {W : DW} {F : Hp} : ∀ {vs : List V} {ds : List D} (n : Nat), Dens K W F vs ds → Dens K W F (vs.take n) (ds.take n)
  | _, _, 0, _ => .nil
  | _, _, _ + 1, .nil => .nil
  | _, _, n + 1, .cons r t => .cons r (Dens.take n t)
theorem Dens.drop {K : PySem.W.Frag} {W : DW} {F : Hp} : ∀ {vs : List V} {ds : List D} (n : Nat), Dens K W F vs ds → Dens K W F (vs.drop n) (ds.drop n)
  | _, _, 0, r => r
  | _, _, _ + 1, .nil => .nil
  | _, _, n + 1, .cons _ t => Dens.drop n t
theorem Dens.reverse {K : PySem.W.Frag} {W : DW} {F : Hp} : ∀ {vs : List V} {ds : List D}, Dens K W F vs ds → Dens K W F vs.reverse ds.reverse
  | _, _, .nil => .nil
  | _, _, .cons r t => by
    rw [List.reverse_cons, List.reverse_cons]
    exact Dens.append (Dens.reverse t) (.cons r .nil)
theorem Dens.replicate {K : PySem.W.Frag} {W : DW} {F : Hp} {v : V} {d : D} (r : Den K W F v d) : ∀ n : Nat, Dens K W F (List.replicate n v) (List.replicate n d)
  | 0 => .nil
  | n + 1 => .cons r (Dens.replicate r n)

/-! ### the draws -/
def DrawAt (H : Hp) (w : DrwA) : Prop := ∃ (ls : List Int) (r t : Int),
  H w.dr = some (.dK [(.inr "large", .ref w.lg), (.inr "rest", .int r), (.inr "cells", .ref w.cl), (.inr "turn", .int t)]) ∧ H w.lg = some (.lst (ls.map V.int)) ∧ H w.cl = some (.lst (w.cs.map V.int)) ∧ w.lg ≠ w.cl ∧
  (∀ x ∈ ls, 0 ≤ x) ∧ (∀ x ∈ w.cs, 0 ≤ x) ∧ 0 ≤ r ∧ 0 ≤ t ∧ ls.length ≤ 63 ∧ w.cs.length ≤ 63
def has (W : DW) (a : Addr) : Prop := ∃ w, W = some w ∧ (a = w.dr ∨ a = w.lg ∨ a = w.cl)
def DrawOk (W : DW) (F H : Hp) : Prop := ∀ w, W = some w → DrawAt H w ∧ F w.dr = none ∧ F w.lg = none ∧ F w.cl = none
theorem DrawOk.has_ne {W : DW} {F H : Hp} (x : DrawOk W F H) {a : Addr} (h : has W a) : H a ≠ none ∧ F a = none := by
  obtain ⟨w, e, h⟩ := h
  obtain ⟨⟨ls, r, t, h1, h2, h3, _⟩, f1, f2, f3⟩ := x w e
  rcases h with h | h | h <;> subst h
  · exact ⟨by rw [h1]; simp, f1⟩
  · exact ⟨by rw [h2]; simp, f2⟩
  · exact ⟨by rw [h3]; simp, f3⟩
/-- the draws' state is kept by whatever changes no draws' object -/
theorem DrawOk.keep {W : DW} {F F' H H' : Hp} (x : DrawOk W F H) (h : ∀ a, has W a → H' a = H a ∧ F' a = F a) : DrawOk W F' H' := fun w e => by
  obtain ⟨⟨ls, r, t, h1, h2, h3, k⟩, f1, f2, f3⟩ := x w e
  have a1 := h w.dr ⟨w, e, .inl rfl⟩
  have a2 := h w.lg ⟨w, e, .inr (.inl rfl)⟩
  have a3 := h w.cl ⟨w, e, .inr (.inr rfl)⟩
  exact ⟨⟨ls, r, t, by rw [a1.1]; exact h1, by rw [a2.1]; exact h2, by rw [a3.1]; exact h3, k⟩, by rw [a1.2]; exact f1, by rw [a2.2]; exact f2, by rw [a3.2]; exact f3⟩

/-! ### the state -/
structure Base where
  F : Hp
  H : Hp
  W : DW
  T : List (Addr × Str)
def plainO : HO → Prop
  | .lst _ => True
  | .dK _ => True
  | .ins _ _ _ => True
  | _ => False
theorem plainO.tbl {o : HO} (h : plainO o) : ∀ ps, o ≠ .tbl ps := fun ps e => by rw [e] at h; exact h
theorem plainO.ext {o : HO} (h : plainO o) : ∀ φ, o ≠ .ext φ := fun φ e => by rw [e] at h; exact h
def notTbl (o : HO) : Prop := ∀ ps, o ≠ .tbl ps
structure Ret (B : Base) (F H : Hp) (W : DW) : Prop where
  sub : Up F H
  up : Up B.F F
  old : ∀ a o, B.H a = some o → ¬ has W a → notTbl o → H a = some o
  there : ∀ a, B.H a ≠ none → H a ≠ none
  froz : ∀ a, B.H a ≠ none → F a = B.F a
  wle : WLe B.W W
  drw : DrawOk W F H
  tab : LamX.Tabs B.T H
  dnew : ∀ a, has W a → ¬ has B.W a → B.H a = none
  fnt : ∀ a o, F a = some o → notTbl o
structure Gs where
  F : Hp
  O : Addr → Option Nat
  W : DW
inductive Sl where
  | sh (d : D) | ol (ds : List D) | od (kvs : List (Key × D)) | oi (m : Option Addr) (c : Str) (fs : List (Str × D))
abbrev Env := List (Option Sl)
/-- the fields' names agree, and the address is the one that is asked (if one is) -/
def KeyM (m : Option Addr) (a : Addr) (gs : List (Str × V)) (fs : List (Str × D)) : Prop := gs.map (·.1) = fs.map (·.1) ∧ ∀ b, m = some b → a = b
def SlOk (K : PySem.W.Frag) (g : Gs) (H : Hp) (i : Nat) (x : Option (Option V)) : Sl → Prop
  | .sh d => ∃ v, x = some (some v) ∧ Den K g.W g.F v d
  | .ol ds => ∃ a xs, x = some (some (.ref a)) ∧ g.O a = some i ∧ H a = some (.lst xs) ∧ Dens K g.W g.F xs ds
  | .od kvs => ∃ a ks, x = some (some (.ref a)) ∧ g.O a = some i ∧ H a = some (.dK ks) ∧ ks.map (·.1) = kvs.map (·.1) ∧ Dens K g.W g.F (ks.map (·.2)) (kvs.map (·.2))
  | .oi m c fs => ∃ a dx gs, x = some (some (.ref a)) ∧ g.O a = some i ∧ H a = some (.ins (He.ga K c) dx gs) ∧ KeyM m a gs fs ∧ Dens K g.W g.F (gs.map (·.2)) (fs.map (·.2))
structure Stt (K : PySem.W.Frag) (B : Base) (g : Gs) (H : Hp) (σ : St) (δ : Env) : Prop where
  ret : Ret B g.F H g.W
  own : ∀ a k, g.O a = some k → B.H a = none ∧ g.F a = none ∧ (∃ o, H a = some o ∧ plainO o) ∧ ¬ has g.W a
  len : δ.length = σ.length
  env : ∀ i s, δ[i]? = some (some s) → SlOk K g H i (σ[i]?) s
structure Step (n : Nat) (g : Gs) (H : Hp) (g' : Gs) (H' : Hp) : Prop where
  up : Up g.F g'.F
  wle : WLe g.W g'.W
  thr : ∀ a, H a ≠ none → H' a ≠ none
  ext : ∀ a k, g.O a = some k → n ≤ k → g'.O a = some k ∧ H' a = H a
theorem Step.refl (n : Nat) (g : Gs) (H : Hp) : Step n g H g H := ⟨Up.refl _, WLe.refl _, fun _ h => h, fun _ _ h _ => ⟨h, rfl⟩⟩
theorem Step.trans {n : Nat} {g1 g2 g3 : Gs} {H1 H2 H3 : Hp} (a : Step n g1 H1 g2 H2) (b : Step n g2 H2 g3 H3) : Step n g1 H1 g3 H3 :=
  ⟨a.up.trans b.up, a.wle.trans b.wle, fun p h => b.thr p (a.thr p h), fun p k h hn => by
    obtain ⟨h1, h2⟩ := a.ext p k h hn
    obtain ⟨h3, h4⟩ := b.ext p k h1 hn
    exact ⟨h3, h4.trans h2⟩⟩
theorem Den.step {K : PySem.W.Frag} {n : Nat} {g g' : Gs} {H H' : Hp} {v : V} {d : D} (s : Step n g H g' H') (h : Den K g.W g.F v d) : Den K g'.W g'.F v d := h.up s.up s.wle
theorem Dens.step {K : PySem.W.Frag} {n : Nat} {g g' : Gs} {H H' : Hp} {v : List V} {d : List D} (s : Step n g H g' H') (h : Dens K g.W g.F v d) : Dens K g'.W g'.F v d := h.up s.up s.wle

/-! ### changes of the state -/
section
variable {K : PySem.W.Frag} {B : Base} {g : Gs} {H : Hp} {σ : St} {δ : Env} {n : Nat}
/-- all tracked objects are kept, F grows by new ones -/
theorem Stt.grow {F' H' : Hp} (S : Stt K B g H σ δ) (hH : Up H H') (hF : Up g.F F') (hsub : Up F' H') (hnew : ∀ a, H a ≠ none → F' a = g.F a) (hnt : ∀ a o, F' a = some o → notTbl o) : Stt K B { g with F := F' } H' σ δ := by
  have keepne : ∀ a, H a ≠ none → H' a ≠ none := fun a h => by
    cases e : H a with
    | none => exact absurd e h
    | some o => rw [hH a o e]; simp
  have eqH : ∀ a, H a ≠ none → H' a = H a := fun a h => by
    cases e : H a with
    | none => exact absurd e h
    | some o => exact hH a o e
  refine ⟨⟨hsub, S.ret.up.trans hF, fun a o e h nt => hH _ _ (S.ret.old a o e h nt), fun a h => keepne a (S.ret.there a h), fun a h => (hnew a (S.ret.there a h)).trans (S.ret.froz a h), S.ret.wle, ?_, S.ret.tab.ext hH, S.ret.dnew, hnt⟩, fun a k e => ?_, S.len, fun i s e => ?_⟩
  · exact S.ret.drw.keep fun a ha => ⟨eqH a (S.ret.drw.has_ne ha).1, hnew a (S.ret.drw.has_ne ha).1⟩
  · obtain ⟨h1, h2, ⟨o, h3, h5⟩, h4⟩ := S.own a k e
    exact ⟨h1, (hnew a (by rw [h3]; simp)).trans h2, ⟨o, hH _ _ h3, h5⟩, h4⟩
  · have q := S.env i s e
    cases s with
    | sh d =>
      obtain ⟨v, e1, r⟩ := q
      exact ⟨v, e1, r.up hF (WLe.refl _)⟩
    | ol ds =>
      obtain ⟨a, xs, e1, e2, e3, r⟩ := q
      exact ⟨a, xs, e1, e2, hH _ _ e3, r.up hF (WLe.refl _)⟩
    | od kvs =>
      obtain ⟨a, ks, e1, e2, e3, e4, r⟩ := q
      exact ⟨a, ks, e1, e2, hH _ _ e3, e4, r.up hF (WLe.refl _)⟩
    | oi m C fs =>
      obtain ⟨a, dx, gs, e1, e2, e3, e4, r⟩ := q
      exact ⟨a, dx, gs, e1, e2, hH _ _ e3, e4, r.up hF (WLe.refl _)⟩
theorem Stt.growStep {F' H' : Hp} (S : Stt K B g H σ δ) (hH : Up H H') (hF : Up g.F F') : Step n g H { g with F := F' } H' :=
  ⟨hF, WLe.refl _, Up.ne hH, fun a k e _ => ⟨e, by
    obtain ⟨o, q, _⟩ := (S.own a k e).2.2.1
    rw [hH a o q, q]⟩⟩
theorem up_upd {H : Hp} {p : Addr} {o : HO} (hp : H p = none) : Up H (upd H p o) := fun a u e => by
  rw [upd_ne (ne_of_none e hp)]; exact e
theorem Stt.Fnone (S : Stt K B g H σ δ) {p : Addr} (hp : H p = none) : g.F p = none := by
  cases q : g.F p with
  | none => rfl
  | some o => rw [S.ret.sub _ _ q] at hp; cases hp
/-- a new object, frozen at once -/
theorem Stt.alloc {p : Addr} {o : HO} (S : Stt K B g H σ δ) (hp : H p = none) (ho : notTbl o := by intro _ z; cases z) : Stt K B { g with F := upd g.F p o } (upd H p o) σ δ ∧ Step n g H { g with F := upd g.F p o } (upd H p o) := by
  have hF := up_upd (o := o) (S.Fnone hp)
  have hH := up_upd (o := o) hp
  refine ⟨S.grow hH hF (fun a u e => ?_) (fun a h => ?_) fun a u e => ?_, S.growStep hH hF⟩
  · by_cases q : a = p
    · subst q; rw [upd_same] at e ⊢; exact e
    · rw [upd_ne q] at e ⊢; exact S.ret.sub _ _ e
  · exact upd_ne fun q => h (by rw [q]; exact hp)
  · by_cases q : a = p
    · subst q; rw [upd_same] at e; cases e; exact ho
    · rw [upd_ne q] at e; exact S.ret.fnt _ _ e
/-- a new object that is not frozen, owned under k -/
theorem Stt.allocOwn {p : Addr} {o : HO} {k : Nat} (S : Stt K B g H σ δ) (hp : H p = none) (po : plainO o) :
    Stt K B { g with O := fun b => if b = p then some k else g.O b } (upd H p o) σ δ ∧ Step n g H { g with O := fun b => if b = p then some k else g.O b } (upd H p o) := by
  have hH := up_upd (o := o) hp
  have S1 := S.grow (F' := g.F) hH (Up.refl _) (S.ret.sub.trans hH) (fun _ _ => rfl) S.ret.fnt
  have hpo : ∀ a k', g.O a = some k' → a ≠ p := fun a k' e q => by
    obtain ⟨o, z, _⟩ := (S.own a k' e).2.2.1
    rw [q, hp] at z; cases z
  refine ⟨⟨S1.ret, fun a k' e => ?_, S1.len, fun i s e => ?_⟩, ⟨Up.refl _, WLe.refl _, Up.ne hH, fun a k' e _ => ?_⟩⟩
  · by_cases q : a = p
    · subst q
      refine ⟨?_, S.Fnone hp, ⟨o, upd_same, po⟩, fun h => (S.ret.drw.has_ne h).1 hp⟩
      cases z : B.H a with
      | none => rfl
      | some u => exact absurd hp (S.ret.there a (by rw [z]; simp))
    · simp only [q, if_false] at e
      exact S1.own a k' e
  · have q := S1.env i s e
    have step : ∀ a, g.O a = some i → (if a = p then some k else g.O a) = some i := fun a e => by rw [if_neg (hpo a i e)]; exact e
    cases s with
    | sh d => exact q
    | ol ds =>
      obtain ⟨a, xs, e1, e2, e3⟩ := q
      exact ⟨a, xs, e1, step a e2, e3⟩
    | od kvs =>
      obtain ⟨a, ks, e1, e2, e3⟩ := q
      exact ⟨a, ks, e1, step a e2, e3⟩
    | oi m C fs =>
      obtain ⟨a, dx, gs, e1, e2, e3⟩ := q
      exact ⟨a, dx, gs, e1, step a e2, e3⟩
  · have ne := hpo a k' e
    exact ⟨by show (if a = p then some k else g.O a) = some k'; rw [if_neg ne]; exact e, upd_ne ne⟩
end
end DL

namespace DL
open PySem PySem.Spec L2
open PyProof.Rows hiding St
section
variable {K : PySem.W.Frag} {B : Base} {g : Gs} {H : Hp} {σ : L2.St} {δ : Env} {n : Nat}
theorem fnt_upd {F : Hp} {a : Addr} {o : HO} (h : ∀ a o, F a = some o → notTbl o) (ho : notTbl o) : ∀ b u, upd F a o b = some u → notTbl u := fun b u e => by
  by_cases q : b = a
  · rw [q, upd_same] at e; cases e; exact ho
  · rw [upd_ne q] at e; exact h _ _ e
/-- two owners are apart -/
theorem own_ne {g : Gs} {a b : Addr} {i j : Nat} (h1 : g.O a = some i) (h2 : g.O b = some j) (h : i ≠ j) : a ≠ b := fun e => by
  rw [e, h2] at h1; exact h (Option.some.inj h1).symm
/-- objects of unlike kinds and tables -/
theorem upd_thr {H : Hp} {a : Addr} {o : HO} (b : Addr) (h : H b ≠ none) : upd H a o b ≠ none := by
  by_cases q : b = a
  · rw [q, upd_same]; simp
  · rw [upd_ne q]; exact h
theorem tabs_mut {T : List (Addr × Str)} {H : Hp} {a : Addr} {o o' : HO} (t : LamX.Tabs T H) (h : H a = some o) (h1 : ∀ ps, o ≠ .tbl ps) (h2 : ∀ φ, o ≠ .ext φ) : LamX.Tabs T (upd H a o') := fun p hp => by
  obtain ⟨ps, e1, e2, e3⟩ := t p hp
  refine ⟨ps, ?_, e2, fun pos cv hc => ?_⟩
  · rw [upd_ne]
    · exact e1
    · intro e; rw [e, h] at e1; exact h1 ps (Option.some.inj e1)
  · obtain ⟨c, c1, c2⟩ := e3 pos cv hc
    refine ⟨c, c1, ?_⟩
    rw [upd_ne]
    · exact c2
    · intro e; rw [e, h] at c2; exact h2 _ (Option.some.inj c2)
/-- what slot i says of another heap: only its own object may differ -/
theorem SlOk.other {g : Gs} {H H' : Hp} {i j : Nat} {x : Option (Option V)} {s : Sl} {a : Addr} (q : SlOk K g H j x s) (ha : g.O a = some i) (hij : j ≠ i) (h : ∀ b, b ≠ a → H' b = H b) : SlOk K g H' j x s := by
  cases s with
  | sh d => exact q
  | ol ds =>
    obtain ⟨b, xs, e1, e2, e3, r⟩ := q
    exact ⟨b, xs, e1, e2, (h b (own_ne e2 ha hij)).trans e3, r⟩
  | od kvs =>
    obtain ⟨b, ks, e1, e2, e3, r⟩ := q
    exact ⟨b, ks, e1, e2, (h b (own_ne e2 ha hij)).trans e3, r⟩
  | oi m C fs =>
    obtain ⟨b, dx, gs, e1, e2, e3, r⟩ := q
    exact ⟨b, dx, gs, e1, e2, (h b (own_ne e2 ha hij)).trans e3, r⟩
theorem getSet {α : Type} {l : List α} {i j : Nat} {x y : α} (h : (l.set i x)[j]? = some y) : (j = i ∧ y = x ∧ i < l.length) ∨ (j ≠ i ∧ l[j]? = some y) := by
  by_cases e : j = i
  · subst e
    by_cases hl : j < l.length
    · rw [List.getElem?_set_self hl] at h
      exact .inl ⟨rfl, (Option.some.inj h).symm, hl⟩
    · rw [List.getElem?_eq_none (by simpa using hl)] at h; cases h
  · rw [List.getElem?_set_ne (Ne.symm e)] at h
    exact .inr ⟨e, h⟩
/-- the object that slot i owns is written -/
theorem Stt.write {a : Addr} {i : Nat} {o o' : HO} {s : Sl} (S : Stt K B g H σ δ) (ha : g.O a = some i) (hi : i < n) (h : H a = some o) (hp : plainO o) (hp' : plainO o')
    (new : SlOk K g (upd H a o') i (σ[i]?) s) : Stt K B g (upd H a o') σ (δ.set i (some s)) ∧ Step n g H g (upd H a o') := by
  obtain ⟨b1, b2, b3, b4⟩ := S.own a i ha
  refine ⟨⟨⟨fun b u e => ?_, S.ret.up, fun b u e hh nt => ?_, fun b hb => ?_, S.ret.froz, S.ret.wle, S.ret.drw.keep fun b hb => ⟨?_, rfl⟩, tabs_mut S.ret.tab h hp.tbl hp.ext, S.ret.dnew, S.ret.fnt⟩, fun b k e => ?_, by simpa using S.len, fun j t e => ?_⟩, ⟨Up.refl _, WLe.refl _, upd_thr, fun b k e hk => ⟨e, ?_⟩⟩⟩
  · rw [upd_ne (fun q => by rw [q, b2] at e; cases e)]; exact S.ret.sub _ _ e
  · rw [upd_ne (fun q => by rw [q, b1] at e; cases e)]; exact S.ret.old b u e hh nt
  · by_cases q : b = a
    · rw [q, upd_same]; simp
    · rw [upd_ne q]; exact S.ret.there b hb
  · exact upd_ne fun q => b4 (by rw [← q]; exact hb)
  · obtain ⟨c1, c2, c3, c4⟩ := S.own b k e
    refine ⟨c1, c2, ?_, c4⟩
    by_cases q : b = a
    · exact ⟨o', by rw [q, upd_same], hp'⟩
    · rw [upd_ne q]; exact c3
  · rcases getSet e with ⟨e1, e2, _⟩ | ⟨e1, e2⟩
    · subst e1
      cases Option.some.inj e2
      exact new
    · exact (S.env j t e2).other ha e1 fun b hb => upd_ne hb
  · exact upd_ne (own_ne e ha (by omega))
/-- slot i's own object is frozen -/
theorem Stt.freeze {a : Addr} {i : Nat} {o : HO} (S : Stt K B g H σ δ) (ha : g.O a = some i) (hi : i < n) (h : H a = some o) :
    ∃ g', Stt K B g' H σ (δ.set i none) ∧ Step n g H g' H ∧ g'.F a = some o ∧ g'.W = g.W := by
  obtain ⟨b1, b2, b3, b4⟩ := S.own a i ha
  refine ⟨⟨upd g.F a o, fun b => if g.O b = some i then none else g.O b, g.W⟩, ⟨⟨fun b u e => ?_, S.ret.up.trans (up_upd b2), S.ret.old, S.ret.there, fun b hb => ?_, S.ret.wle, S.ret.drw.keep fun b hb => ⟨rfl, ?_⟩, S.ret.tab, S.ret.dnew, fnt_upd S.ret.fnt (by obtain ⟨o', z, p⟩ := b3; rw [h] at z; cases z; exact p.tbl)⟩, fun b k e => ?_, by simpa using S.len, fun j t e => ?_⟩, ⟨up_upd b2, WLe.refl _, fun _ h => h, fun b k e hk => ⟨?_, rfl⟩⟩, upd_same, rfl⟩
  · have e : upd g.F a o b = some u := e
    by_cases q : b = a
    · subst q; rw [upd_same] at e; rw [h]; exact e
    · rw [upd_ne q] at e; exact S.ret.sub _ _ e
  · show upd g.F a o b = B.F b
    rw [upd_ne (fun q => hb (by rw [q]; exact b1))]; exact S.ret.froz b hb
  · exact upd_ne fun q => b4 (by rw [← q]; exact hb)
  · by_cases q : g.O b = some i
    · simp [q] at e
    · simp only [q, if_false] at e
      obtain ⟨c1, c2, c3, c4⟩ := S.own b k e
      exact ⟨c1, (upd_ne (fun z => q (by rw [z]; exact ha))).trans c2, c3, c4⟩
  · rcases getSet e with ⟨_, e2, _⟩ | ⟨e1, e2⟩
    · cases e2
    · have q := S.env j t e2
      have ow : ∀ b, g.O b = some j → (if g.O b = some i then none else g.O b) = some j := fun b e => by rw [e, if_neg (fun z => e1 (Option.some.inj z))]
      cases t with
      | sh d =>
        obtain ⟨v, z1, r⟩ := q
        exact ⟨v, z1, r.up (up_upd b2) (WLe.refl _)⟩
      | ol ds =>
        obtain ⟨b, xs, z1, z2, z3, r⟩ := q
        exact ⟨b, xs, z1, ow b z2, z3, r.up (up_upd b2) (WLe.refl _)⟩
      | od kvs =>
        obtain ⟨b, ks, z1, z2, z3, z4, r⟩ := q
        exact ⟨b, ks, z1, ow b z2, z3, z4, r.up (up_upd b2) (WLe.refl _)⟩
      | oi m C fs =>
        obtain ⟨b, dx, gs, z1, z2, z3, z4, r⟩ := q
        exact ⟨b, dx, gs, z1, ow b z2, z3, z4, r.up (up_upd b2) (WLe.refl _)⟩
  · show (if g.O b = some i then none else g.O b) = some k
    rw [e, if_neg (fun z => absurd (Option.some.inj z) (by omega))]
/-- slot i is set (what it owned is let go) -/
theorem Stt.put {i : Nat} {v : V} {d : D} (S : Stt K B g H σ δ) (r : Den K g.W g.F v d) (hi : i < n) :
    ∃ g', Stt K B g' H (σ.set i (some v)) (δ.set i (some (.sh d))) ∧ Step n g H g' H := by
  refine ⟨⟨g.F, fun b => if g.O b = some i then none else g.O b, g.W⟩, ⟨S.ret, fun b k e => ?_, by simpa using S.len, fun j t e => ?_⟩, ⟨Up.refl _, WLe.refl _, fun _ h => h, fun b k e hk => ⟨?_, rfl⟩⟩⟩
  · by_cases q : g.O b = some i
    · simp [q] at e
    · simp only [q, if_false] at e
      exact S.own b k e
  · rcases getSet e with ⟨e1, e2, hl⟩ | ⟨e1, e2⟩
    · subst e1
      cases e2
      exact ⟨v, by rw [List.getElem?_set_self (by rw [← S.len]; exact hl)], r⟩
    · have q := S.env j t e2
      rw [List.getElem?_set_ne (Ne.symm e1)]
      have ow : ∀ b, g.O b = some j → (if g.O b = some i then none else g.O b) = some j := fun b e => by rw [e, if_neg (fun z => e1 (Option.some.inj z))]
      cases t with
      | sh d => exact q
      | ol ds =>
        obtain ⟨b, xs, z1, z2, z3⟩ := q
        exact ⟨b, xs, z1, ow b z2, z3⟩
      | od kvs =>
        obtain ⟨b, ks, z1, z2, z3⟩ := q
        exact ⟨b, ks, z1, ow b z2, z3⟩
      | oi m C fs =>
        obtain ⟨b, dx, gs, z1, z2, z3⟩ := q
        exact ⟨b, dx, gs, z1, ow b z2, z3⟩
  · show (if g.O b = some i then none else g.O b) = some k
    rw [e, if_neg (fun z => absurd (Option.some.inj z) (by omega))]
/-- slot i is set to an object that an extra owner has: slot i has it now -/
theorem Stt.putOwn {i k : Nat} {a : Addr} {s : Sl} (S : Stt K B g H σ δ) (hn : σ.length = n) (hi : i < n) (ha : g.O a = some k) (hk : n ≤ k) (new : ∀ O' : Addr → Option Nat, O' a = some i → SlOk K { g with O := O' } H i (some (some (.ref a))) s) :
    ∃ g', Stt K B g' H (σ.set i (some (.ref a))) (δ.set i (some s)) ∧ Up g.F g'.F ∧ WLe g.W g'.W ∧ ∀ b k', g.O b = some k' → n ≤ k' → b ≠ a → g'.O b = some k' := by
  refine ⟨⟨g.F, fun b => if b = a then some i else if g.O b = some i then none else g.O b, g.W⟩, ⟨S.ret, fun b j e => ?_, by simpa using S.len, fun j t e => ?_⟩, Up.refl _, WLe.refl _, fun b k' e hk' hne => ?_⟩
  · by_cases q : b = a
    · subst q; exact S.own b k ha
    · simp only [q, if_false] at e
      by_cases q2 : g.O b = some i
      · simp [q2] at e
      · simp only [q2, if_false] at e
        exact S.own b j e
  · rcases getSet e with ⟨e1, e2, hl⟩ | ⟨e1, e2⟩
    · subst e1
      cases e2
      rw [List.getElem?_set_self (by rw [← S.len]; exact hl)]
      exact new _ (by simp)
    · have q := S.env j t e2
      have hjl : j < n := by rw [← hn, ← S.len]; exact (List.getElem?_eq_some_iff.mp e2).1
      rw [List.getElem?_set_ne (Ne.symm e1)]
      have ow : ∀ b, g.O b = some j → (if b = a then some i else if g.O b = some i then none else g.O b) = some j := fun b e => by
        have : b ≠ a := fun z => by rw [z, ha] at e; exact absurd (Option.some.inj e) (by omega)
        rw [if_neg this, e, if_neg (fun z => e1 (Option.some.inj z))]
      cases t with
      | sh d => exact q
      | ol ds =>
        obtain ⟨b, xs, z1, z2, z3⟩ := q
        exact ⟨b, xs, z1, ow b z2, z3⟩
      | od kvs =>
        obtain ⟨b, ks, z1, z2, z3⟩ := q
        exact ⟨b, ks, z1, ow b z2, z3⟩
      | oi m C fs =>
        obtain ⟨b, dx, gs, z1, z2, z3⟩ := q
        exact ⟨b, dx, gs, z1, ow b z2, z3⟩
  · show (if b = a then some i else if g.O b = some i then none else g.O b) = some k'
    rw [if_neg hne, e, if_neg (fun z => absurd (Option.some.inj z) (by omega))]
/-- an extra owner's object is written (an accumulator) -/
theorem Stt.writeX {a : Addr} {k : Nat} {o o' : HO} (S : Stt K B g H σ δ) (hn : σ.length = n) (ha : g.O a = some k) (hk : n ≤ k) (h : H a = some o) (hp : plainO o) (hp' : plainO o') :
    Stt K B g (upd H a o') σ δ ∧ ∀ b, b ≠ a → upd H a o' b = H b := by
  obtain ⟨b1, b2, b3, b4⟩ := S.own a k ha
  refine ⟨⟨⟨fun b u e => ?_, S.ret.up, fun b u e hh nt => ?_, fun b hb => ?_, S.ret.froz, S.ret.wle, S.ret.drw.keep fun b hb => ⟨?_, rfl⟩, tabs_mut S.ret.tab h hp.tbl hp.ext, S.ret.dnew, S.ret.fnt⟩, fun b k e => ?_, S.len, fun j t e => ?_⟩, fun b hb => upd_ne hb⟩
  · rw [upd_ne (fun q => by rw [q, b2] at e; cases e)]; exact S.ret.sub _ _ e
  · rw [upd_ne (fun q => by rw [q, b1] at e; cases e)]; exact S.ret.old b u e hh nt
  · by_cases q : b = a
    · rw [q, upd_same]; simp
    · rw [upd_ne q]; exact S.ret.there b hb
  · exact upd_ne fun q => b4 (by rw [← q]; exact hb)
  · obtain ⟨c1, c2, c3, c4⟩ := S.own b k e
    refine ⟨c1, c2, ?_, c4⟩
    by_cases q : b = a
    · exact ⟨o', by rw [q, upd_same], hp'⟩
    · rw [upd_ne q]; exact c3
  · have hjl : j < n := by rw [← hn, ← S.len]; exact (List.getElem?_eq_some_iff.mp e).1
    exact (S.env j t e).other ha (by omega) fun b hb => upd_ne hb
/-- an extra owner's object is frozen -/
theorem Stt.freezeX {a : Addr} {k : Nat} {o : HO} (S : Stt K B g H σ δ) (hn : σ.length = n) (ha : g.O a = some k) (hk : n ≤ k) (h : H a = some o) :
    ∃ g', Stt K B g' H σ δ ∧ Up g.F g'.F ∧ WLe g.W g'.W ∧ g'.F a = some o ∧ g'.W = g.W ∧ ∀ b k', g.O b = some k' → b ≠ a → g'.O b = some k' := by
  obtain ⟨b1, b2, b3, b4⟩ := S.own a k ha
  refine ⟨⟨upd g.F a o, fun b => if b = a then none else g.O b, g.W⟩, ⟨⟨fun b u e => ?_, S.ret.up.trans (up_upd b2), S.ret.old, S.ret.there, fun b hb => ?_, S.ret.wle, S.ret.drw.keep fun b hb => ⟨rfl, ?_⟩, S.ret.tab, S.ret.dnew, fnt_upd S.ret.fnt (by obtain ⟨o', z, p⟩ := b3; rw [h] at z; cases z; exact p.tbl)⟩, fun b j e => ?_, S.len, fun j t e => ?_⟩, up_upd b2, WLe.refl _, upd_same, rfl, fun b k' e hne => ?_⟩
  · have e : upd g.F a o b = some u := e
    by_cases q : b = a
    · subst q; rw [upd_same] at e; rw [h]; exact e
    · rw [upd_ne q] at e; exact S.ret.sub _ _ e
  · show upd g.F a o b = B.F b
    rw [upd_ne (fun q => hb (by rw [q]; exact b1))]; exact S.ret.froz b hb
  · exact upd_ne fun q => b4 (by rw [← q]; exact hb)
  · by_cases q : b = a
    · simp [q] at e
    · simp only [q, if_false] at e
      obtain ⟨c1, c2, c3, c4⟩ := S.own b j e
      exact ⟨c1, (upd_ne q).trans c2, c3, c4⟩
  · have hjl : j < n := by rw [← hn, ← S.len]; exact (List.getElem?_eq_some_iff.mp e).1
    have q := S.env j t e
    have ow : ∀ b, g.O b = some j → (if b = a then none else g.O b) = some j := fun b e => by
      rw [if_neg (fun z => by rw [z, ha] at e; exact absurd (Option.some.inj e) (by omega))]; exact e
    cases t with
    | sh d =>
      obtain ⟨v, z1, r⟩ := q
      exact ⟨v, z1, r.up (up_upd b2) (WLe.refl _)⟩
    | ol ds =>
      obtain ⟨b, xs, z1, z2, z3, r⟩ := q
      exact ⟨b, xs, z1, ow b z2, z3, r.up (up_upd b2) (WLe.refl _)⟩
    | od kvs =>
      obtain ⟨b, ks, z1, z2, z3, z4, r⟩ := q
      exact ⟨b, ks, z1, ow b z2, z3, z4, r.up (up_upd b2) (WLe.refl _)⟩
    | oi m C fs =>
      obtain ⟨b, dx, gs, z1, z2, z3, z4, r⟩ := q
      exact ⟨b, dx, gs, z1, ow b z2, z3, z4, r.up (up_upd b2) (WLe.refl _)⟩
  · show (if b = a then none else g.O b) = some k'
    rw [if_neg hne]; exact e
/-- a slot is forgotten -/
theorem Stt.forget {i : Nat} (S : Stt K B g H σ δ) : Stt K B g H σ (δ.set i none) := ⟨S.ret, S.own, by simpa using S.len, fun j t e => by
  rcases getSet e with ⟨_, e2, _⟩ | ⟨e1, e2⟩
  · cases e2
  · exact S.env j t e2⟩
end

/-! ### readings over data -/
abbrev TD := Env → (D → Env → Prop) → Prop
abbrev TDX := (D → Prop) → TD
abbrev TDB := (D → Prop) → Env → (Bool → Env → Prop) → Prop
abbrev TDA := (D → Prop) → Env → (List D → Env → Prop) → Prop
def liftE (K : PySem.W.Frag) (B : Base) (n : Nat) (t : TD) : TE := fun σ H Q => ∃ g δ P, Stt K B g H σ δ ∧ t δ P ∧
  ∀ d δ' g' H' v, P d δ' → Step n g H g' H' → Stt K B g' H' σ δ' → Den K g'.W g'.F v d → Q v H'
def liftT (K : PySem.W.Frag) (B : Base) (n : Nat) (t : Env → (Bool → Env → Prop) → Prop) : TT := fun σ H Q => ∃ g δ P, Stt K B g H σ δ ∧ t δ P ∧
  ∀ b δ' g' H', P b δ' → Step n g H g' H' → Stt K B g' H' σ δ' → Q b H'
def liftA (K : PySem.W.Frag) (B : Base) (n : Nat) (t : Env → (List D → Env → Prop) → Prop) : TA := fun σ H Q => ∃ g δ P, Stt K B g H σ δ ∧ t δ P ∧
  ∀ ds δ' g' H' vs, P ds δ' → Step n g H g' H' → Stt K B g' H' σ δ' → Dens K g'.W g'.F vs ds → Q vs H'
/-- how an exception lies -/
def ExcDen (K : PySem.W.Frag) (W : DW) (F : Hp) (cls : Value) (d : Option Addr) : D → Prop
  | .exc c fs => cls = .ref (He.ga K c) ∧ ((d = none ∧ fs = []) ∨ ∃ dd gs, d = some dd ∧ F dd = some (.xd gs) ∧ gs.map (·.1) = fs.map (·.1) ∧ Dens K W F (gs.map (·.2)) (fs.map (·.2)))
  | _ => False
def liftX (K : PySem.W.Frag) (B : Base) (rx : D → Prop) : XK := fun cls d H => ∃ F W e, Ret B F H W ∧ ExcDen K W F cls d e ∧ rx e
def XW (E : XK) : WX := fun cls d _ H => E cls d H
structure DEnds where
  nx : Env → Prop
  rt : D → Prop
  bk : Env → Prop := fun _ => False
  ct : Env → Prop := fun _ => False
abbrev TDS := (D → Prop) → DEnds → Env → Prop
def liftS (K : PySem.W.Frag) (B : Base) (n : Nat) (t : DEnds → Env → Prop) : TS := fun DD σ H => ∃ g δ DE, Stt K B g H σ δ ∧ t DE δ ∧
  (∀ σ' δ' g' H', DE.nx δ' → Step n g H g' H' → Stt K B g' H' σ' δ' → DD.nx σ' H') ∧
  (∀ d v F' W' H', DE.rt d → Ret B F' H' W' → Den K W' F' v d → DD.rt v H') ∧
  (∀ σ' δ' g' H', DE.bk δ' → Step n g H g' H' → Stt K B g' H' σ' δ' → DD.bk σ' H') ∧
  (∀ σ' δ' g' H', DE.ct δ' → Step n g H g' H' → Stt K B g' H' σ' δ' → DD.ct σ' H')
/-- the judgements -/
structure DE (X : Cx) (B : Base) (e : Expr) (t : TDX) : Prop where
  run : ∀ rx, Takes X (XW (liftX X.K B rx)) → PE X e (liftE X.K B X.N.length (t rx))
structure DT (X : Cx) (B : Base) (e : Expr) (t : TDB) : Prop where
  run : ∀ rx, Takes X (XW (liftX X.K B rx)) → PT X e (liftT X.K B X.N.length (t rx))
structure DA (X : Cx) (B : Base) (es : List Expr) (t : TDA) : Prop where
  run : ∀ rx, Takes X (XW (liftX X.K B rx)) → PA X es (liftA X.K B X.N.length (t rx))
structure DS (X : Cx) (B : Base) (st : Stmt) (t : TDS) : Prop where
  run : ∀ rx, Takes X (XW (liftX X.K B rx)) → PS X st (liftS X.K B X.N.length (t rx))
structure DSs (X : Cx) (B : Base) (st : List Stmt) (t : TDS) : Prop where
  run : ∀ rx, Takes X (XW (liftX X.K B rx)) → PSs X st (liftS X.K B X.N.length (t rx))
theorem PE.imp {X : Cx} {e : Expr} {t t' : TE} (h : PE X e t) (i : ∀ σ H Q, σ.length = X.N.length → t' σ H Q → t σ H Q) : PE X e t' := ⟨fun pins s σ H Q I q => h.run pins s σ H Q I (i σ H Q I.len q)⟩
theorem PT.imp {X : Cx} {e : Expr} {t t' : TT} (h : PT X e t) (i : ∀ σ H Q, σ.length = X.N.length → t' σ H Q → t σ H Q) : PT X e t' := ⟨fun pins s σ H Q I q => h.run pins s σ H Q I (i σ H Q I.len q)⟩
theorem PA.imp {X : Cx} {e : List Expr} {t t' : TA} (h : PA X e t) (i : ∀ σ H Q, σ.length = X.N.length → t' σ H Q → t σ H Q) : PA X e t' := ⟨fun pos pins s σ H Q I q => h.run pos pins s σ H Q I (i σ H Q I.len q)⟩
theorem PS.imp {X : Cx} {e : Stmt} {t t' : TS} (h : PS X e t) (i : ∀ D σ H, σ.length = X.N.length → t' D σ H → t D σ H) : PS X e t' := ⟨fun pins s σ H D I q => h.run pins s σ H D I (i D σ H I.len q)⟩
theorem PSs.imp {X : Cx} {e : List Stmt} {t t' : TS} (h : PSs X e t) (i : ∀ D σ H, σ.length = X.N.length → t' D σ H → t D σ H) : PSs X e t' := ⟨fun pins s σ H D I q => h.run pins s σ H D I (i D σ H I.len q)⟩
end DL

namespace DL
open PySem PySem.Spec L2
open PyProof.Rows hiding St
section
variable {K : PySem.W.Frag} {B : Base} {g : Gs} {H : Hp} {σ : L2.St} {δ : Env} {n : Nat}
theorem Stt.setSh {i : Nat} {v : V} {d : D} (S : Stt K B g H σ (δ.set i none)) (e : σ[i]? = some (some v)) (r : Den K g.W g.F v d) : Stt K B g H σ (δ.set i (some (.sh d))) := ⟨S.ret, S.own, by simpa using S.len, fun j t q => by
  rcases getSet q with ⟨e1, e2, _⟩ | ⟨e1, e2⟩
  · subst e1
    cases Option.some.inj e2
    exact ⟨v, e, r⟩
  · refine S.env j t ?_
    rw [List.getElem?_set_ne (Ne.symm e1)]; exact e2⟩
/-! ### names, constants -/
def dVar (i : Nat) : TDX := fun _ δ P => match δ[i]? with
  | some (some (.sh d)) => P d δ
  | some (some (.ol ds)) => P (.lst ds) (δ.set i (some (.sh (.lst ds))))
  | some (some (.od kvs)) => P (.dct kvs) (δ.set i (some (.sh (.dct kvs))))
  | some (some (.oi m C fs)) => P (.ob C fs) (δ.set i (some (.sh (.ob C fs))))
  | _ => False
theorem de_var {X : Cx} {x : Str} {pos : Pos} (i : Nat) (h : PE X (.Name x pos) (tVar i)) : DE X B (.Name x pos) (dVar i) := ⟨fun rx _ => PE.imp h fun σ H Q hl ⟨g, δ, P, S, q, k⟩ => by
  have hi : ∀ s, δ[i]? = some (some s) → i < X.N.length := fun s e => by rw [← hl, ← S.len]; exact (List.getElem?_eq_some_iff.mp e).1
  unfold dVar at q
  cases e : δ[i]? with
  | none => rw [e] at q; exact q.elim
  | some o =>
    rw [e] at q
    cases o with
    | none => exact q.elim
    | some s =>
      have z := S.env i s e
      cases s with
      | sh d =>
        obtain ⟨v, e1, r⟩ := z
        exact ⟨v, e1, k _ _ g H v q (Step.refl _ _ _) S r⟩
      | ol ds =>
        obtain ⟨a, xs, e1, e2, e3, r⟩ := z
        obtain ⟨g', S', st, hF, hW⟩ := S.freeze e2 (hi _ e) e3
        have dn : Den X.K g'.W g'.F (.ref a) (.lst ds) := .lst hF (r.step st)
        exact ⟨_, e1, k _ _ g' H _ q st (S'.setSh e1 dn) dn⟩
      | od kvs =>
        obtain ⟨a, ks, e1, e2, e3, e4, r⟩ := z
        obtain ⟨g', S', st, hF, hW⟩ := S.freeze e2 (hi _ e) e3
        have dn : Den X.K g'.W g'.F (.ref a) (.dct kvs) := .dct hF e4 (r.step st)
        exact ⟨_, e1, k _ _ g' H _ q st (S'.setSh e1 dn) dn⟩
      | oi m C fs =>
        obtain ⟨a, dx, gs, e1, e2, e3, e4, r⟩ := z
        obtain ⟨g', S', st, hF, hW⟩ := S.freeze e2 (hi _ e) e3
        have dn : Den X.K g'.W g'.F (.ref a) (.ob C fs) := .ob hF e4.1 (r.step st)
        exact ⟨_, e1, k _ _ g' H _ q st (S'.setSh e1 dn) dn⟩⟩
def dC (d : D) : TDX := fun _ δ P => P d δ
theorem de_c {X : Cx} {e : Expr} {v : V} {d : D} (h : PE X e (tC v)) (r : ∀ W F, Den X.K W F v d) : DE X B e (dC d) := ⟨fun rx _ => PE.imp h fun σ H Q hl ⟨g, δ, P, S, q, k⟩ => k _ _ g H v q (Step.refl _ _ _) S (r _ _)⟩
theorem de_int {X : Cx} {i j pos} : DE X B (.Constant (.int i) j pos) (dC (.int i)) := de_c pe_int fun _ _ => .int i
theorem de_bl {X : Cx} {b j pos} : DE X B (.Constant (.bool b) j pos) (dC (.bl b)) := de_c pe_bl fun _ _ => .bl b
theorem de_non {X : Cx} {j pos} : DE X B (.Constant .none j pos) (dC .non) := de_c pe_non fun _ _ => .non
theorem de_str {X : Cx} {x j pos} : DE X B (.Constant (.str x) j pos) (dC (.str x)) := de_c pe_str fun _ _ => .str x

/-! ### operations by values -/
def Lift2 (K : PySem.W.Frag) (r : R2) (rD : D → D → (D → Prop) → Prop) : Prop := ∀ (B : Base) (n : Nat) (g : Gs) (H : Hp) (σ : L2.St) (δ : Env) (x y : V) (d1 d2 : D) (P : D → Prop) (Q : VK), Stt K B g H σ δ → Den K g.W g.F x d1 → Den K g.W g.F y d2 → rD d1 d2 P →
  (∀ d g' H' v, P d → Step n g H g' H' → Stt K B g' H' σ δ → Den K g'.W g'.F v d → Q v H') → r x y H Q
def Lift1 (K : PySem.W.Frag) (r : V → Hp → VK → Prop) (rD : D → (D → Prop) → Prop) : Prop := ∀ (B : Base) (n : Nat) (g : Gs) (H : Hp) (σ : L2.St) (δ : Env) (x : V) (d1 : D) (P : D → Prop) (Q : VK), Stt K B g H σ δ → Den K g.W g.F x d1 → rD d1 P →
  (∀ d g' H' v, P d → Step n g H g' H' → Stt K B g' H' σ δ → Den K g'.W g'.F v d → Q v H') → r x H Q
def LiftC (K : PySem.W.Frag) (r : List V → Hp → VK → Prop) (rD : List D → (D → Prop) → Prop) : Prop := ∀ (B : Base) (n : Nat) (g : Gs) (H : Hp) (σ : L2.St) (δ : Env) (xs : List V) (ds : List D) (P : D → Prop) (Q : VK), Stt K B g H σ δ → Dens K g.W g.F xs ds → rD ds P →
  (∀ d g' H' v, P d → Step n g H g' H' → Stt K B g' H' σ δ → Den K g'.W g'.F v d → Q v H') → r xs H Q
def d2 (rD : D → D → (D → Prop) → Prop) (ta tb : TDX) : TDX := fun rx δ P => ta rx δ fun x δ1 => tb rx δ1 fun y δ2 => rD x y fun z => P z δ2
def d1 (rD : D → (D → Prop) → Prop) (ta : TDX) : TDX := fun rx δ P => ta rx δ fun x δ1 => rD x fun z => P z δ1
variable {X : Cx} {a b e : Expr} {ta tb te : TDX} {pos : Pos}
theorem lift_op {r : R2} {rD : D → D → (D → Prop) → Prop} (L : Lift2 X.K r rD) {rx : D → Prop} {σ : L2.St} {H : Hp} {Q : VK} (h : liftE X.K B n (d2 rD ta tb rx) σ H Q) : tOp r (liftE X.K B n (ta rx)) (liftE X.K B n (tb rx)) σ H Q := by
  obtain ⟨g, δ, P, S, q, k⟩ := h
  exact ⟨g, δ, _, S, q, fun d1 δ1 g1 H1 v1 h1 st1 S1 D1 => ⟨g1, δ1, _, S1, h1, fun d2 δ2 g2 H2 v2 h2 st2 S2 D2 =>
    L B n g2 H2 σ δ2 v1 v2 d1 d2 _ Q S2 (D1.step st2) D2 h2 fun d g' H' v hp st S' Dn => k d δ2 g' H' v hp ((st1.trans st2).trans st) S' Dn⟩⟩
theorem de_op {op : Operator} {r : R2} {rD : D → D → (D → Prop) → Prop} (ho : OpR X (binaryOp op) r) (L : Lift2 X.K r rD) (ha : DE X B a ta) (hb : DE X B b tb) : DE X B (.BinOp a op b pos) (d2 rD ta tb) :=
  ⟨fun rx tk => PE.imp (pe_op ho (ha.run rx tk) (hb.run rx tk)) fun _ _ _ _ h => lift_op L h⟩
theorem de_un {op : UnaryOp} {r : V → Hp → VK → Prop} {rD : D → (D → Prop) → Prop} (ho : UnR X (unaryOp op) r) (L : Lift1 X.K r rD) (ha : DE X B a ta) : DE X B (.UnaryOp op a pos) (d1 rD ta) :=
  ⟨fun rx tk => PE.imp (pe_un ho (ha.run rx tk)) fun σ H Q _ ⟨g, δ, P, S, q, k⟩ => ⟨g, δ, _, S, q, fun d1 δ1 g1 H1 v1 h1 st1 S1 D1 => L B _ g1 H1 σ δ1 v1 d1 _ Q S1 D1 h1 fun d g' H' v hp st S' Dn => k d δ1 g' H' v hp (st1.trans st) S' Dn⟩⟩
theorem de_cmp {op : CmpOp} {r : R2} {rD : D → D → (D → Prop) → Prop} (ho : OpR X (compareOp op) r) (L : Lift2 X.K r rD) (ha : DE X B a ta) (hb : DE X B b tb) (hm : behindInMarks op b = false) : DE X B (.Compare a [op] [b] pos) (d2 rD ta tb) :=
  ⟨fun rx tk => PE.imp (pe_cmpR ho (ha.run rx tk) (hb.run rx tk) hm) fun _ _ _ _ h => lift_op L h⟩
theorem de_ix {r : R2} {rD : D → D → (D → Prop) → Prop} (hr : IxR X r) (L : Lift2 X.K r rD) (ha : DE X B a ta) (hb : DE X B b tb) (hs : PlainIx b) : DE X B (.Subscript a b pos) (d2 rD ta tb) :=
  ⟨fun rx tk => PE.imp (pe_ix hr (ha.run rx tk) (hb.run rx tk) hs) fun _ _ _ _ h => lift_op L h⟩
/-! ### tests -/
/-- a value that is a bool -/
def dTest (te : TDX) : TDB := fun rx δ P => te rx δ fun d δ' => match d with
  | .bl b => P b δ'
  | _ => False
theorem lift_test {rx : D → Prop} {σ : L2.St} {H : Hp} {Q : Bool → Hp → Prop} (h : liftT K B n (dTest te rx) σ H Q) : liftE K B n (te rx) σ H (fun x H' => ∃ c, x = .bl c ∧ Q c H') := by
  obtain ⟨g, δ, P, S, q, k⟩ := h
  refine ⟨g, δ, _, S, q, fun d δ1 g1 H1 v h1 st1 S1 D1 => ?_⟩
  cases D1 with
  | bl b => exact ⟨b, rfl, k b δ1 g1 H1 h1 st1 S1⟩
  | _ => exact h1.elim
theorem dt_val (h : DE X B e te) (he : ∀ whole, isTrue e X.env whole = (do let v ← whole; standAt e.pos; holding [v] (truthy v)) := by intro _; rfl) : DT X B e (dTest te) :=
  ⟨fun rx tk => PT.imp (pt_val (h.run rx tk) he) fun _ _ _ _ q => lift_test q⟩
theorem dt_cmp {op : CmpOp} {r : R2} {rD : D → D → (D → Prop) → Prop} (ho : OpR X (compareOp op) r) (L : Lift2 X.K r rD) (ha : DE X B a ta) (hb : DE X B b tb) (hm : behindInMarks op b = false) : DT X B (.Compare a [op] [b] pos) (dTest (d2 rD ta tb)) :=
  ⟨fun rx tk => PT.imp (pt_cmpR ho (ha.run rx tk) (hb.run rx tk) hm) fun σ H Q _ h => lift_op (Q := fun x H' => ∃ k, x = .bl k ∧ Q k H') L (lift_test (te := d2 rD ta tb) h)⟩
structure DWh (X : Cx) (B : Base) (e : Expr) (t : TDB) : Prop where
  run : ∀ rx, Takes X (XW (liftX X.K B rx)) → PW X e (liftT X.K B X.N.length (t rx))
theorem PW.imp {X : Cx} {e : Expr} {t t' : TT} (h : PW X e t) (i : ∀ σ H Q, σ.length = X.N.length → t' σ H Q → t σ H Q) : PW X e t' := ⟨fun wh pins s σ H Q I q => h.run wh pins s σ H Q I (i σ H Q I.len q)⟩
theorem DWh.dt {t : TDB} (h : DWh X B e t) : DT X B e t := ⟨fun rx tk => (h.run rx tk).pt⟩
def dAnd (t u : TDB) : TDB := fun rx δ P => t rx δ fun c δ1 => if c = true then u rx δ1 P else P false δ1
def dOr (t u : TDB) : TDB := fun rx δ P => t rx δ fun c δ1 => if c = true then P true δ1 else u rx δ1 P
def dNot (t : TDB) : TDB := fun rx δ P => t rx δ fun c δ1 => P (!c) δ1
variable {tA tB : TDB} {rest : List Expr}
theorem dw_and1 (ha : DT X B a tA) : DWh X B (.BoolOp .And [a] pos) tA := ⟨fun rx tk => pw_and1 (ha.run rx tk)⟩
theorem dw_or1 (ha : DT X B a tA) : DWh X B (.BoolOp .Or [a] pos) tA := ⟨fun rx tk => pw_or1 (ha.run rx tk)⟩
theorem dw_and (ha : DT X B a tA) (hb : DWh X B (.BoolOp .And (b :: rest) pos) tB) : DWh X B (.BoolOp .And (a :: b :: rest) pos) (dAnd tA tB) :=
  ⟨fun rx tk => PW.imp (pw_and (ha.run rx tk) (hb.run rx tk)) fun σ H Q _ ⟨g, δ, P, S, q, k⟩ => ⟨g, δ, _, S, q, fun c δ1 g1 H1 h1 st1 S1 => by
    cases c with
    | true => exact ⟨g1, δ1, P, S1, h1, fun c' δ2 g2 H2 h2 st2 S2 => k c' δ2 g2 H2 h2 (st1.trans st2) S2⟩
    | false => exact k false δ1 g1 H1 h1 st1 S1⟩⟩
theorem dw_or (ha : DT X B a tA) (hb : DWh X B (.BoolOp .Or (b :: rest) pos) tB) : DWh X B (.BoolOp .Or (a :: b :: rest) pos) (dOr tA tB) :=
  ⟨fun rx tk => PW.imp (pw_or (ha.run rx tk) (hb.run rx tk)) fun σ H Q _ ⟨g, δ, P, S, q, k⟩ => ⟨g, δ, _, S, q, fun c δ1 g1 H1 h1 st1 S1 => by
    cases c with
    | true => exact k true δ1 g1 H1 h1 st1 S1
    | false => exact ⟨g1, δ1, P, S1, h1, fun c' δ2 g2 H2 h2 st2 S2 => k c' δ2 g2 H2 h2 (st1.trans st2) S2⟩⟩⟩
theorem dt_not (ha : DT X B a tA) : DT X B (.UnaryOp .Not a pos) (dNot tA) :=
  ⟨fun rx tk => PT.imp (pt_not (ha.run rx tk)) fun σ H Q _ ⟨g, δ, P, S, q, k⟩ => ⟨g, δ, _, S, q, fun c δ1 g1 H1 h1 st1 S1 => k (!c) δ1 g1 H1 h1 st1 S1⟩⟩
/-! .. as values -/
def asB (t : TDX) : TDB := dTest t
def dAndV (ta tb : TDX) : TDX := fun rx δ P => ta rx δ fun d δ1 => match d with
  | .bl true => tb rx δ1 P
  | .bl false => P (.bl false) δ1
  | _ => False
def dOrV (ta tb : TDX) : TDX := fun rx δ P => ta rx δ fun d δ1 => match d with
  | .bl true => P (.bl true) δ1
  | .bl false => tb rx δ1 P
  | _ => False
def dNotV (ta : TDX) : TDX := fun rx δ P => ta rx δ fun d δ1 => match d with
  | .bl c => P (.bl (!c)) δ1
  | _ => False
theorem de_one {op} (h : DE X B a ta) : DE X B (.BoolOp op [a] pos) ta := ⟨fun rx tk => pe_one (h.run rx tk)⟩
theorem de_and (ha : DE X B a ta) (hb : DE X B (.BoolOp .And (b :: rest) pos) tb) : DE X B (.BoolOp .And (a :: b :: rest) pos) (dAndV ta tb) :=
  ⟨fun rx tk => PE.imp (pe_and (ha.run rx tk) (hb.run rx tk)) fun σ H Q _ ⟨g, δ, P, S, q, k⟩ => ⟨g, δ, _, S, q, fun d δ1 g1 H1 v1 h1 st1 S1 D1 => by
    cases D1 with
    | bl c =>
      cases c with
      | true => exact ⟨true, rfl, ⟨g1, δ1, P, S1, h1, fun c' δ2 g2 H2 v2 h2 st2 S2 D2 => k c' δ2 g2 H2 v2 h2 (st1.trans st2) S2 D2⟩⟩
      | false => exact ⟨false, rfl, k _ δ1 g1 H1 _ h1 st1 S1 (.bl false)⟩
    | _ => exact h1.elim⟩⟩
theorem de_or (ha : DE X B a ta) (hb : DE X B (.BoolOp .Or (b :: rest) pos) tb) : DE X B (.BoolOp .Or (a :: b :: rest) pos) (dOrV ta tb) :=
  ⟨fun rx tk => PE.imp (pe_or (ha.run rx tk) (hb.run rx tk)) fun σ H Q _ ⟨g, δ, P, S, q, k⟩ => ⟨g, δ, _, S, q, fun d δ1 g1 H1 v1 h1 st1 S1 D1 => by
    cases D1 with
    | bl c =>
      cases c with
      | false => exact ⟨false, rfl, ⟨g1, δ1, P, S1, h1, fun c' δ2 g2 H2 v2 h2 st2 S2 D2 => k c' δ2 g2 H2 v2 h2 (st1.trans st2) S2 D2⟩⟩
      | true => exact ⟨true, rfl, k _ δ1 g1 H1 _ h1 st1 S1 (.bl true)⟩
    | _ => exact h1.elim⟩⟩
theorem de_not (ha : DE X B a ta) : DE X B (.UnaryOp .Not a pos) (dNotV ta) :=
  ⟨fun rx tk => PE.imp (pe_not (ha.run rx tk)) fun σ H Q _ ⟨g, δ, P, S, q, k⟩ => ⟨g, δ, _, S, q, fun d δ1 g1 H1 v1 h1 st1 S1 D1 => by
    cases D1 with
    | bl c => exact ⟨c, rfl, k _ δ1 g1 H1 _ h1 st1 S1 (.bl _)⟩
    | _ => exact h1.elim⟩⟩
def dIf (c : TDB) (ta tb : TDX) : TDX := fun rx δ P => c rx δ fun b δ1 => if b = true then ta rx δ1 P else tb rx δ1 P
theorem de_ifExp {c : Expr} (hc : DT X B c tA) (ha : DE X B a ta) (hb : DE X B b tb) : DE X B (.IfExp c a b pos) (dIf tA ta tb) :=
  ⟨fun rx tk => PE.imp (pe_ifExp (hc.run rx tk) (ha.run rx tk) (hb.run rx tk)) fun σ H Q _ ⟨g, δ, P, S, q, k⟩ => ⟨g, δ, _, S, q, fun c δ1 g1 H1 h1 st1 S1 => by
    cases c with
    | true => exact ⟨g1, δ1, P, S1, h1, fun c' δ2 g2 H2 v2 h2 st2 S2 D2 => k c' δ2 g2 H2 v2 h2 (st1.trans st2) S2 D2⟩
    | false => exact ⟨g1, δ1, P, S1, h1, fun c' δ2 g2 H2 v2 h2 st2 S2 D2 => k c' δ2 g2 H2 v2 h2 (st1.trans st2) S2 D2⟩⟩⟩
/-! ### argument lists, displays -/
def dNil : TDA := fun _ δ P => P [] δ
def dCons (te : TDX) (t : TDA) : TDA := fun rx δ P => te rx δ fun d δ1 => t rx δ1 fun ds δ2 => P (d :: ds) δ2
variable {es : List Expr} {t : TDA}
theorem da_nil : DA X B [] dNil := ⟨fun rx tk => PA.imp pa_nil fun σ H Q _ ⟨g, δ, P, S, q, k⟩ => k _ _ g H [] q (Step.refl _ _ _) S .nil⟩
theorem lift_cons {rx : D → Prop} {σ : L2.St} {H : Hp} {Q : List V → Hp → Prop} (h : liftA K B n (dCons te t rx) σ H Q) : tCons (liftE K B n (te rx)) (liftA K B n (t rx)) σ H Q := by
  obtain ⟨g, δ, P, S, q, k⟩ := h
  exact ⟨g, δ, _, S, q, fun d δ1 g1 H1 v1 h1 st1 S1 D1 => ⟨g1, δ1, _, S1, h1, fun ds δ2 g2 H2 vs h2 st2 S2 D2 => k _ δ2 g2 H2 _ h2 (st1.trans st2) S2 (.cons (D1.step st2) D2)⟩⟩
theorem da_cons (he : DE X B e te) (hr : DA X B es t) (hs : starEach (e :: es) X.env = (false, eval e X.env) :: starEach es X.env := by rfl) : DA X B (e :: es) (dCons te t) :=
  ⟨fun rx tk => PA.imp (pa_cons (he.run rx tk) (hr.run rx tk) hs) fun _ _ _ _ h => lift_cons h⟩
def dTup (t : TDA) : TDX := fun rx δ P => t rx δ fun ds δ1 => ds.length ≤ sizeLine ∧ P (.tup ds) δ1
def dLst (t : TDA) : TDX := fun rx δ P => t rx δ fun ds δ1 => ds.length ≤ sizeLine ∧ P (.lst ds) δ1
theorem de_tup {x1} (h : DA X B es t) : DE X B (.Tuple es x1 pos) (dTup t) :=
  ⟨fun rx tk => PE.imp (pe_tup (h.run rx tk)) fun σ H Q _ ⟨g, δ, P, S, q, k⟩ => ⟨g, δ, _, S, q, fun ds δ1 g1 H1 vs h1 st1 S1 D1 => ⟨by rw [D1.length]; exact h1.1, fun p hp => by
    obtain ⟨S2, st2⟩ := S1.alloc (n := X.N.length) (o := .tup vs) hp
    exact k _ δ1 _ _ _ h1.2 (st1.trans st2) S2 (.tup (.inl (.inl upd_same)) (D1.step st2))⟩⟩⟩
theorem de_lst (h : DA X B es t) : DE X B (.List es pos) (dLst t) :=
  ⟨fun rx tk => PE.imp (pe_lst (h.run rx tk)) fun σ H Q _ ⟨g, δ, P, S, q, k⟩ => ⟨g, δ, _, S, q, fun ds δ1 g1 H1 vs h1 st1 S1 D1 => ⟨by rw [D1.length]; exact h1.1, fun p hp => by
    obtain ⟨S2, st2⟩ := S1.alloc (n := X.N.length) (o := .lst vs) hp
    exact k _ δ1 _ _ _ h1.2 (st1.trans st2) S2 (.lst upd_same (D1.step st2))⟩⟩⟩
/-! ### built-in calls -/
def dCB (rD : List D → (D → Prop) → Prop) (t : TDA) : TDX := fun rx δ P => t rx δ fun ds δ1 => rD ds fun d => P d δ1
theorem lift_cb {r : List V → Hp → VK → Prop} {rD : List D → (D → Prop) → Prop} (L : LiftC K r rD) {rx : D → Prop} {σ : L2.St} {H : Hp} {Q : VK} (h : liftE K B n (dCB rD t rx) σ H Q) : tCB r (liftA K B n (t rx)) σ H Q := by
  obtain ⟨g, δ, P, S, q, k⟩ := h
  exact ⟨g, δ, _, S, q, fun ds δ1 g1 H1 vs h1 st1 S1 D1 => L B n g1 H1 σ δ1 vs ds _ Q S1 D1 h1 fun d g' H' v hp st S' Dn => k d δ1 g' H' v hp (st1.trans st) S' Dn⟩
variable {x : Str} {p : Pos} {id T : String} {r : List V → Hp → VK → Prop} {rD : List D → (D → Prop) → Prop}
theorem de_callB (hc : CallR X (.builtin id) r) (L : LiftC X.K r rD) (hg : Gl X x) (hm : X.mg x = none) (hv : bootBuiltins x = some (.builtin id)) (ha : DA X B (e :: es) t) (hn : x ≠ "__name__" := by decide) (hdb : (x == ("__debug__" : Str)) = false := by decide)
    (he : starEach (e :: es) X.env = (false, eval e X.env) :: starEach es X.env := by rfl) (hpl : (backTo pos (starEach es X.env)).any (·.1) = false := by rfl) : DE X B (.Call (.Name x p) (e :: es) [] pos) (dCB rD t) :=
  ⟨fun rx tk => PE.imp (pe_callB hc hg hm hv (ha.run rx tk) hn hdb he hpl) fun _ _ _ _ h => lift_cb L h⟩
theorem de_callTy (hc : CallR X (.type T) r) (L : LiftC X.K r rD) (hg : Gl X x) (hm : X.mg x = none) (hv : bootBuiltins x = some (.type T)) (ha : DA X B (e :: es) t) (hn : x ≠ "__name__" := by decide) (hdb : (x == ("__debug__" : Str)) = false := by decide)
    (he : starEach (e :: es) X.env = (false, eval e X.env) :: starEach es X.env := by rfl) (hpl : (backTo pos (starEach es X.env)).any (·.1) = false := by rfl) : DE X B (.Call (.Name x p) (e :: es) [] pos) (dCB rD t) :=
  ⟨fun rx tk => PE.imp (pe_callTy hc hg hm hv (ha.run rx tk) hn hdb he hpl) fun _ _ _ _ h => lift_cb L h⟩
end
/-! ### own defs -/
section
variable {K : PySem.W.Frag} {B : Base} {g : Gs} {H : Hp} {σ : L2.St} {δ : Env} {n : Nat}
abbrev SpD := List D → (D → Prop) → (D → Prop) → Prop
/-- behind a call -/
theorem Ret.trans {F1 H1 F' H' : Hp} {W1 W' : DW} (a : Ret B F1 H1 W1) (b : Ret ⟨F1, H1, W1, B.T⟩ F' H' W') : Ret B F' H' W' where
  sub := b.sub
  up := a.up.trans b.up
  old := fun p o e h nt => b.old p o (a.old p o e (fun z => h (by
    obtain ⟨w, e1, e2⟩ := z
    rcases b.wle with q | q
    · rw [show W1 = none from q] at e1; cases e1
    · exact ⟨w, by rw [q]; exact e1, e2⟩)) nt) h nt
  there := fun p h => b.there p (a.there p h)
  froz := fun p h => (b.froz p (a.there p h)).trans (a.froz p h)
  wle := a.wle.trans b.wle
  drw := b.drw
  tab := b.tab
  dnew := fun p h h2 => by
    by_cases q : has W1 p
    · exact a.dnew p q h2
    · have z := b.dnew p h q
      cases e : B.H p with
      | none => rfl
      | some o => exact absurd z (a.there p (by rw [e]; simp))
  fnt := b.fnt
theorem Stt.after {F' H' : Hp} {W' : DW} (S : Stt K B g H σ δ) (b : Ret ⟨g.F, H, g.W, B.T⟩ F' H' W') : Stt K B ⟨F', g.O, W'⟩ H' σ δ ∧ Step n g H ⟨F', g.O, W'⟩ H' := by
  have nh : ∀ a k, g.O a = some k → ¬ has W' a := fun a k e h => by
    obtain ⟨c1, c2, ⟨o, c3, c5⟩, c4⟩ := S.own a k e
    have z := b.dnew a h c4
    rw [show H a = none from z] at c3; cases c3
  have keep : ∀ a k o, g.O a = some k → H a = some o → plainO o → H' a = some o := fun a k o e h hp => b.old a o h (nh a k e) hp.tbl
  refine ⟨⟨S.ret.trans b, fun a k e => ?_, S.len, fun i s e => ?_⟩, ⟨b.up, b.wle, b.there, fun a k e _ => ⟨e, ?_⟩⟩⟩
  · obtain ⟨c1, c2, ⟨o, c3, c5⟩, c4⟩ := S.own a k e
    exact ⟨c1, (b.froz a (by show H a ≠ none; rw [c3]; simp)).trans c2, ⟨o, keep a k o e c3 c5, c5⟩, nh a k e⟩
  · have q := S.env i s e
    cases s with
    | sh d =>
      obtain ⟨v, e1, r⟩ := q
      exact ⟨v, e1, r.up b.up b.wle⟩
    | ol ds =>
      obtain ⟨a, xs, e1, e2, e3, r⟩ := q
      exact ⟨a, xs, e1, e2, keep a i _ e2 e3 trivial, r.up b.up b.wle⟩
    | od kvs =>
      obtain ⟨a, ks, e1, e2, e3, e4, r⟩ := q
      exact ⟨a, ks, e1, e2, keep a i _ e2 e3 trivial, e4, r.up b.up b.wle⟩
    | oi m C fs =>
      obtain ⟨a, dx, gs, e1, e2, e3, e4, r⟩ := q
      exact ⟨a, dx, gs, e1, e2, keep a i _ e2 e3 trivial, e4, r.up b.up b.wle⟩
  · obtain ⟨c1, c2, ⟨o, c3, c5⟩, c4⟩ := S.own a k e
    rw [c3, keep a k o e c3 c5]
structure Gd (T : List (Addr × Str)) (F H : Hp) (W : DW) : Prop where
  sub : Up F H
  drw : DrawOk W F H
  tab : LamX.Tabs T H
  fnt : ∀ a o, F a = some o → notTbl o
theorem Ret.gd {F H : Hp} {W : DW} (r : Ret B F H W) : Gd B.T F H W := ⟨r.sub, r.drw, r.tab, r.fnt⟩
def liftSp (K : PySem.W.Frag) (T : List (Addr × Str)) (m : Nat) (wp : SpD) : Sp := fun vs H Q E => ∃ F W ds P RX, Gd T F H W ∧ Dens K W F vs ds ∧ ds.length = m ∧ wp ds P RX ∧
  (∀ d v F' W' H', P d → Ret ⟨F, H, W, T⟩ F' H' W' → Den K W' F' v d → Q v H') ∧ ∀ cls dd H', liftX K ⟨F, H, W, T⟩ RX cls dd H' → E cls dd H'
theorem Ret.refl {F H : Hp} {W : DW} {T : List (Addr × Str)} (q : Gd T F H W) : Ret ⟨F, H, W, T⟩ F H W :=
  ⟨q.sub, Up.refl _, fun _ _ e _ _ => e, fun _ e => e, fun _ _ => rfl, WLe.refl _, q.drw, q.tab, fun a h1 h2 => absurd h1 h2, q.fnt⟩
theorem liftX.trans {F1 H1 : Hp} {W1 : DW} {rx : D → Prop} {c : Value} {dd : Option Addr} {H' : Hp} (a : Ret B F1 H1 W1) (h : liftX K ⟨F1, H1, W1, B.T⟩ rx c dd H') : liftX K B rx c dd H' := by
  obtain ⟨F, W, e, r, x, q⟩ := h
  exact ⟨F, W, e, a.trans r, x, q⟩
variable {X : Cx}
theorem passes_lift {rx : D → Prop} (tk : Takes X (XW (liftX X.K B rx))) : Passes (L2.CX X.prog X.w) X (liftX X.K B rx) := passes_call tk fun _ _ _ _ h => h
/-- a call by values: the callee's promise from the caller's state -/
theorem sp_of {wp : SpD} {rx : D → Prop} {vs : List V} {ds : List D} {P : D → Prop} {Q : VK} (S : Stt K B g H σ δ) (r : Dens K g.W g.F vs ds) (h : wp ds P rx)
    (k : ∀ d g' H' v, P d → Step n g H g' H' → Stt K B g' H' σ δ → Den K g'.W g'.F v d → Q v H') : liftSp K B.T ds.length wp vs H Q (liftX K B rx) :=
  ⟨g.F, g.W, ds, P, rx, S.ret.gd, r, rfl, h, fun d v F' W' H' hp rt dn => by
    obtain ⟨S', st⟩ := S.after (n := n) rt
    exact k d _ H' v hp st S' dn, fun cls dd H' hx => liftX.trans S.ret hx⟩
/-! ### room, with no display around -/
structure Rm (k : Nat) (A : Around) : Prop where
  room : Room k A
  gd : A.guards = some []
theorem Rm.mono {j k : Nat} {A : Around} (r : Rm k A) (h : j ≤ k) : Rm j A := ⟨r.room.mono h, r.gd⟩
theorem Rm.deeper {k : Nat} {A : Around} (r : Rm (k + 1) A) (env : PySem.Env) : Rm k (A.deeper env) := ⟨r.room.deeper env, r.gd⟩
theorem Rm.in1 {k : Nat} {A : Around} (r : Rm (k + 1) A) : Rm k A.in1 := ⟨r.room.in1, r.gd⟩
theorem Rm.make {k : Nat} {A : Around} (r : Rm (k + 1) A) (C : Addr) (us : List Value) (kw : List (Str × Value)) : Rm k (A.under (.builtin "type.__call__" ⟨.ref C :: us, kw⟩)) :=
  ⟨r.room.make C us kw, by
    have h : (Code.builtin "type.__call__" ⟨.ref C :: us, kw⟩).guards = [] := by simp [Code.guards, Code.isGuard, guardIds]
    simp [Around.under, h, pushGuards, r.gd]⟩
/-- a def that keeps its promise wherever there is room -/
structure FnG (P : Program) (w : World) (K : PySem.W.Frag) (mg : Str → Option Value) (base : Heap) (k : Nat) (f : Addr) (fd : FuncData) (ps : List Str) (sp : Sp) : Prop where
  len : ∀ vs H Q E, sp vs H Q E → vs.length = ps.length
  go : ∀ (A : Around) (outer : List PySem.Env) (s : Shared) (H : Hp) (args : Args) (us : List Value) (vs : List V) (Q : VK) (E : XK), Rm k A → Env0 P w K mg base A outer s H → BindsTo s fd args (ps.zip us) → Vals vs us → sp vs H Q E →
    codeAny (model P w) A (.call (.ref f) args) (CR (L2.CX P w) outer P w H s Q E) s
theorem FnG.up {P : Program} {w : World} {K : PySem.W.Frag} {mg : Str → Option Value} {base : Heap} {j k : Nat} {f : Addr} {fd : FuncData} {ps : List Str} {sp : Sp} (F : FnG P w K mg base j f fd ps sp) (h : j ≤ k) : FnG P w K mg base k f fd ps sp :=
  ⟨F.len, fun A o s H a us vs Q E hr => F.go A o s H a us vs Q E (hr.mono h)⟩
section
variable {X : Cx} {k : Nat} {f : Addr} {fd : FuncData} {ps : List Str} {sp : Sp} {E : XK} {pins : List (Addr × Obj)} {σ : L2.St} {H : Hp} {s : Shared}
/-- what a callee hands over, told of the caller's state -/
theorem after_call {Q : VK} {r : Result} {s' : Shared} (I : Inv X pins σ H s) (hx : Passes (L2.CX X.prog X.w) X E) (h : CR (L2.CX X.prog X.w) X.stack X.prog X.w H s Q E r s') :
    match r with
    | .ok (.ret u) => EP X pins σ Q u s'
    | .ok _ => False
    | .error e => X.xe e s' := by
  rcases r with e | fl
  · exact hx pins σ H s e s' I h
  · cases fl <;> first | exact h | exact I.after h
theorem run_g {Q : VK} {us : List Value} {kw : List (Str × Value)} {vals : List Value} {vs : List V} (F : FnG X.prog X.w X.K X.mg X.base k f fd ps sp) (hr : Rm k X.A) (hb : BindsTo s fd ⟨us, kw⟩ (ps.zip vals)) (hx : Passes (L2.CX X.prog X.w) X E)
    (I : Inv X pins σ H s) (r : Vals vs vals) (h : sp vs H Q E) : wpAny (model X.prog X.w) X.A (call (.ref f) us kw) (EP X pins σ Q) X.xe s := by
  refine wpAny_call (codeAny_mono (F.go X.A X.stack s H ⟨us, kw⟩ vals vs Q E hr I.env0 hb r h) fun r s' hq => ?_)
  have z := after_call I hx hq
  rcases r with e | fl
  · exact z
  · cases fl <;> exact z
end
/-- an own def, as a thing to call -/
structure FnD (P : Program) (w : World) (K : PySem.W.Frag) (mg : Str → Option Value) (base : Heap) (T : List (Addr × Str)) (x : Str) (k : Nat) (ps : List Str) (wp : SpD) : Prop where
  ex : ∃ (f : Addr) (fd : FuncData), mg x = some (.ref f) ∧ PySem.W.keepIn K (.ref f) = true ∧ (∀ (s : Shared) (us : List Value), us.length = ps.length → BindsTo s fd ⟨us, []⟩ (ps.zip us)) ∧ FnG P w K mg base k f fd ps (liftSp K T ps.length wp)
def dCall (wp : SpD) (m : Nat) (t : TDA) : TDX := fun rx δ P => t rx δ fun ds δ1 => ds.length = m ∧ wp ds (fun d => P d δ1) rx
variable {k : Nat} {ps : List Str} {wp : SpD} {x : Str} {p pos : Pos} {e : Expr} {es : List Expr} {t : TDA}
theorem lift_call {rx : D → Prop} {m : Nat} {σ : L2.St} {H : Hp} {Q : VK} (h : liftE K B n (dCall wp m t rx) σ H Q) : liftA K B n (t rx) σ H (fun vs H1 => vs.length = m ∧ liftSp K B.T m wp vs H1 Q (liftX K B rx)) := by
  obtain ⟨g, δ, P, S, q, k⟩ := h
  refine ⟨g, δ, _, S, q, fun ds δ1 g1 H1 vs h1 st1 S1 D1 => ?_⟩
  obtain ⟨hl, h1⟩ := h1
  subst hl
  exact ⟨D1.length, sp_of (n := n) S1 D1 h1 fun d g' H' v hp st S' Dn => k d δ1 g' H' v hp (st1.trans st) S' Dn⟩
theorem de_call (G : FnD X.prog X.w X.K X.mg X.base B.T x k ps wp) (hr : Rm k X.A) (hg : Gl X x) (ha : DA X B (e :: es) t) (hdb : (x == ("__debug__" : Str)) = false := by decide)
    (he : starEach (e :: es) X.env = (false, eval e X.env) :: starEach es X.env := by rfl) (hpl : (backTo pos (starEach es X.env)).any (·.1) = false := by rfl) : DE X B (.Call (.Name x p) (e :: es) [] pos) (dCall wp ps.length t) := by
  obtain ⟨f, fd, hm, hk, hb, F⟩ := G.ex
  refine ⟨fun rx tk => ⟨fun pins s σ H Q I h => ?_⟩⟩
  have h2 := lift_call h
  refine wpAny_Call_Name_kw (ld_glob I hg hm ?_ hdb)
  refine PySem.W.callWith_K (h₀ := X.base) I.ok.mod.kin hk (thn ((ha.run rx tk).run pos pins s σ H _ I h2) fun us s1 ⟨vs, H1, I1, r, q1, q2⟩ => ⟨I1.kIn, ?_⟩) he hpl
  exact run_g F hr (hb s1 us (by rw [← r.length, q1])) (passes_lift tk) I1 r q2
theorem de_call0 (G : FnD X.prog X.w X.K X.mg X.base B.T x k ps wp) (hr : Rm k X.A) (hg : Gl X x) (hdb : (x == ("__debug__" : Str)) = false := by decide) : DE X B (.Call (.Name x p) [] [] pos) (dCall wp ps.length dNil) := by
  obtain ⟨f, fd, hm, hk, hb, F⟩ := G.ex
  refine ⟨fun rx tk => ⟨fun pins s σ H Q I ⟨g, δ, P, S, ⟨hl, q⟩, k⟩ => ?_⟩⟩
  refine wpAny_Call_Name_kw (ld_glob I hg hm ?_ hdb)
  refine PySem.W.callWith_K0 I.kIn hk (run_g (vals := []) (vs := []) F hr (hb s [] hl) (passes_lift tk) I .nil ?_)
  rw [← hl]
  exact sp_of (n := X.N.length) S .nil q fun d g' H' v hp st S' Dn => k d δ g' H' v hp st S' Dn
end
end DL

namespace DL
open PySem PySem.Spec L2
open PyProof.Rows hiding St
/-! ### statements -/
section
variable {K : PySem.W.Frag} {B : Base} {n : Nat} {X : Cx} {st : Stmt} {rest : List Stmt} {t u : TDS} {e : Expr} {te : TDX} {pos : Pos}
def dNext : TDS := fun _ DE δ => DE.nx δ
def dSeq (t u : TDS) : TDS := fun rx DE δ => t rx { DE with nx := fun δ' => u rx DE δ' } δ
theorem lift_next {rx : D → Prop} {DD : Ends} {σ : L2.St} {H : Hp} (h : liftS K B n (dNext rx) DD σ H) : tNext DD σ H := by
  obtain ⟨g, δ, DE, S, q, k1, k2, k3, k4⟩ := h
  exact k1 _ _ g H q (Step.refl _ _ _) S
theorem dss_nil : DSs X B [] dNext := ⟨fun rx _ => PSs.imp pss_nil fun _ _ _ _ h => lift_next h⟩
theorem lift_seq {rx : D → Prop} {DD : Ends} {σ : L2.St} {H : Hp} (h : liftS K B n (dSeq t u rx) DD σ H) : tSeq (liftS K B n (t rx)) (liftS K B n (u rx)) DD σ H := by
  obtain ⟨g, δ, DE, S, q, k1, k2, k3, k4⟩ := h
  exact ⟨g, δ, _, S, q, fun σ' δ' g' H' hn st S' => ⟨g', δ', DE, S', hn, fun σ2 δ2 g2 H2 a b c => k1 σ2 δ2 g2 H2 a (st.trans b) c, k2, fun σ2 δ2 g2 H2 a b c => k3 σ2 δ2 g2 H2 a (st.trans b) c, fun σ2 δ2 g2 H2 a b c => k4 σ2 δ2 g2 H2 a (st.trans b) c⟩, k2, k3, k4⟩
theorem dss_cons (h1 : DS X B st t) (h2 : DSs X B rest u) : DSs X B (st :: rest) (dSeq t u) :=
  ⟨fun rx tk => PSs.imp (pss_cons (h1.run rx tk) (h2.run rx tk)) fun _ _ _ _ h => lift_seq h⟩
theorem dss_one (h1 : DS X B st t) : DSs X B [st] t := ⟨fun rx tk => pss_one (h1.run rx tk)⟩
def dBreak : TDS := fun _ DE δ => DE.bk δ
def dCont : TDS := fun _ DE δ => DE.ct δ
theorem ds_pass : DS X B (.Pass pos) dNext := ⟨fun rx _ => PS.imp ps_pass fun _ _ _ _ h => lift_next h⟩
theorem ds_doc {x j pos'} : DS X B (.Expr (.Constant (.str x) j pos) pos') dNext := ⟨fun rx _ => PS.imp ps_doc fun _ _ _ _ h => lift_next h⟩
theorem ds_break : DS X B (.Break pos) dBreak := ⟨fun rx _ => PS.imp ps_break fun _ _ _ _ ⟨g, δ, DE, S, q, k1, k2, k3, k4⟩ => k3 _ _ g _ q (Step.refl _ _ _) S⟩
theorem ds_continue : DS X B (.Continue pos) dCont := ⟨fun rx _ => PS.imp ps_continue fun _ _ _ _ ⟨g, δ, DE, S, q, k1, k2, k3, k4⟩ => k4 _ _ g _ q (Step.refl _ _ _) S⟩
def dExpr (te : TDX) : TDS := fun rx DE δ => te rx δ fun _ δ' => DE.nx δ'
theorem ds_expr (he : DE X B e te) (hs : swapsWith e none pos.line X.env = pure false := by rfl) : DS X B (.Expr e pos) (dExpr te) :=
  ⟨fun rx tk => PS.imp (ps_expr (he.run rx tk) hs) fun DD σ H _ ⟨g, δ, DE, S, q, k1, k2, k3, k4⟩ => ⟨g, δ, _, S, q, fun d δ1 g1 H1 v h1 st1 S1 D1 => k1 _ _ g1 H1 h1 st1 S1⟩⟩
def dRet (te : TDX) : TDS := fun rx DE δ => te rx δ fun d _ => DE.rt d
theorem ds_ret (he : DE X B e te) : DS X B (.Return (some e) pos) (dRet te) :=
  ⟨fun rx tk => PS.imp (ps_ret (he.run rx tk)) fun DD σ H _ ⟨g, δ, DE, S, q, k1, k2, k3, k4⟩ => ⟨g, δ, _, S, q, fun d δ1 g1 H1 v h1 st1 S1 D1 => k2 d v _ _ H1 h1 S1.ret D1⟩⟩
def dRetN : TDS := fun rx DE δ => DE.rt .non
theorem ds_retN : DS X B (.Return none pos) dRetN :=
  ⟨fun rx tk => PS.imp ps_retN fun DD σ H _ ⟨g, δ, DE, S, q, k1, k2, k3, k4⟩ => k2 _ _ _ _ H q S.ret .non⟩
def dIfS (c : TDB) (t u : TDS) : TDS := fun rx DE δ => c rx δ fun b δ1 => if b = true then t rx DE δ1 else u rx DE δ1
theorem ds_if {c : Expr} {a b : List Stmt} {tc : TDB} (hc : DT X B c tc) (ha : DSs X B a t) (hb : DSs X B b u) : DS X B (.If c a b pos) (dIfS tc t u) :=
  ⟨fun rx tk => PS.imp (ps_if (hc.run rx tk) (ha.run rx tk) (hb.run rx tk)) fun DD σ H _ ⟨g, δ, DE, S, q, k1, k2, k3, k4⟩ => ⟨g, δ, _, S, q, fun c δ1 g1 H1 h1 st S1 => by
    cases c with
    | true => exact ⟨g1, δ1, DE, S1, h1, fun σ2 δ2 g2 H2 a b c => k1 σ2 δ2 g2 H2 a (st.trans b) c, k2, fun σ2 δ2 g2 H2 a b c => k3 σ2 δ2 g2 H2 a (st.trans b) c, fun σ2 δ2 g2 H2 a b c => k4 σ2 δ2 g2 H2 a (st.trans b) c⟩
    | false => exact ⟨g1, δ1, DE, S1, h1, fun σ2 δ2 g2 H2 a b c => k1 σ2 δ2 g2 H2 a (st.trans b) c, k2, fun σ2 δ2 g2 H2 a b c => k3 σ2 δ2 g2 H2 a (st.trans b) c, fun σ2 δ2 g2 H2 a b c => k4 σ2 δ2 g2 H2 a (st.trans b) c⟩⟩⟩
/-- name = value -/
def dSet (i : Nat) (te : TDX) : TDS := fun rx DE δ => te rx δ fun d δ' => DE.nx (δ'.set i (some (.sh d)))
theorem ds_set {i : Nat} {x : Str} {pos' : Pos} (hN : X.N.Nodup) (hi : X.N[i]? = some x) (hx : Loc X.env.scope x) (he : DE X B e te) (hs : swapsWith e (some (.Name x pos')) pos.line X.env = pure false := by rfl) (hf : X.fn x = true ∨ X.env.scope.names.lookup x = some .local := by first | exact .inl rfl | exact .inr rfl | assumption) :
    DS X B (.Assign [.Name x pos'] e pos) (dSet i te) :=
  ⟨fun rx tk => PS.imp (ps_set hN hi hx (he.run rx tk) hs hf) fun DD σ H _ ⟨g, δ, DE, S, q, k1, k2, k3, k4⟩ => ⟨g, δ, _, S, q, fun d δ1 g1 H1 v h1 st1 S1 D1 => by
    obtain ⟨g2, S2, st2⟩ := S1.put D1 (List.getElem?_eq_some_iff.mp hi).1
    exact k1 _ _ g2 H1 h1 (st1.trans st2) S2⟩⟩
/-! ### targets -/
abbrev TDG := D → Env → (Env → Prop) → Prop
abbrev TDGs := List D → Env → (Env → Prop) → Prop
/-- the slots but those in vs are as they were -/
def SameOut (vs : List Nat) (σ σ' : L2.St) : Prop := σ'.length = σ.length ∧ ∀ j, j ∉ vs → σ'[j]? = σ[j]?
theorem SameOut.refl (vs : List Nat) (σ : L2.St) : SameOut vs σ σ := ⟨rfl, fun _ _ => rfl⟩
theorem SameOut.mono {vs ws : List Nat} {σ σ' : L2.St} (h : SameOut vs σ σ') (s : ∀ j ∈ vs, j ∈ ws) : SameOut ws σ σ' := ⟨h.1, fun j hj => h.2 j fun z => hj (s j z)⟩
theorem SameOut.trans {vs : List Nat} {a b c : L2.St} (h : SameOut vs a b) (h2 : SameOut vs b c) : SameOut vs a c := ⟨h2.1.trans h.1, fun j hj => (h2.2 j hj).trans (h.2 j hj)⟩
theorem SameOut.set {i : Nat} {σ : L2.St} {x : Option V} : SameOut [i] σ (σ.set i x) := ⟨by simp, fun j hj => by
  rw [List.getElem?_set_ne (by intro e; exact hj (by simp [e]))]⟩
def liftG (K : PySem.W.Frag) (B : Base) (n : Nat) (vs : List Nat) (t : TDG) : TG := fun v σ H Q => ∃ g δ d P, Stt K B g H σ δ ∧ Den K g.W g.F v d ∧ t d δ P ∧ ∀ σ' δ' g' H', P δ' → Step n g H g' H' → Stt K B g' H' σ' δ' → SameOut vs σ σ' → Q σ' H'
def liftGs (K : PySem.W.Frag) (B : Base) (n : Nat) (ws : List Nat) (t : TDGs) : TGs := fun vs σ H Q => ∃ g δ ds P, Stt K B g H σ δ ∧ Dens K g.W g.F vs ds ∧ t ds δ P ∧ ∀ σ' δ' g' H', P δ' → Step n g H g' H' → Stt K B g' H' σ' δ' → SameOut ws σ σ' → Q σ' H'
theorem PG.imp {tg : Expr} {t t' : TG} (h : PG X tg t) (i : ∀ v σ H Q, σ.length = X.N.length → t' v σ H Q → t v σ H Q) : PG X tg t' := ⟨fun pins s σ H v u Q I r q => h.run pins s σ H v u Q I r (i v σ H Q I.len q)⟩
theorem PGs.imp {tg : List Expr} {t t' : TGs} (h : PGs X tg t) (i : ∀ v σ H Q, σ.length = X.N.length → t' v σ H Q → t v σ H Q) : PGs X tg t' := ⟨fun pins s σ H v u Q I r q => h.run pins s σ H v u Q I r (i v σ H Q I.len q)⟩
structure DG (X : Cx) (B : Base) (tg : Expr) (vs : List Nat) (t : TDG) : Prop where
  run : PG X tg (liftG X.K B X.N.length vs t)
structure DGs (X : Cx) (B : Base) (tgs : List Expr) (vs : List Nat) (t : TDGs) : Prop where
  run : PGs X tgs (liftGs X.K B X.N.length vs t)
def gN (i : Nat) : TDG := fun d δ P => P (δ.set i (some (.sh d)))
theorem dg_name {i : Nat} {x : Str} (hN : X.N.Nodup) (hi : X.N[i]? = some x) (hx : Loc X.env.scope x) (hf : X.fn x = true ∨ X.env.scope.names.lookup x = some .local := by first | exact .inl rfl | exact .inr rfl | assumption) : DG X B (.Name x pos) [i] (gN i) :=
  ⟨PG.imp (pg_name hN hi hx hf) fun v σ H Q _ ⟨g, δ, d, P, S, r, q, k⟩ => by
    obtain ⟨g2, S2, st2⟩ := S.put r (List.getElem?_eq_some_iff.mp hi).1
    exact k _ _ g2 H q st2 S2 SameOut.set⟩
def gsNil : TDGs := fun ds δ P => match ds with
  | [] => P δ
  | _ => False
def gsCons (t : TDG) (u : TDGs) : TDGs := fun ds δ P => match ds with
  | d :: r => t d δ fun δ' => u r δ' P
  | [] => False
theorem dgs_nil : DGs X B [] [] gsNil := ⟨PGs.imp pgs_nil fun vs σ H Q _ ⟨g, δ, ds, P, S, r, q, k⟩ => by
  cases r with
  | nil => exact ⟨rfl, k _ _ g H q (Step.refl _ _ _) S (SameOut.refl _ _)⟩
  | cons _ _ => exact q.elim⟩
theorem dgs_cons {es : List Expr} {tg : TDG} {tgs : TDGs} {v1 v2 : List Nat} (h1 : DG X B e v1 tg) (h2 : DGs X B es v2 tgs) (hs : (assignEach (e :: es) X.env).map (·.2) = assign e X.env :: (assignEach es X.env).map (·.2) := by rfl) : DGs X B (e :: es) (v1 ++ v2) (gsCons tg tgs) :=
  ⟨PGs.imp (pgs_cons h1.run h2.run hs) fun vs σ H Q _ ⟨g, δ, ds, P, S, r, q, k⟩ => by
    cases r with
    | nil => exact q.elim
    | @cons v vr d dr r1 r2 => exact ⟨v, vr, rfl, g, δ, d, _, S, r1, q, fun σ' δ' g' H' hp st S' so => ⟨g', δ', dr, P, S', r2.step st, hp, fun σ2 δ2 g2 H2 a b c so2 => k σ2 δ2 g2 H2 a (st.trans b) c ((so.mono (by simp +contextual)).trans (so2.mono (by simp +contextual)))⟩⟩⟩
def gT (m : Nat) (t : TDGs) : TDG := fun d δ P => match d with
  | .tup ds => ds.length = m ∧ t ds δ P
  | _ => False
theorem dg_tup {es : List Expr} {k : Nat} {tgs : TDGs} {m : Nat} {vs : List Nat} (hc : X.calm = true) (h : DGs X B es vs tgs) (hn : (assignEach es X.env).length = m := by rfl) (hst : (assignEach es X.env).findIdx? (·.1) = none := by rfl) : DG X B (.Tuple es k pos) vs (gT m tgs) :=
  ⟨PG.imp (pg_tup hc h.run hn hst) fun v σ H Q _ ⟨g, δ, d, P, S, r, q, k⟩ => by
    cases r with
    | @tup a xs ds hs rs => exact ⟨a, xs, rfl, SqT.up S.ret.sub hs, rs.length.trans q.1, g, δ, ds, P, S, rs, q.2, k⟩
    | _ => exact q.elim⟩
/-- target = value -/
def dAsg (te : TDX) (tg : TDG) : TDS := fun rx DE δ => te rx δ fun d δ' => tg d δ' DE.nx
theorem ds_asg {tg : Expr} {g : TDG} {vs : List Nat} (he : DE X B e te) (hg : DG X B tg vs g) (hs : swapsWithSole [tg] e pos.line X.env = pure false := by rfl) (hw : swappedStores [tg] e X.env = pure none := by rfl)
    (h1 : (assignEach [tg] X.env).map (·.2) = [assign tg X.env] := by rfl) : DS X B (.Assign [tg] e pos) (dAsg te g) :=
  ⟨fun rx tk => PS.imp (ps_asg (he.run rx tk) hg.run hs hw h1) fun DD σ H _ ⟨g, δ, DE, S, q, k1, k2, k3, k4⟩ => ⟨g, δ, _, S, q, fun d δ1 g1 H1 v h1 st1 S1 D1 => ⟨g1, δ1, d, _, S1, D1, h1, fun σ2 δ2 g2 H2 a b c _ => k1 σ2 δ2 g2 H2 a (st1.trans b) c⟩⟩⟩
/-! ### what is walked -/
/-- the iterator J walks the items ds -/
def IterD (K : PySem.W.Frag) (B : Base) (n : Nat) (J : It) (ds : List D) (g1 : Gs) (H1 : Hp) : Prop := ∀ (i : Nat) (g : Gs) (H : Hp) (σ : L2.St) (δ : Env), Step n g1 H1 g H → Stt K B g H σ δ →
  (∀ d, ds[i]? = some d → J.go i H ∧ ∀ x H', J.yld i H x H' → ∃ g', Step n g H g' H' ∧ Stt K B g' H' σ δ ∧ Den K g'.W g'.F x d) ∧ (ds.length ≤ i → J.stop i H)
abbrev TDI := (D → Prop) → Env → (List D → Env → Prop) → Prop
def liftI (K : PySem.W.Frag) (B : Base) (n : Nat) (t : Env → (List D → Env → Prop) → Prop) : TI := fun σ H R => ∃ g δ P, Stt K B g H σ δ ∧ t δ P ∧
  ∀ ds δ' g' H' J, P ds δ' → Step n g H g' H' → Stt K B g' H' σ δ' → IterD K B n J ds g' H' → R J H'
structure DI (X : Cx) (B : Base) (tg it : Expr) (t : TDI) : Prop where
  run : ∀ rx, Takes X (XW (liftX X.K B rx)) → PI X tg it (liftI X.K B X.N.length (t rx))
theorem PI.imp {tg it : Expr} {t t' : TI} (h : PI X tg it t) (i : ∀ σ H R, σ.length = X.N.length → t' σ H R → t σ H R) : PI X tg it t' := ⟨fun pins s σ H R I q => h.run pins s σ H R I (i σ H R I.len q)⟩
theorem iter_lst {a : Addr} {xs : List V} {ds : List D} {g1 : Gs} {H1 : Hp} (h : SqL K g1.F a xs) (r : Dens K g1.W g1.F xs ds) : IterD K B n (Itl K a) ds g1 H1 := fun i g H σ δ st S =>
  ⟨fun d e => by
    obtain ⟨v, e1, r1⟩ := r.get e
    have q : SqL K H a xs := SqL.up S.ret.sub (SqL.up st.up h)
    exact ⟨⟨xs, v, q, e1⟩, fun x H' ⟨e2, e3⟩ => by
      subst e2
      have e4 : x = v := Option.some.inj ((e3 xs q).symm.trans e1)
      subst e4
      exact ⟨g, Step.refl _ _ _, S, r1.step st⟩⟩, fun hl => ⟨xs, SqL.up S.ret.sub (SqL.up st.up h), by rw [r.length]; exact hl⟩⟩
theorem iter_tup {a : Addr} {xs : List V} {ds : List D} {g1 : Gs} {H1 : Hp} (h : SqT K g1.F a xs) (r : Dens K g1.W g1.F xs ds) : IterD K B n (Itt K a) ds g1 H1 := fun i g H σ δ st S =>
  ⟨fun d e => by
    obtain ⟨v, e1, r1⟩ := r.get e
    have q : SqT K H a xs := SqT.up S.ret.sub (SqT.up st.up h)
    exact ⟨⟨xs, v, q, e1⟩, fun x H' ⟨e2, e3⟩ => by
      subst e2
      have e4 : x = v := Option.some.inj ((e3 xs q).symm.trans e1)
      subst e4
      exact ⟨g, Step.refl _ _ _, S, r1.step st⟩⟩, fun hl => ⟨xs, SqT.up S.ret.sub (SqT.up st.up h), by rw [r.length]; exact hl⟩⟩
/-- a list or a tuple, whichever comes -/
def iSeq (K : PySem.W.Frag) (tl : TE) : TI := fun σ H R => tl σ H fun x H1 => ∃ a, x = .ref a ∧ (((∃ xs, SqL K H1 a xs) ∧ R (Itl K a) H1) ∨ ((∃ xs, SqT K H1 a xs) ∧ R (Itt K a) H1))
theorem pi_seq {tg l : Expr} {tl : TE} (hl : PE X l tl) : PI X tg l (iSeq X.K tl) := by
  refine ⟨fun pins s σ H R I h => ?_⟩
  refine thn (hl.run pins s σ H _ I h) fun v s1 ⟨x, H1, I1, r1, q1⟩ => ?_
  obtain ⟨a, e, q⟩ := q1
  subst e
  cases r1
  have fin : ∀ (o : Obj) (tn : Nat → Heap → Prop) (J : It), Turn X.prog X.w X.K tg J [s1.heap.objs.size] s1.heap.objs.size tn → tn 0 (s1.heap.push o) → R J H1 → PIE X pins σ tg R (.ref s1.heap.objs.size) { s1 with heap := s1.heap.push o } := fun o tn J T t0 q => by
    refine ⟨s1.heap.objs.size, [s1.heap.objs.size], tn, J, H1, rfl, I1.kept (t' := s1.toks) fun b o e => Heap.get?_push_of_some _ e, T, t0, fun b hb => ?_, q⟩
    have e : b = s1.heap.objs.size := by simpa using hb
    subst e
    exact I1.fpOk (Nat.le_refl _) (I1.hok.fresh (Nat.le_refl _))
  rcases q with ⟨⟨xs, hq⟩, q⟩ | ⟨⟨xs, hq⟩, q⟩
  · obtain ⟨its, rv, p, hz⟩ := I1.list hq
    exact wpAny_pyIter_list p.isList (fin _ _ _ (turn_list a _) ⟨_, Heap.get?_push_size _ rfl, rfl, rfl⟩ q)
  · obtain ⟨its, rv, p, hz⟩ := I1.tuple hq
    exact wpAny_pyIter_tuple (show s1.heap.IsTuple a its.toArray from p) (fin _ _ _ (turn_tuple a _) ⟨_, Heap.get?_push_size _ rfl, rfl, rfl⟩ q)
def seqOf : D → Option (List D)
  | .lst ds => some ds
  | .kls ds => some ds
  | .tup ds => some ds
  | _ => none
def dSeqI (te : TDX) : TDI := fun rx δ P => te rx δ fun d δ1 => match seqOf d with
  | some ds => P ds δ1
  | none => False
theorem seq_of {g1 : Gs} {H1 : Hp} {v : V} {d : D} {ds : List D} {R : It → Hp → Prop} {σ : L2.St} {δ1 : Env} (S : Stt K B g1 H1 σ δ1) (r : Den K g1.W g1.F v d) (e : seqOf d = some ds) (k : ∀ J, IterD K B n J ds g1 H1 → R J H1) :
    ∃ a, v = .ref a ∧ (((∃ xs, SqL K H1 a xs) ∧ R (Itl K a) H1) ∨ ((∃ xs, SqT K H1 a xs) ∧ R (Itt K a) H1)) := by
  cases r with
  | @lst a xs es h r => cases e; exact ⟨a, rfl, .inl ⟨⟨xs, SqL.of (S.ret.sub _ _ h)⟩, k _ (iter_lst (.inl (.inl h)) r)⟩⟩
  | @kls a xs es h r => cases e; exact ⟨a, rfl, .inl ⟨⟨xs, SqL.up S.ret.sub h⟩, k _ (iter_lst h r)⟩⟩
  | @tup a xs es h r => cases e; exact ⟨a, rfl, .inr ⟨⟨xs, SqT.up S.ret.sub h⟩, k _ (iter_tup h r)⟩⟩
  | _ => cases e
theorem di_seq {tg : Expr} (he : DE X B e te) : DI X B tg e (dSeqI te) :=
  ⟨fun rx tk => PI.imp (pi_seq (he.run rx tk)) fun σ H R _ ⟨g, δ, P, S, q, k⟩ => ⟨g, δ, _, S, q, fun d δ1 g1 H1 v h1 st1 S1 D1 => by
    cases z : seqOf d with
    | none => simp only [z] at h1
    | some ds =>
      simp only [z] at h1
      exact seq_of (n := X.N.length) S1 D1 z fun J hJ => k ds δ1 g1 H1 J h1 st1 S1 hJ⟩⟩
theorem iter_range {lo : Int} {m : Nat} {g1 : Gs} {H1 : Hp} : IterD K B n (Itr lo m) ((List.range m).map fun (i : Nat) => D.int (lo + i)) g1 H1 := fun i g H σ δ st S =>
by
  refine ⟨fun d e => ?_, fun hl => ?_⟩
  · rw [List.getElem?_map] at e
    by_cases h : i < m
    · rw [List.getElem?_range h] at e
      cases e
      exact ⟨h, fun x H' ⟨e2, e3⟩ => by
        subst e2 e3
        exact ⟨g, Step.refl _ _ _, S, .int _⟩⟩
    · rw [List.getElem?_eq_none (by simpa using h)] at e; cases e
  · have : m ≤ i := by simpa using hl
    exact this
def rangeD (lo hi : Int) : List D := (List.range (hi - lo).toNat).map fun (i : Nat) => D.int (lo + i)
def bnd (i : Int) : Prop := -(2 ^ 62) ≤ i ∧ i < 2 ^ 62
def dRange1 (t : TDA) : TDI := fun rx δ P => t rx δ fun ds δ1 => match ds with
  | [.int j] => bnd j ∧ P (rangeD 0 j) δ1
  | _ => False
def dRange2 (t : TDA) : TDI := fun rx δ P => t rx δ fun ds δ1 => match ds with
  | [.int i, .int j] => (bnd i ∧ bnd j) ∧ P (rangeD i j) δ1
  | _ => False
theorem di_range1 {tg a : Expr} {ta : TDA} {p : Pos} (hg : Gl X "range") (hm : X.mg "range" = none) (ha : DA X B [a] ta) (hs : starEach [a] X.env = [(false, eval a X.env)] := by rfl) : DI X B tg (.Call (.Name "range" p) [a] [] pos) (dRange1 ta) :=
  ⟨fun rx tk => PI.imp (pi_range1 hg hm (ha.run rx tk) hs) fun σ H R _ ⟨g, δ, P, S, q, k⟩ => ⟨g, δ, _, S, q, fun ds δ1 g1 H1 vs h1 st1 S1 D1 => by
    cases D1 with
    | nil => exact h1.elim
    | cons r1 r2 =>
      cases r1 with
      | int j =>
        cases r2 with
        | nil =>
          obtain ⟨⟨b1, b2⟩, h1⟩ := h1
          refine ⟨j, rfl, b1, b2, ?_⟩
          have z := iter_range (K := X.K) (B := B) (n := X.N.length) (lo := 0) (m := j.toNat) (g1 := g1) (H1 := H1)
          refine k _ δ1 g1 H1 _ h1 st1 S1 ?_
          unfold rangeD
          rw [Int.sub_zero]
          exact z
        | cons _ _ => exact h1.elim
      | _ => cases r2 <;> exact h1.elim⟩⟩
theorem di_range2 {tg a b : Expr} {ta : TDA} {p : Pos} (hg : Gl X "range") (hm : X.mg "range" = none) (ha : DA X B [a, b] ta) (hs : starEach [a, b] X.env = [(false, eval a X.env), (false, eval b X.env)] := by rfl) (hs2 : starEach [b] X.env = [(false, eval b X.env)] := by rfl) : DI X B tg (.Call (.Name "range" p) [a, b] [] pos) (dRange2 ta) :=
  ⟨fun rx tk => PI.imp (pi_range2 hg hm (ha.run rx tk) hs hs2) fun σ H R _ ⟨g, δ, P, S, q, k⟩ => ⟨g, δ, _, S, q, fun ds δ1 g1 H1 vs h1 st1 S1 D1 => by
    cases D1 with
    | nil => exact h1.elim
    | cons r1 r2 =>
      cases r1 with
      | int i =>
        cases r2 with
        | nil => exact h1.elim
        | cons r2 r3 =>
          cases r2 with
          | int j =>
            cases r3 with
            | nil =>
              obtain ⟨⟨⟨b1, b2⟩, b3, b4⟩, h1⟩ := h1
              exact ⟨i, j, rfl, ⟨b1, b2, b3, b4⟩, k _ δ1 g1 H1 _ h1 st1 S1 iter_range⟩
            | cons _ _ => exact h1.elim
          | _ => cases r3 <;> exact h1.elim
      | _ =>
        cases r2 with
        | nil => exact h1.elim
        | cons r2 r3 => cases r3 <;> exact h1.elim⟩⟩
/-! ### for -/
def dForL (tg : TDG) (tb : TDS) (rx : D → Prop) (DE : DEnds) : List D → Env → Prop
  | [], δ => DE.nx δ
  | d :: ds, δ => tg d δ fun δ1 => tb rx { nx := dForL tg tb rx DE ds, ct := dForL tg tb rx DE ds, bk := DE.nx, rt := DE.rt } δ1
def dFor (ti : TDI) (tg : TDG) (tb : TDS) : TDS := fun rx DE δ => ti rx δ fun ds δ1 => dForL tg tb rx DE ds δ1
theorem ds_for {tg it : Expr} {body : List Stmt} {ti : TDI} {g : TDG} {vs : List Nat} {tb : TDS} (hp : PassesOwn (model X.prog X.w) X.A X.env X.xe) (hc : X.calm = true) (hi : DI X B tg it ti) (hg : DG X B tg vs g) (hb : DSs X B body tb)
    (hs : ∀ x, foldedSetIterable it X.env x = pure x := by intro _; rfl) : DS X B (.For tg it body [] pos) (dFor ti g tb) :=
  ⟨fun rx tk => PS.imp (ps_for hp hc (hi.run rx tk) hg.run (hb.run rx tk) hs) fun DD σ H _ ⟨g0, δ, DE, S, q, k1, k2, k3, k4⟩ => ⟨g0, δ, _, S, q, fun ds δ1 g1 H1 J h1 st1 S1 hJ => by
    refine ⟨fun i m σ H => m = ds.length - i ∧ i ≤ ds.length ∧ ∃ g' δ', Step X.N.length g1 H1 g' H ∧ Stt X.K B g' H σ δ' ∧ dForL g tb rx DE (ds.drop i) δ', ⟨_, rfl, Nat.zero_le _, g1, δ1, Step.refl _ _ _, S1, by simpa using h1⟩, ?_⟩
    rintro i m σ2 H2 ⟨rfl, hi, g2, δ2, st2, S2, q2⟩
    obtain ⟨ja, jb⟩ := hJ i g2 H2 σ2 δ2 st2 S2
    by_cases hlt : i < ds.length
    · have e : ds.drop i = ds[i] :: ds.drop (i + 1) := List.drop_eq_getElem_cons hlt
      rw [e] at q2
      obtain ⟨jgo, jy⟩ := ja ds[i] (List.getElem?_eq_getElem hlt)
      refine .inr ⟨jgo, fun σ' H' => ∃ g' δ', Step X.N.length g1 H1 g' H' ∧ Stt X.K B g' H' σ' δ' ∧ dForL g tb rx DE (ds.drop (i + 1)) δ', fun σ' H' ⟨g', δ', a, b, c⟩ => ⟨ds.length - (i + 1), by omega, rfl, hlt, g', δ', a, b, c⟩, fun x H' y => ?_⟩
      obtain ⟨g3, st3, S3, r3⟩ := jy x H' y
      refine ⟨g3, δ2, ds[i], _, S3, r3, q2, fun σ4 δ4 g4 H4 h4 st4 S4 _ => ?_⟩
      have s4 : Step X.N.length g1 H1 g4 H4 := (st2.trans st3).trans st4
      exact ⟨g4, δ4, _, S4, h4, fun σ5 δ5 g5 H5 a b c => ⟨g5, δ5, s4.trans b, c, a⟩, k2, fun σ5 δ5 g5 H5 a b c => k1 σ5 δ5 g5 H5 a (st1.trans (s4.trans b)) c, fun σ5 δ5 g5 H5 a b c => ⟨g5, δ5, s4.trans b, c, a⟩⟩
    · have e : i = ds.length := by omega
      subst e
      rw [List.drop_length] at q2
      exact .inl ⟨jb (Nat.le_refl _), k1 σ2 δ2 g2 H2 q2 (st1.trans st2) S2⟩⟩⟩
/-! ### while -/
def dWhileN (c : TDB) (tb : TDS) (rx : D → Prop) (DE : DEnds) : Nat → Env → Prop
  | 0, _ => False
  | m + 1, δ => c rx δ fun b δ1 => if b = true then tb rx { nx := dWhileN c tb rx DE m, ct := dWhileN c tb rx DE m, bk := DE.nx, rt := DE.rt } δ1 else DE.nx δ1
def dWhile (c : TDB) (tb : TDS) : TDS := fun rx DE δ => ∃ m, dWhileN c tb rx DE m δ
theorem ds_while {c : Expr} {body : List Stmt} {tc : TDB} {tb : TDS} (hp : PassesOwn (model X.prog X.w) X.A X.env X.xe) (hc : DT X B c tc) (hb : DSs X B body tb) : DS X B (.While c body [] pos) (dWhile tc tb) :=
  ⟨fun rx tk => PS.imp (ps_while hp (hc.run rx tk) (hb.run rx tk)) fun DD σ H0 _ ⟨g0, δ, DE, S, ⟨m0, q⟩, k1, k2, k3, k4⟩ => by
    refine ⟨fun m σ H => ∃ g' δ', Step X.N.length g0 H0 g' H ∧ Stt X.K B g' H σ δ' ∧ dWhileN tc tb rx DE m δ', ⟨m0, g0, δ, Step.refl _ _ _, S, q⟩, ?_⟩
    rintro m σ2 H2 ⟨g2, δ2, st2, S2, q2⟩
    cases m with
    | zero => exact q2.elim
    | succ m =>
      refine ⟨g2, δ2, _, S2, q2, fun b δ3 g3 H3 h3 st3 S3 => ?_⟩
      cases b with
      | false => exact k1 σ2 δ3 g3 H3 h3 (st2.trans st3) S3
      | true =>
        have s3 := st2.trans st3
        exact ⟨fun σ' H' => ∃ g' δ', Step X.N.length g0 H0 g' H' ∧ Stt X.K B g' H' σ' δ' ∧ dWhileN tc tb rx DE m δ', fun σ' H' h => ⟨m, Nat.lt_succ_self m, h⟩,
          g3, δ3, _, S3, h3, fun σ5 δ5 g5 H5 a b c => ⟨g5, δ5, s3.trans b, c, a⟩, k2, fun σ5 δ5 g5 H5 a b c => k1 σ5 δ5 g5 H5 a (s3.trans b) c, fun σ5 δ5 g5 H5 a b c => ⟨g5, δ5, s3.trans b, c, a⟩⟩⟩
end
/-! ### a def's body -/
def envOfArgs (m : Nat) (ds : List D) : Env := ds.map (fun d => some (.sh d)) ++ List.replicate (m - ds.length) none
def dBody (m : Nat) (t : TDS) : SpD := fun ds Q E => t E { nx := fun _ => Q .non, rt := Q } (envOfArgs m ds)
theorem stt_start {K : PySem.W.Frag} {F H : Hp} {W : DW} {T : List (Addr × Str)} {N : List Str} {vs : List V} {ds : List D} (q : Gd T F H W) (r : Dens K W F vs ds) :
    Stt K ⟨F, H, W, T⟩ ⟨F, fun _ => none, W⟩ H (start N vs) (envOfArgs N.length ds) := by
  refine ⟨Ret.refl q, fun a k e => (nomatch e), ?_, fun i s e => ?_⟩
  · unfold envOfArgs L2.start
    simp [r.length]
  · unfold envOfArgs at e
    by_cases hi : i < ds.length
    · rw [List.getElem?_append_left (by simpa using hi), List.getElem?_map] at e
      cases q : ds[i]? with
      | none => rw [q] at e; cases e
      | some d =>
        rw [q] at e
        cases e
        obtain ⟨v, e1, r1⟩ := r.get q
        refine ⟨v, ?_, r1⟩
        unfold L2.start
        rw [List.getElem?_append_left (by simpa [r.length] using hi), List.getElem?_map, e1]
        rfl
    · rw [List.getElem?_append_right (by simpa using hi)] at e
      have := List.getElem?_eq_some_iff.mp e
      obtain ⟨h1, h2⟩ := this
      simp at h2
section
variable {P : Program} {w : World} {K : PySem.W.Frag} {mg : Str → Option Value} {base : Heap} {T : List (Addr × Str)}
/-- the code object of a def -/
def codeAt (K : PySem.W.Frag) (a : Addr) : Addr := match K.lookup a with
  | some ⟨_, _, .func fd, _⟩ => (match fd.code with
    | .ref c => c
    | _ => 0)
  | _ => 0
theorem codeAt_of {oc : Value} {od : Option Addr} {fd : FuncData} {osl : Array (Option Value)} {f : Addr} {q : Str} (lk : K.lookup f = some ⟨oc, od, .func fd, osl⟩) (h : PySem.W.codeIn K fd.code q = true) : fd.code = .ref (codeAt K f) := by
  unfold codeAt
  rw [lk]
  cases e : fd.code with
  | ref c => simp only [e]
  | _ => rw [e] at h; simp [PySem.W.codeIn] at h
/-- THE RULE for a def: its body is walked once, over data -/
theorem fn_ok {x qual : Str} {params : Arguments} {body : List Stmt} {scope : Scope} {f : Addr} {fd : FuncData} {N ps : List Str} {k : Nat} {t : TDS} (F : FunD K x qual params body scope [] [] f fd) (S : FnScope N ps scope)
    (hbody : ∀ (cdv : Value) (A : Around) (outer : List PySem.Env) (s : Shared) (H : Hp) (E : XK) (B : Base), cdv = .ref (codeAt K f) → B.T = T → Rm k (A.deeper (envOfC qual scope s.heap.objs.size f cdv)) →
      DSs (cxOf (L2.CX P w) P w K mg base N qual scope f cdv A outer s H E) B body t) : FnG P w K mg base (k + 1) f fd ps (liftSp K T ps.length (dBody N.length t)) := by
  obtain ⟨oc, od, dV, kV, doc, pm, an, cdv, ct, osl, rfl, lk, hcd, _, _⟩ := F.ex
  refine ⟨fun vs H Q E ⟨F, W, ds, P, RX, _, r, hl, _⟩ => r.length.trans hl, fun A outer s H args us vs Q E hr e0 hb r h => ?_⟩
  obtain ⟨F, W, ds, P', RX, h1, rd, hl, hw, k1, k2⟩ := h
  have atBase : ∀ b o, base.get? b = some o → s.heap.get? b = some o := fun b o e => (e0.bs b o e).1
  have inK : K.In s.heap := e0.mod.kin.keeps atBase
  refine codeAny_call_function hr.room.depth (inK _ _ lk) rfl S.co S.gen rfl (PySem.W.codeRec_of inK hcd) (hb _ _ _ _ (wpAny_newFunctionEnv_cells S.kind (fun y hy => ?_) fun env he s1 x => ?_))
  · rcases S.par y.1 (List.of_mem_zip (show (y.1, y.2) ∈ ps.zip us from hy)).1 with q | q
    · exact .inl q
    · exact .inr ⟨q, PySem.W.cellsFrom_some _ _ _ (.inl q)⟩
  · subst he
    refine ⟨(e0.mod.nolimit.keeps atBase).keeps x.toInCall.keep, codeAny_func ?_⟩
    have I := inv_start (CX := L2.CX P w) (E := E) (N := N) S hr.room.hd e0 (rd.length.trans hl) r x
    have tk := takes_of (X := cxOf (L2.CX P w) P w K mg base N qual scope f cdv A outer s H E) (E := E) rfl rfl rfl rfl
    have body := (hbody cdv A outer s H E ⟨F, H, W, T⟩ (codeAt_of lk hcd) rfl (hr.deeper _)).run RX (tk.imp fun c d σ H' hx => k2 c d H' hx)
    have start : liftS K ⟨F, H, W, T⟩ N.length (t RX) { nx := fun _ H' => Q .non H', rt := Q } (L2.start N vs) H :=
      ⟨_, _, { nx := fun _ => P' .non, rt := P' }, stt_start h1 rd, hw, fun σ' δ' g' H' hn st S' => k1 _ _ _ _ _ hn S'.ret .non, fun d v F' W' H' hq rt dn => k1 d v F' W' H' hq rt dn, fun _ _ _ _ h => h.elim, fun _ _ _ _ h => h.elim⟩
    refine wpAny_mono (body.run [] s1 _ H _ I start) (fun fl s' hs => ?_) fun e s' hs => hs
    cases fl with
    | ret u =>
      obtain ⟨v, σ', H', J, rv, q⟩ := hs
      exact ⟨v, H', J.os, J.bare, J.base, J.hok, rv, q⟩
    | next =>
      obtain ⟨σ', H', J, q⟩ := hs
      exact ⟨V.non, H', J.os, J.bare, J.base, J.hok, rfl, q⟩
    | brk => exact False.elim (hs.elim fun _ z => z.elim fun _ y => y.2)
    | cont => exact False.elim (hs.elim fun _ z => z.elim fun _ y => y.2)
theorem fnD_of {x qual : Str} {params : Arguments} {body : List Stmt} {scope : Scope} {f : Addr} {fd : FuncData} {ps : List Str} {k : Nat} {wp : SpD} (F : FunD K x qual params body scope [] [] f fd) (hm : mg x = some (.ref f)) (hb : ∀ (s : Shared) (us : List Value), us.length = ps.length → BindsTo s fd ⟨us, []⟩ (ps.zip us))
    (ok : FnG P w K mg base k f fd ps (liftSp K T ps.length wp)) : FnD P w K mg base T x k ps wp := ⟨f, fd, hm, F.kp, hb, ok⟩
end
end DL

namespace DL
open PySem PySem.Spec L2
open PyProof.Rows hiding St
/-! ### new objects that may still be changed -/
def ItOk (K : PySem.W.Frag) (n : Nat) (gp g : Gs) (H : Hp) (v : V) : Sl → Prop
  | .sh d => Den K g.W g.F v d
  | .ol ds => ∃ a xs, v = .ref a ∧ gp.O a = none ∧ g.O a = some (n + a) ∧ H a = some (.lst xs) ∧ Dens K g.W g.F xs ds
  | .od kvs => ∃ a ks, v = .ref a ∧ gp.O a = none ∧ g.O a = some (n + a) ∧ H a = some (.dK ks) ∧ ks.map (·.1) = kvs.map (·.1) ∧ Dens K g.W g.F (ks.map (·.2)) (kvs.map (·.2))
  | .oi m c fs => ∃ a dx gs, v = .ref a ∧ gp.O a = none ∧ g.O a = some (n + a) ∧ H a = some (.ins (He.ga K c) dx gs) ∧ KeyM m a gs fs ∧ Dens K g.W g.F (gs.map (·.2)) (fs.map (·.2))
abbrev TDF := (D → Prop) → Env → (Sl → Env → Prop) → Prop
def liftF (K : PySem.W.Frag) (B : Base) (n : Nat) (t : Env → (Sl → Env → Prop) → Prop) : TE := fun σ H Q => ∃ g δ P, Stt K B g H σ δ ∧ t δ P ∧
  ∀ s δ' g' H' v, P s δ' → Step n g H g' H' → Stt K B g' H' σ δ' → ItOk K n g g' H' v s → Q v H'
structure DF (X : Cx) (B : Base) (e : Expr) (t : TDF) : Prop where
  run : ∀ rx, Takes X (XW (liftX X.K B rx)) → PE X e (liftF X.K B X.N.length (t rx))
def slD : Sl → D
  | .sh d => d
  | .ol ds => .lst ds
  | .od kvs => .dct kvs
  | .oi m C fs => .ob C fs
section
variable {K : PySem.W.Frag} {B : Base} {g gp : Gs} {H : Hp} {σ : L2.St} {δ : Env} {n : Nat} {X : Cx} {e : Expr} {pos : Pos}
/-- an item is frozen -/
theorem Stt.frz {v : V} {s : Sl} (S : Stt K B g H σ δ) (hn : σ.length = n) (h : ItOk K n gp g H v s) : ∃ g', Stt K B g' H σ δ ∧ (Up g.F g'.F ∧ WLe g.W g'.W ∧ ∀ b k', g.O b = some k' → gp.O b = some k' → g'.O b = some k') ∧ Den K g'.W g'.F v (slD s) := by
  cases s with
  | sh d => exact ⟨g, S, ⟨Up.refl _, WLe.refl _, fun b k' e _ => e⟩, h⟩
  | ol ds =>
    obtain ⟨a, xs, rfl, e0, e1, e2, r⟩ := h
    obtain ⟨g', S', u, wl, hF, hW, ho⟩ := S.freezeX hn e1 (Nat.le_add_right _ _) e2
    exact ⟨g', S', ⟨u, wl, fun b k' z1 z2 => ho b k' z1 fun q => by rw [q, e0] at z2; cases z2⟩, .lst hF (r.up u wl)⟩
  | od kvs =>
    obtain ⟨a, xs, rfl, e0, e1, e2, e3, r⟩ := h
    obtain ⟨g', S', u, wl, hF, hW, ho⟩ := S.freezeX hn e1 (Nat.le_add_right _ _) e2
    exact ⟨g', S', ⟨u, wl, fun b k' z1 z2 => ho b k' z1 fun q => by rw [q, e0] at z2; cases z2⟩, .dct hF e3 (r.up u wl)⟩
  | oi m C fs =>
    obtain ⟨a, dx, xs, rfl, e0, e1, e2, e3, r⟩ := h
    obtain ⟨g', S', u, wl, hF, hW, ho⟩ := S.freezeX hn e1 (Nat.le_add_right _ _) e2
    exact ⟨g', S', ⟨u, wl, fun b k' z1 z2 => ho b k' z1 fun q => by rw [q, e0] at z2; cases z2⟩, .ob hF e3.1 (r.up u wl)⟩
theorem ItOk.step {g1 g2 : Gs} {H1 H2 : Hp} {v : V} {s : Sl} (h : ItOk K n gp g1 H1 v s) (st : Step n g1 H1 g2 H2) : ItOk K n gp g2 H2 v s := by
  cases s with
  | sh d => exact Den.step st h
  | ol ds =>
    obtain ⟨a, xs, e, e0, e1, e2, r⟩ := h
    obtain ⟨z1, z2⟩ := st.ext a _ e1 (Nat.le_add_right _ _)
    exact ⟨a, xs, e, e0, z1, z2.trans e2, r.step st⟩
  | od kvs =>
    obtain ⟨a, xs, e, e0, e1, e2, e3, r⟩ := h
    obtain ⟨z1, z2⟩ := st.ext a _ e1 (Nat.le_add_right _ _)
    exact ⟨a, xs, e, e0, z1, z2.trans e2, e3, r.step st⟩
  | oi m C fs =>
    obtain ⟨a, dx, xs, e, e0, e1, e2, e3, r⟩ := h
    obtain ⟨z1, z2⟩ := st.ext a _ e1 (Nat.le_add_right _ _)
    exact ⟨a, dx, xs, e, e0, z1, z2.trans e2, e3, r.step st⟩
def dFrz (t : TDF) : TDX := fun rx δ P => t rx δ fun s δ' => P (slD s) δ'
def dSh (t : TDX) : TDF := fun rx δ P => t rx δ fun d δ' => P (.sh d) δ'
theorem lift_frz {t : Env → (Sl → Env → Prop) → Prop} (hl : σ.length = n) {Q : VK} (h : liftE K B n (fun δ P => t δ fun s δ' => P (slD s) δ') σ H Q) : liftF K B n t σ H Q := by
  obtain ⟨g, δ, P, S, q, k⟩ := h
  refine ⟨g, δ, _, S, q, fun s δ1 g1 H1 v h1 st1 S1 it => ?_⟩
  obtain ⟨g2, S2, ⟨u, wl, ho⟩, dn⟩ := S1.frz hl it
  exact k _ δ1 g2 H1 v h1 ⟨st1.up.trans u, st1.wle.trans wl, st1.thr, fun a k e hk => by
    obtain ⟨z1, z2⟩ := st1.ext a k e hk
    exact ⟨ho a k z1 e, z2⟩⟩ S2 dn
theorem de_frz {t : TDF} (h : DF X B e t) : DE X B e (dFrz t) := ⟨fun rx tk => PE.imp (h.run rx tk) fun _ _ _ hl q => lift_frz hl q⟩
theorem df_sh {t : TDX} (h : DE X B e t) : DF X B e (dSh t) := ⟨fun rx tk => PE.imp (h.run rx tk) fun _ _ _ hl ⟨g, δ, P, S, q, k⟩ => ⟨g, δ, _, S, q, fun d δ1 g1 H1 v h1 st1 S1 D1 => k _ δ1 g1 H1 v h1 st1 S1 D1⟩⟩
def Apart (v : V) (b : Addr) : Sl → Prop
  | .sh _ => True
  | _ => v ≠ .ref b
/-- slot i takes an item -/
theorem Stt.take {i : Nat} {v : V} {s : Sl} (S : Stt K B g H σ δ) (hn : σ.length = n) (hi : i < n) (h : ItOk K n gp g H v s) : ∃ g', Stt K B g' H (σ.set i (some v)) (δ.set i (some s)) ∧ (Up g.F g'.F ∧ WLe g.W g'.W ∧ ∀ b k', g.O b = some k' → n ≤ k' → (gp.O b = some k' ∨ Apart v b s) → g'.O b = some k') := by
  cases s with
  | sh d =>
    obtain ⟨g', S', st⟩ := S.put (n := n) h hi
    exact ⟨g', S', st.up, st.wle, fun b k' z1 z2 _ => (st.ext b k' z1 z2).1⟩
  | ol ds =>
    obtain ⟨a, xs, rfl, e0, e1, e2, r⟩ := h
    obtain ⟨g', S', u, wl, ho⟩ := S.putOwn (s := .ol ds) hn hi e1 (Nat.le_add_right _ _) fun O' z => ⟨a, xs, rfl, z, e2, r⟩
    exact ⟨g', S', u, wl, fun b k' z1 z2 z3 => ho b k' z1 z2 fun q => by
      rcases z3 with z3 | z3
      · rw [q, e0] at z3; cases z3
      · exact z3 (by rw [q])⟩
  | od kvs =>
    obtain ⟨a, xs, rfl, e0, e1, e2, e3, r⟩ := h
    obtain ⟨g', S', u, wl, ho⟩ := S.putOwn (s := .od kvs) hn hi e1 (Nat.le_add_right _ _) fun O' z => ⟨a, xs, rfl, z, e2, e3, r⟩
    exact ⟨g', S', u, wl, fun b k' z1 z2 z3 => ho b k' z1 z2 fun q => by
      rcases z3 with z3 | z3
      · rw [q, e0] at z3; cases z3
      · exact z3 (by rw [q])⟩
  | oi m C fs =>
    obtain ⟨a, dx, xs, rfl, e0, e1, e2, e3, r⟩ := h
    obtain ⟨g', S', u, wl, ho⟩ := S.putOwn (s := .oi m C fs) hn hi e1 (Nat.le_add_right _ _) fun O' z => ⟨a, dx, xs, rfl, z, e2, e3, r⟩
    exact ⟨g', S', u, wl, fun b k' z1 z2 z3 => ho b k' z1 z2 fun q => by
      rcases z3 with z3 | z3
      · rw [q, e0] at z3; cases z3
      · exact z3 (by rw [q])⟩
def dSetX (i : Nat) (t : TDF) : TDS := fun rx DE δ => t rx δ fun s δ' => DE.nx (δ'.set i (some s))
theorem lift_setX {i : Nat} {t : TDF} {rx : D → Prop} {DD : Ends} (hl : σ.length = n) (hi : i < n) (h : liftS K B n (dSetX i t rx) DD σ H) : tAsg (liftF K B n (t rx)) (gName i) DD σ H := by
  obtain ⟨g, δ, DE, S, q, k1, k2, k3, k4⟩ := h
  refine ⟨g, δ, _, S, q, fun s δ1 g1 H1 v h1 st1 S1 it => ?_⟩
  obtain ⟨g2, S2, u, wl, ho⟩ := S1.take hl hi it
  exact k1 _ _ g2 H1 h1 ⟨st1.up.trans u, st1.wle.trans wl, st1.thr, fun a k e hk => by
    obtain ⟨z1, z2⟩ := st1.ext a k e hk
    exact ⟨ho a k z1 hk (.inl e), z2⟩⟩ S2
theorem ds_setX {t : TDF} {i : Nat} {x : Str} {pos' : Pos} (hN : X.N.Nodup) (hi : X.N[i]? = some x) (hx : Loc X.env.scope x) (he : DF X B e t) (hs : swapsWith e (some (.Name x pos')) pos.line X.env = pure false := by rfl) (hf : X.fn x = true ∨ X.env.scope.names.lookup x = some .local := by first | exact .inl rfl | exact .inr rfl | assumption) :
    DS X B (.Assign [.Name x pos'] e pos) (dSetX i t) :=
  ⟨fun rx tk => PS.imp (ps_set hN hi hx (he.run rx tk) hs hf) fun DD σ H hl h => lift_setX hl (List.getElem?_eq_some_iff.mp hi).1 h⟩
/-- a, b = x, y, both names local -/
def dPar (i j : Nat) (t u : TDF) : TDS := fun rx DE δ => t rx δ fun s δ1 => u rx δ1 fun s' δ2 => DE.nx ((δ2.set i (some s)).set j (some s'))
theorem ds_par {t u : TDF} {i j : Nat} {x y : Str} {a b : Expr} {px py pt : Pos} {kt k2 pt2} (hc : X.calm = true) (hN : X.N.Nodup) (hi : X.N[i]? = some x) (hj : X.N[j]? = some y) (hij : i ≠ j)
    (hx : X.env.scope.names.lookup x = some .local) (hy : X.env.scope.names.lookup y = some .local) (ha : DF X B a t) (hb : DF X B b u)
    (hw : swappedStores [.Tuple [.Name x px, .Name y py] kt pt] (.Tuple [a, b] k2 pt2) X.env = pure (some [x, y]))
    (hs : swapsWithSole [.Tuple [.Name x px, .Name y py] kt pt] (.Tuple [a, b] k2 pt2) pos.line X.env = pure false := by rfl)
    (h1 : starEach [a, b] X.env = (false, eval a X.env) :: starEach [b] X.env := by rfl) (h2 : starEach [b] X.env = (false, eval b X.env) :: starEach [] X.env := by rfl) :
    DS X B (.Assign [.Tuple [.Name x px, .Name y py] kt pt] (.Tuple [a, b] k2 pt2) pos) (dPar i j t u) :=
  ⟨fun rx tk => PS.imp (ps_par hc hN hi hj hij hx hy (pa_cons (ha.run rx tk) (pa_cons (hb.run rx tk) pa_nil h2) h1) hw hs) fun DD σ H hl h => by
    obtain ⟨g, δ, DE, S, q, k1, k2, k3, k4⟩ := h
    refine ⟨g, δ, _, S, q, fun s δ1 g1 H1 v h1 st1 S1 it1 => ⟨g1, δ1, _, S1, h1, fun s' δ2 g2 H2 v' h2 st2 S2 it2 => ⟨v, v', rfl, ?_⟩⟩⟩
    have hil := (List.getElem?_eq_some_iff.mp hi).1
    have hjl := (List.getElem?_eq_some_iff.mp hj).1
    have it1' := it1.step st2
    -- the first name, then the second
    obtain ⟨g3, S3, u3, w3, o3⟩ := S2.take hl hil it1'
    have ap : ∀ b, g1.O b = none → Apart v b s := fun b e => by
      cases s with
      | sh d => trivial
      | ol ds =>
        obtain ⟨a, xs, rfl, z0, z1, _⟩ := it1
        intro q; cases q; rw [z1] at e; cases e
      | od kvs =>
        obtain ⟨a, xs, rfl, z0, z1, _⟩ := it1
        intro q; cases q; rw [z1] at e; cases e
      | oi m C fs =>
        obtain ⟨a, dx, xs, rfl, z0, z1, _⟩ := it1
        intro q; cases q; rw [z1] at e; cases e
    have it2' : ItOk X.K X.N.length g1 g3 H2 v' s' := by
      cases s' with
      | sh d => exact it2.up u3 w3
      | ol ds =>
        obtain ⟨a, xs, rfl, z0, z1, z2, r⟩ := it2
        exact ⟨a, xs, rfl, z0, o3 a _ z1 (Nat.le_add_right _ _) (.inr (ap a z0)), z2, r.up u3 w3⟩
      | od kvs =>
        obtain ⟨a, xs, rfl, z0, z1, z2, z3, r⟩ := it2
        exact ⟨a, xs, rfl, z0, o3 a _ z1 (Nat.le_add_right _ _) (.inr (ap a z0)), z2, z3, r.up u3 w3⟩
      | oi m C fs =>
        obtain ⟨a, dx, xs, rfl, z0, z1, z2, z3, r⟩ := it2
        exact ⟨a, dx, xs, rfl, z0, o3 a _ z1 (Nat.le_add_right _ _) (.inr (ap a z0)), z2, z3, r.up u3 w3⟩
    obtain ⟨g4, S4, u4, w4, o4⟩ := S3.take (by simpa using hl) hjl it2'
    refine k1 _ _ g4 H2 h2 ⟨st1.up.trans (st2.up.trans (u3.trans u4)), st1.wle.trans (st2.wle.trans (w3.trans w4)), fun a h => st2.thr a (st1.thr a h), fun a k e hk => ?_⟩ S4
    obtain ⟨z1, z2⟩ := st1.ext a k e hk
    obtain ⟨z3, z4⟩ := st2.ext a k z1 hk
    exact ⟨o4 a k (o3 a k z3 hk (.inl e)) hk (.inl z1), z4.trans z2⟩⟩
/-! ### displays as new objects -/
def dLstF (t : TDA) : TDF := fun rx δ P => t rx δ fun ds δ1 => ds.length ≤ sizeLine ∧ P (.ol ds) δ1
theorem own_none (S : Stt K B g H σ δ) {p : Addr} (hp : H p = none) : g.O p = none := by
  cases q : g.O p with
  | none => rfl
  | some k =>
    obtain ⟨_, _, ⟨o, z, _⟩, _⟩ := S.own p k q
    rw [hp] at z; cases z
/-- a new list that is owned for now -/
theorem Stt.newL {p : Addr} {xs : List V} {ds : List D} {g0 : Gs} {H0 : Hp} {δ0 : Env} (S : Stt K B g H σ δ) (st : Step n g0 H0 g H) (S0 : Stt K B g0 H0 σ δ0) (hp : H p = none) (r : Dens K g.W g.F xs ds) :
    ∃ g', Step n g0 H0 g' (upd H p (.lst xs)) ∧ Stt K B g' (upd H p (.lst xs)) σ δ ∧ ItOk K n g0 g' (upd H p (.lst xs)) (.ref p) (.ol ds) := by
  obtain ⟨S2, st2⟩ := S.allocOwn (n := n) (k := n + p) hp (o := .lst xs) trivial
  refine ⟨_, st.trans st2, S2, p, xs, rfl, own_none S0 ?_, by simp, upd_same, r.step st2⟩
  cases q : H0 p with
  | none => rfl
  | some o => exact absurd hp (st.thr p (by rw [q]; simp))
theorem Stt.newK {p : Addr} {ks : List (Key × V)} {kvs : List (Key × D)} {g0 : Gs} {H0 : Hp} {δ0 : Env} (S : Stt K B g H σ δ) (st : Step n g0 H0 g H) (S0 : Stt K B g0 H0 σ δ0) (hp : H p = none) (e : ks.map (·.1) = kvs.map (·.1)) (r : Dens K g.W g.F (ks.map (·.2)) (kvs.map (·.2))) :
    ∃ g', Step n g0 H0 g' (upd H p (.dK ks)) ∧ Stt K B g' (upd H p (.dK ks)) σ δ ∧ ItOk K n g0 g' (upd H p (.dK ks)) (.ref p) (.od kvs) := by
  obtain ⟨S2, st2⟩ := S.allocOwn (n := n) (k := n + p) hp (o := .dK ks) trivial
  refine ⟨_, st.trans st2, S2, p, ks, rfl, own_none S0 ?_, by simp, upd_same, e, r.step st2⟩
  cases q : H0 p with
  | none => rfl
  | some o => exact absurd hp (st.thr p (by rw [q]; simp))
variable {es : List Expr} {t : TDA}
theorem df_lst (h : DA X B es t) : DF X B (.List es pos) (dLstF t) :=
  ⟨fun rx tk => PE.imp (pe_lst (h.run rx tk)) fun σ H Q _ ⟨g, δ, P, S, q, k⟩ => ⟨g, δ, _, S, q, fun ds δ1 g1 H1 vs h1 st1 S1 D1 => ⟨by rw [D1.length]; exact h1.1, fun p hp => by
    obtain ⟨g2, st2, S2, it⟩ := S1.newL st1 S hp D1
    exact k _ δ1 _ _ _ h1.2 st2 S2 it⟩⟩⟩
/-! ### comprehensions -/
def wipeD (δ : Env) : List Nat → Env
  | [] => δ
  | v :: vs => (wipeD δ vs).set v none
theorem wipeD_get {δ : Env} {i : Nat} {s : Sl} : ∀ {vs : List Nat}, (wipeD δ vs)[i]? = some (some s) → δ[i]? = some (some s) ∧ i ∉ vs
  | [], h => ⟨h, by simp⟩
  | v :: vs, h => by
    unfold wipeD at h
    rcases getSet h with ⟨_, e, _⟩ | ⟨e1, e2⟩
    · cases e
    · obtain ⟨h1, h2⟩ := wipeD_get e2
      exact ⟨h1, by simp only [List.mem_cons, not_or]; exact ⟨e1, h2⟩⟩
theorem wipeD_length (δ : Env) : ∀ vs : List Nat, (wipeD δ vs).length = δ.length
  | [] => rfl
  | v :: vs => by unfold wipeD; rw [List.length_set, wipeD_length δ vs]
theorem wipe_get {σ : L2.St} {i : Nat} : ∀ {vs : List Nat}, i ∉ vs → (wipe σ vs)[i]? = σ[i]?
  | [], _ => rfl
  | v :: vs, h => by
    unfold wipe
    rw [List.getElem?_set_ne (by intro e; exact h (by simp [e])), wipe_get (fun z => h (by simp [z]))]
theorem wipe_in {σ : L2.St} {i : Nat} : ∀ {vs : List Nat}, i ∈ vs → i < σ.length → (wipe σ vs)[i]? = some none
  | [], h, _ => by simp at h
  | v :: vs, h, hl => by
    unfold wipe
    by_cases e : v = i
    · subst e
      rw [List.getElem?_set_self (by rw [wipe_length]; exact hl)]
    · rw [List.getElem?_set_ne e]
      rcases List.mem_cons.mp h with z | z
      · exact absurd z.symm e
      · exact wipe_in z hl
theorem SameOut.wipe {vs : List Nat} {σ σ' : L2.St} (h : SameOut vs σ σ') : L2.wipe σ' vs = L2.wipe σ vs := by
  apply List.ext_getElem?
  intro i
  by_cases hi : i ∈ vs
  · by_cases hl : i < σ.length
    · rw [wipe_in hi hl, wipe_in hi (by rw [h.1]; exact hl)]
    · rw [List.getElem?_eq_none (by rw [wipe_length, h.1]; omega), List.getElem?_eq_none (by rw [wipe_length]; omega)]
  · rw [wipe_get hi, wipe_get hi, h.2 i hi]
theorem Stt.wiped {vs : List Nat} (S : Stt K B g H σ δ) : Stt K B g H (L2.wipe σ vs) (wipeD δ vs) := ⟨S.ret, S.own, by rw [wipeD_length, wipe_length]; exact S.len, fun i s e => by
  obtain ⟨e1, e2⟩ := wipeD_get e
  rw [wipe_get e2]
  exact S.env i s e1⟩
/-- behind a comprehension: its own names are what they were (if they held data) -/
def backD (δ0 δ : Env) : List Nat → Env
  | [] => δ
  | v :: vs => (backD δ0 δ vs).set v (match δ0[v]? with
    | some (some (.sh d)) => some (.sh d)
    | _ => none)
theorem backD_length (δ0 δ : Env) : ∀ vs : List Nat, (backD δ0 δ vs).length = δ.length
  | [] => rfl
  | v :: vs => by unfold backD; rw [List.length_set, backD_length δ0 δ vs]
theorem backD_get {δ0 δ : Env} {i : Nat} {s : Sl} : ∀ {vs : List Nat}, (backD δ0 δ vs)[i]? = some (some s) → (i ∉ vs ∧ δ[i]? = some (some s)) ∨ (∃ d, s = .sh d ∧ δ0[i]? = some (some (.sh d)))
  | [], h => .inl ⟨by simp, h⟩
  | v :: vs, h => by
    unfold backD at h
    rcases getSet h with ⟨e1, e2, _⟩ | ⟨e1, e2⟩
    · subst e1
      split at e2
      · rename_i d q
        cases e2
        exact .inr ⟨d, rfl, q⟩
      · cases e2
    · rcases backD_get e2 with ⟨h1, h2⟩ | h2
      · exact .inl ⟨by simp only [List.mem_cons, not_or]; exact ⟨e1, h1⟩, h2⟩
      · exact .inr h2
theorem Stt.back {vs : List Nat} {g0 : Gs} {H0 : Hp} {δ0 : Env} (S0 : Stt K B g0 H0 σ δ0) (st : Step n g0 H0 g H) (S : Stt K B g H (L2.wipe σ vs) δ) : Stt K B g H σ (backD δ0 δ vs) :=
  ⟨S.ret, S.own, by rw [backD_length, S.len, wipe_length], fun i s e => by
    rcases backD_get e with ⟨h1, h2⟩ | ⟨d, rfl, h2⟩
    · have q := S.env i s h2
      rw [wipe_get h1] at q
      exact q
    · obtain ⟨v, e1, r⟩ := S0.env i _ h2
      exact ⟨v, e1, r.step st⟩⟩
def dCompL (tg : TDG) (tt : TDB) (te : TDX) (vs : List Nat) (P : List D → Env → Prop) : List D → List D → Env → Prop
  | [], acc, δ => P acc δ
  | d :: ds, acc, δ => tg d δ fun δ1 => tt (fun _ => False) δ1 fun b δ2 => if b = true then te (fun _ => False) δ2 fun y δ3 => acc.length < sizeLine ∧ dCompL tg tt te vs P ds (acc ++ [y]) (wipeD δ3 vs) else dCompL tg tt te vs P ds acc (wipeD δ2 vs)
def dComp (ti : TDI) (tg : TDG) (tt : TDB) (te : TDX) (vs : List Nat) : TDF := fun rx δ P => ti rx δ fun ds δ1 => dCompL tg tt te vs (fun acc δ2 => P (.ol acc) (backD δ1 δ2 vs)) ds [] (wipeD δ1 vs)
structure DTs (X : Cx) (B : Base) (ifs : List Expr) (t : TDB) : Prop where
  run : ∀ rx, Takes X (XW (liftX X.K B rx)) → PTs X ifs (liftT X.K B X.N.length (t rx))
def dYes : TDB := fun _ δ P => P true δ
theorem PTs.imp {ifs : List Expr} {t t' : TT} (h : PTs X ifs t) (i : ∀ σ H Q, σ.length = X.N.length → t' σ H Q → t σ H Q) : PTs X ifs t' := ⟨fun pins s σ H Q I q => h.run pins s σ H Q I (i σ H Q I.len q)⟩
theorem dts_nil : DTs X B [] dYes := ⟨fun rx tk => PTs.imp pts_nil fun σ H Q _ ⟨g, δ, P, S, q, k⟩ => k true δ g H q (Step.refl _ _ _) S⟩
theorem dts_one {c : Expr} {t : TDB} (h : DT X B c t) : DTs X B [c] t := ⟨fun rx tk => pts_one (h.run rx tk)⟩
theorem takes_never {X : Cx} {B : Base} {K : PySem.W.Frag} : Takes X (XW (liftX K B fun _ => False)) := fun u s' x => by
  obtain ⟨a, B', sI, pins, σ, H, cls, d, e, I, nb, up, sky, na, os, ag, w⟩ := x
  obtain ⟨F, W, e, r, x, q⟩ := w
  exact q.elim
/-- what a comprehension's reading asks, from data -/
theorem lift_comp {ti : TDI} {tg : TDG} {tt : TDB} {te : TDX} {vs : List Nat} {rx : D → Prop} {Q : VK} (hl : σ.length = n) (h : liftF K B n (dComp ti tg tt te vs rx) σ H Q) :
    tLc (liftI K B n (ti rx)) (liftG K B n vs tg) (liftT K B n (tt fun _ => False)) (liftE K B n (te fun _ => False)) vs σ H Q := by
  obtain ⟨g, δ, P, S, q, k⟩ := h
  refine ⟨g, δ, _, S, q, fun ds δ1 g1 H1 J h1 st1 S1 hJ => fun D hD => ?_⟩
  obtain ⟨S2, st2⟩ := S1.allocOwn (n := n) (k := n + D) hD (o := .lst []) trivial
  refine ⟨fun i m H => m = ds.length - i ∧ i ≤ ds.length ∧ ∃ g' δ' acc xs, Step n g1 H1 g' H ∧ g'.O D = some (n + D) ∧ H D = some (.lst xs) ∧ Dens K g'.W g'.F xs acc ∧ Stt K B g' H (L2.wipe σ vs) δ' ∧ dCompL tg tt te vs (fun acc δ2 => P (.ol acc) (backD δ1 δ2 vs)) (ds.drop i) acc δ',
    ⟨_, rfl, Nat.zero_le _, _, _, [], [], st2, by simp, upd_same, .nil, S2.wiped, by simpa using h1⟩, ?_⟩
  rintro i m H2 ⟨rfl, hi, g2, δ2, acc, xs, st2', oD, eD, rD, S2', q2⟩
  obtain ⟨ja, jb⟩ := hJ i g2 H2 _ δ2 st2' S2'
  have hwl : (L2.wipe σ vs).length = n := by rw [wipe_length]; exact hl
  have nD : g1.O D = none := own_none S1 hD
  by_cases hlt : i < ds.length
  · have e : ds.drop i = ds[i] :: ds.drop (i + 1) := List.drop_eq_getElem_cons hlt
    rw [e] at q2
    obtain ⟨jgo, jy⟩ := ja ds[i] (List.getElem?_eq_getElem hlt)
    refine .inr ⟨jgo, fun H' => ∃ g' δ' acc xs, Step n g1 H1 g' H' ∧ g'.O D = some (n + D) ∧ H' D = some (.lst xs) ∧ Dens K g'.W g'.F xs acc ∧ Stt K B g' H' (L2.wipe σ vs) δ' ∧ dCompL tg tt te vs (fun acc δ2 => P (.ol acc) (backD δ1 δ2 vs)) (ds.drop (i + 1)) acc δ',
      fun H' h => ⟨ds.length - (i + 1), by omega, rfl, hlt, h⟩, fun x H' y => ?_⟩
    obtain ⟨g3, st3, S3, r3⟩ := jy x H' y
    refine ⟨g3, δ2, ds[i], _, S3, r3, q2, fun σ4 δ4 g4 H4 h4 st4 S4 so => ⟨?_, g4, δ4, _, S4, h4, fun b δ5 g5 H5 h5 st5 S5 => ?_⟩⟩
    · have hw := so.wipe
      rw [hw]
      apply List.ext_getElem?
      intro j
      by_cases hj : j ∈ vs
      · by_cases hjl : j < σ.length
        · rw [wipe_in hj (by rw [wipe_length]; exact hjl), wipe_in hj hjl]
        · rw [List.getElem?_eq_none (by rw [wipe_length, wipe_length]; omega), List.getElem?_eq_none (by rw [wipe_length]; omega)]
      · rw [wipe_get hj]
    · have sAll : Step n g2 H2 g5 H5 := (st3.trans st4).trans st5
      obtain ⟨oD5, eD5⟩ := sAll.ext D _ oD (Nat.le_add_right _ _)
      have eD5 : H5 D = some (.lst xs) := eD5.trans eD
      have hw : L2.wipe σ4 vs = L2.wipe σ vs := by
        rw [so.wipe]
        apply List.ext_getElem?
        intro j
        by_cases hj : j ∈ vs
        · by_cases hjl : j < σ.length
          · rw [wipe_in hj (by rw [wipe_length]; exact hjl), wipe_in hj hjl]
          · rw [List.getElem?_eq_none (by rw [wipe_length, wipe_length]; omega), List.getElem?_eq_none (by rw [wipe_length]; omega)]
        · rw [wipe_get hj]
      cases b with
      | false => exact ⟨g5, wipeD δ5 vs, acc, xs, st2'.trans sAll, oD5, eD5, rD.step sAll, by rw [← hw]; exact S5.wiped, h5⟩
      | true =>
        refine ⟨g5, δ5, _, S5, h5, fun yd δ6 g6 H6 yv h6 st6 S6 r6 => ?_⟩
        obtain ⟨oD6, eD6⟩ := st6.ext D _ oD5 (Nat.le_add_right _ _)
        have eD6 : H6 D = some (.lst xs) := eD6.trans eD5
        have rD6 := (rD.step sAll).step st6
        refine ⟨xs, eD6, by rw [rD.length]; exact h6.1, ?_⟩
        have hl6 : (L2.wipe σ4 vs).length = n := by rw [hw]; exact hwl
        obtain ⟨S7, k7⟩ := (S6.wiped (vs := vs)).writeX (o' := .lst (xs ++ [yv])) hl6 oD6 (Nat.le_add_right _ _) eD6 trivial trivial
        have s6 : Step n g1 H1 g6 H6 := st2'.trans (sAll.trans st6)
        refine ⟨g6, wipeD δ6 vs, acc ++ [yd], xs ++ [yv], ⟨s6.up, s6.wle, fun a h => upd_thr a (s6.thr a h), fun a k' z1 z2 => ?_⟩, oD6, upd_same, rD6.append (.cons r6 .nil), by rw [← hw]; exact S7, h6.2⟩
        obtain ⟨y1, y2⟩ := s6.ext a k' z1 z2
        have na : a ≠ D := fun z => by rw [z, nD] at z1; cases z1
        exact ⟨y1, (k7 a na).trans y2⟩
  · have e : i = ds.length := by omega
    subst e
    rw [List.drop_length] at q2
    refine .inl ⟨jb (Nat.le_refl _), ?_⟩
    have s2 : Step n g H g2 H2 := st1.trans st2'
    have S3 := Stt.back (vs := vs) S1 st2' S2'
    refine k _ _ g2 H2 _ q2 s2 S3 ⟨D, xs, rfl, own_none S ?_, oD, eD, rD⟩
    cases z : H D with
    | none => rfl
    | some o => exact absurd hD (st1.thr D (by rw [z]; simp))
theorem df_comp {elt tg iter : Expr} {ifs : List Expr} {scope : Scope} {own : List (Str × Nat)} {ti : TDI} {dg : TDG} {tt : TDB} {te : TDX} (hc : X.calm = true) (hN : X.N.Nodup) (hi : DI X B tg iter ti) (ok : BlkOk X.N X.env.scope scope own)
    (hg : ∀ (s : Shared) (H : Hp) (C : Addr) (cl : List (Str × Addr)) (fp : List Addr), DG (X.blk s H scope (compEnvC scope cl C X.env) fp) B tg (own.map (·.2)) dg) (ht : ∀ (s : Shared) (H : Hp) (C : Addr) (cl : List (Str × Addr)) (fp : List Addr), DTs (X.blk s H scope (compEnvC scope cl C X.env) fp) B ifs tt)
    (he : ∀ (s : Shared) (H : Hp) (C : Addr) (cl : List (Str × Addr)) (fp : List Addr), DE (X.blk s H scope (compEnvC scope cl C X.env) fp) B elt te) (hs : ∀ x, foldedSetIterable iter X.env x = pure x := by intro _; rfl) :
    DF X B (.ListComp elt [⟨tg, iter, ifs, 0⟩] scope pos) (dComp ti dg tt te (own.map (·.2))) :=
  ⟨fun rx tk => PE.imp (pe_lc hc hN (hi.run rx tk) ok (fun s H C cl fp => (hg s H C cl fp).run) (fun s H C cl fp => (ht s H C cl fp).run (fun _ => False) takes_never) (fun s H C cl fp => (he s H C cl fp).run (fun _ => False) takes_never) hs) fun σ H Q hl h => lift_comp hl h⟩
theorem ds_comp {i : Nat} {y : Str} {py spos : Pos} {elt tg iter : Expr} {ifs : List Expr} {scope : Scope} {own : List (Str × Nat)} {ti : TDI} {dg : TDG} {tt : TDB} {te : TDX} (hc : X.calm = true) (hN : X.N.Nodup) (hy : X.N[i]? = some y) (hyl : X.env.scope.names.lookup y = some .local)
    (hsw : swapsWith (.ListComp elt [⟨tg, iter, ifs, 0⟩] scope pos) (some (.Name y py)) spos.line X.env = pure true) (hi : DI X B tg iter ti) (ok : BlkOk X.N X.env.scope scope own)
    (hg : ∀ (s : Shared) (H : Hp) (C : Addr) (cl : List (Str × Addr)) (fp : List Addr), DG (X.blk s H scope (compEnvC scope cl C X.env) fp) B tg (own.map (·.2)) dg) (ht : ∀ (s : Shared) (H : Hp) (C : Addr) (cl : List (Str × Addr)) (fp : List Addr), DTs (X.blk s H scope (compEnvC scope cl C X.env) fp) B ifs tt)
    (he : ∀ (s : Shared) (H : Hp) (C : Addr) (cl : List (Str × Addr)) (fp : List Addr), DE (X.blk s H scope (compEnvC scope cl C X.env) fp) B elt te) (hs : ∀ x, foldedSetIterable iter X.env x = pure x := by intro _; rfl) :
    DS X B (.Assign [.Name y py] (.ListComp elt [⟨tg, iter, ifs, 0⟩] scope pos) spos) (dSetX i (dComp ti dg tt te (own.map (·.2)))) :=
  ⟨fun rx tk => PS.imp (ps_setLc hc hN hy hyl hsw (hi.run rx tk) ok (fun s H C cl fp => (hg s H C cl fp).run) (fun s H C cl fp => (ht s H C cl fp).run (fun _ => False) takes_never) (fun s H C cl fp => (he s H C cl fp).run (fun _ => False) takes_never) hs) fun DD σ H hl h => by
    have h2 := lift_setX (K := X.K) (B := B) hl (List.getElem?_eq_some_iff.mp hy).1 h
    exact lift_comp hl h2⟩
end
end DL

namespace DL
open PySem PySem.Spec L2
open PyProof.Rows hiding St
/-! ### owned things lent for a look -/
def frz1 : Option Sl → Option Sl
  | some s => some (.sh (slD s))
  | none => none
def frzAll (δ : Env) : Env := δ.map frz1
def scalar : D → Bool
  | .non => true
  | .bl _ => true
  | .int _ => true
  | .str _ => true
  | .ty _ => true
  | .glo _ => true
  | .adr _ => true
  | _ => false
theorem Den.scal {K : PySem.W.Frag} {W W' : DW} {F F' : Hp} {v : V} {d : D} (h : Den K W F v d) (s : scalar d = true) : Den K W' F' v d := by
  cases h with
  | non => exact .non
  | bl b => exact .bl b
  | int i => exact .int i
  | str x => exact .str x
  | ty n => exact .ty n
  | glo x => exact .glo x
  | adr x => exact .adr x
  | _ => cases s
section
variable {K : PySem.W.Frag} {B : Base} {g g' gp : Gs} {H H' : Hp} {σ : L2.St} {δ : Env} {n : Nat} {X : Cx} {e a b : Expr} {pos : Pos}
open Classical in
noncomputable def frzG (n : Nat) (g : Gs) (H : Hp) : Gs := ⟨fun a => if ∃ k, g.O a = some k ∧ k < n then H a else g.F a, fun a => if ∃ k, g.O a = some k ∧ k < n then none else g.O a, g.W⟩
theorem frzG_F {a : Addr} {k : Nat} (h : g.O a = some k) (hk : k < n) : (frzG n g H).F a = H a := if_pos ⟨k, h, hk⟩
theorem Stt.frzAll (S : Stt K B g H σ δ) (hn : σ.length = n) : Stt K B (frzG n g H) H σ (DL.frzAll δ) ∧ Step n g H (frzG n g H) H := by
  have up : Up g.F (frzG n g H).F := fun a o e => by
    show (if _ then _ else _) = _
    rw [if_neg]
    · exact e
    · rintro ⟨k, h, _⟩
      rw [(S.own a k h).2.1] at e; cases e
  refine ⟨⟨⟨fun a o e => ?_, S.ret.up.trans up, S.ret.old, S.ret.there, fun a ha => ?_, S.ret.wle, S.ret.drw.keep fun a ha => ⟨rfl, ?_⟩, S.ret.tab, S.ret.dnew, fun a o e => ?_⟩, fun a k e => ?_, by simpa [DL.frzAll] using S.len, fun i s e => ?_⟩, ⟨up, WLe.refl _, fun _ h => h, fun a k e hk => ⟨?_, rfl⟩⟩⟩
  · have e : (if ∃ k, g.O a = some k ∧ k < n then H a else g.F a) = some o := e
    split at e
    · exact e
    · exact S.ret.sub _ _ e
  · show (if _ then _ else _) = _
    rw [if_neg]
    · exact S.ret.froz a ha
    · rintro ⟨k, h, _⟩
      exact ha (S.own a k h).1
  · show (if _ then _ else _) = _
    rw [if_neg]
    rintro ⟨k, h, _⟩
    exact (S.own a k h).2.2.2 ha
  · have e : (if ∃ k, g.O a = some k ∧ k < n then H a else g.F a) = some o := e
    split at e
    · rename_i q
      obtain ⟨k, h, _⟩ := q
      obtain ⟨o', z, p⟩ := (S.own a k h).2.2.1
      rw [e] at z; cases z; exact p.tbl
    · exact S.ret.fnt _ _ e
  · have e : (if ∃ k, g.O a = some k ∧ k < n then none else g.O a) = some k := e
    split at e
    · cases e
    · rename_i hne
      obtain ⟨c1, c2, c3, c4⟩ := S.own a k e
      exact ⟨c1, (if_neg hne).trans c2, c3, c4⟩
  · unfold DL.frzAll at e
    rw [List.getElem?_map] at e
    cases q : δ[i]? with
    | none => rw [q] at e; cases e
    | some o =>
      rw [q] at e
      cases o with
      | none => cases e
      | some s0 =>
        cases e
        have hi : i < n := by rw [← hn, ← S.len]; exact (List.getElem?_eq_some_iff.mp q).1
        have z := S.env i s0 q
        cases s0 with
        | sh d =>
          obtain ⟨v, e1, r⟩ := z
          exact ⟨v, e1, r.up up (WLe.refl _)⟩
        | ol ds =>
          obtain ⟨a, xs, e1, e2, e3, r⟩ := z
          exact ⟨_, e1, .lst ((frzG_F e2 hi).trans e3) (r.up up (WLe.refl _))⟩
        | od kvs =>
          obtain ⟨a, xs, e1, e2, e3, e4, r⟩ := z
          exact ⟨_, e1, .dct ((frzG_F e2 hi).trans e3) e4 (r.up up (WLe.refl _))⟩
        | oi m c fs =>
          obtain ⟨a, dx, xs, e1, e2, e3, e4, r⟩ := z
          exact ⟨_, e1, .ob ((frzG_F e2 hi).trans e3) e4.1 (r.up up (WLe.refl _))⟩
  · show (if _ then _ else _) = _
    rw [if_neg]
    · exact e
    · rintro ⟨k', h, h2⟩
      rw [e] at h; cases h; omega
open Classical in
/-- the look is over: what was owned is owned again -/
theorem Stt.back2 (S : Stt K B g H σ δ) (hn : σ.length = n) (S' : Stt K B g' H' σ (DL.frzAll δ)) (st : Step n (frzG n g H) H g' H') : ∃ g2, Stt K B g2 H' σ δ ∧ Step n g H g2 H' ∧ g2.W = g'.W := by
  obtain ⟨_, st0⟩ := S.frzAll hn
  have stA := st0.trans st
  have up : Up g.F g'.F := stA.up
  have hw : WLe g.W g'.W := stA.wle
  -- slot-owned things are frozen meanwhile
  have fz : ∀ a k o, g.O a = some k → k < n → H a = some o → g'.F a = some o ∧ H' a = some o := fun a k o e hk h => by
    have z : g'.F a = some o := st.up a o ((frzG_F e hk).trans h)
    exact ⟨z, S'.ret.sub _ _ z⟩
  have nh : ∀ a k, g.O a = some k → ¬ has g'.W a := fun a k e h => by
    by_cases hk : k < n
    · obtain ⟨o, q, _⟩ := (S.own a k e).2.2.1
      have z := (fz a k o e hk q).1
      rw [(S'.ret.drw.has_ne h).2] at z; cases z
    · have z := (stA.ext a k e (by omega)).1
      exact (S'.own a k z).2.2.2 h
  have pl : ∀ a k, g.O a = some k → ∃ o, H a = some o ∧ H' a = some o ∧ plainO o := fun a k e => by
    obtain ⟨o, q, p⟩ := (S.own a k e).2.2.1
    by_cases hk : k < n
    · exact ⟨o, q, (fz a k o e hk q).2, p⟩
    · exact ⟨o, q, (stA.ext a k e (by omega)).2.trans q, p⟩
  refine ⟨⟨g.F, g.O, g'.W⟩, ⟨⟨fun a o e => S'.ret.sub _ _ (up a o e), S.ret.up, S'.ret.old, S'.ret.there, S.ret.froz, S'.ret.wle, fun w e => ?_, S'.ret.tab, S'.ret.dnew, S.ret.fnt⟩, fun a k e => ?_, S.len, fun i s e => ?_⟩, ⟨Up.refl _, hw, stA.thr, fun a k e hk => ⟨e, (stA.ext a k e hk).2⟩⟩, rfl⟩
  · obtain ⟨d, f1, f2, f3⟩ := S'.ret.drw w e
    have dn : ∀ a, g'.F a = none → g.F a = none := fun a h => by
      cases q : g.F a with
      | none => rfl
      | some o => rw [up a o q] at h; cases h
    exact ⟨d, dn _ f1, dn _ f2, dn _ f3⟩
  · obtain ⟨c1, c2, c3, c4⟩ := S.own a k e
    obtain ⟨o, _, q, p⟩ := pl a k e
    exact ⟨c1, c2, ⟨o, q, p⟩, nh a k e⟩
  · have z := S.env i s e
    have hi : i < n := by rw [← hn, ← S.len]; exact (List.getElem?_eq_some_iff.mp e).1
    cases s with
    | sh d =>
      obtain ⟨v, e1, r⟩ := z
      exact ⟨v, e1, r.up (Up.refl _) hw⟩
    | ol ds =>
      obtain ⟨a, xs, e1, e2, e3, r⟩ := z
      exact ⟨a, xs, e1, e2, (fz a i _ e2 hi e3).2, r.up (Up.refl _) hw⟩
    | od kvs =>
      obtain ⟨a, xs, e1, e2, e3, e4, r⟩ := z
      exact ⟨a, xs, e1, e2, (fz a i _ e2 hi e3).2, e4, r.up (Up.refl _) hw⟩
    | oi m c fs =>
      obtain ⟨a, dx, xs, e1, e2, e3, e4, r⟩ := z
      exact ⟨a, dx, xs, e1, e2, (fz a i _ e2 hi e3).2, e4, r.up (Up.refl _) hw⟩
def dBor (t : TDX) : TDX := fun rx δ P => t rx (frzAll δ) fun d δ' => scalar d = true ∧ δ' = frzAll δ ∧ P d δ
def dBorT (t : TDB) : TDB := fun rx δ P => t rx (frzAll δ) fun b δ' => δ' = frzAll δ ∧ P b δ
theorem de_bor {t : TDX} (h : DE X B e t) : DE X B e (dBor t) := ⟨fun rx tk => PE.imp (h.run rx tk) fun σ H Q hl ⟨g, δ, P, S, q, k⟩ => by
  obtain ⟨S1, st1⟩ := S.frzAll hl
  refine ⟨_, _, _, S1, q, fun d δ' g' H' v hp st S' r => ?_⟩
  obtain ⟨hs, rfl, hp⟩ := hp
  obtain ⟨g2, S2, st2, _⟩ := S.back2 hl S' st
  exact k d δ g2 H' v hp st2 S2 (r.scal hs)⟩
theorem dt_bor {t : TDB} (h : DT X B e t) : DT X B e (dBorT t) := ⟨fun rx tk => PT.imp (h.run rx tk) fun σ H Q hl ⟨g, δ, P, S, q, k⟩ => by
  obtain ⟨S1, st1⟩ := S.frzAll hl
  refine ⟨_, _, _, S1, q, fun d δ' g' H' hp st S' => ?_⟩
  obtain ⟨rfl, hp⟩ := hp
  obtain ⟨g2, S2, st2, _⟩ := S.back2 hl S' st
  exact k d δ g2 H' hp st2 S2⟩
/-! ### methods on what a slot owns -/
def MOp (K : PySem.W.Frag) (T : String) (r : V → List V → Hp → VK → Prop) (m : Sl → List D → (Sl → D → Prop) → Prop) : Prop :=
  ∀ (B : Base) (n : Nat) (g : Gs) (H : Hp) (σ : L2.St) (δ : Env) (i : Nat) (v : V) (s : Sl) (us : List V) (ds : List D) (P : Sl → D → Prop) (Q : VK), Stt K B g H σ δ → i < n → σ[i]? = some (some v) → SlOk K g H i (some (some v)) s → Dens K g.W g.F us ds → m s ds P →
    (∀ s' d g' H' u, P s' d → Step n g H g' H' → Stt K B g' H' σ (δ.set i (some s')) → Den K g'.W g'.F u d → Q u H') → r v us H Q
def ownSl : Sl → String
  | .ol _ => "list"
  | .od _ => "dict"
  | _ => ""
/-- x.m(..) where slot i owns x -/
def dMut (i : Nat) (T : String) (m : Sl → List D → (Sl → D → Prop) → Prop) (t : TDA) : TDX := fun rx δ P =>
  (match δ[i]? with
    | some (some s) => ownSl s = T
    | _ => False) ∧ t rx δ fun ds δ1 => match δ1[i]? with
    | some (some s) => ownSl s = T ∧ m s ds fun s' d => P d (δ1.set i (some s'))
    | _ => False
theorem own_look {i : Nat} {s : Sl} {T : String} (S : Stt K B g H σ δ) (e : δ[i]? = some (some s)) (hT : ownSl s = T) (hT0 : T ≠ "") : ∃ a, σ[i]? = some (some (.ref a)) ∧ tyV K T (.ref a) H := by
  have z := S.env i s e
  cases s with
  | sh d => exact absurd hT.symm hT0
  | ol ds =>
    obtain ⟨a, xs, e1, e2, e3, r⟩ := z
    exact ⟨a, e1, .inl ⟨hT.symm, xs, SqL.of e3⟩⟩
  | od kvs =>
    obtain ⟨a, xs, e1, e2, e3, r⟩ := z
    exact ⟨a, e1, .inr (.inr (.inl ⟨hT.symm, .inl ⟨xs, e3⟩⟩))⟩
  | oi m c fs => exact absurd hT.symm hT0
variable {T id : String} {r : V → List V → Hp → VK → Prop} {m : Sl → List D → (Sl → D → Prop) → Prop} {name x : Str} {apos cpos npos : Pos} {es : List Expr} {t : TDA} {i : Nat}
theorem de_mut (hT0 : T ≠ "") (pa : PlainAttrs T) (slot : Slot T name id) (hty : typeOf (.builtin id) = pure (.type "method_descriptor")) (hm : MtR X id r) (L : MOp X.K T r m) (ho : PE X (.Name x npos) (tVar i)) (hi : i < X.N.length) (ha : DA X B (e :: es) t)
    (hbase : attributeBase (.Name x npos) name X.env (eval (.Name x npos) X.env) = eval (.Name x npos) X.env := by rfl)
    (hfew : ((backTo cpos (starEach (e :: es) X.env)).all (fun x => !x.1) && (backToKw cpos (keywordEach [] X.env)).all (fun x => x.1.isSome) && decide ((e :: es).length + ([] : List Keyword).length + (if ([] : List Keyword).isEmpty then 0 else 1) < 30)) = true := by rfl)
    (hline : (apos.endLine == cpos.line) = true := by rfl) (hs : starEach (e :: es) X.env = (false, eval e X.env) :: starEach es X.env := by rfl) (hplain : (backTo cpos (starEach es X.env)).any (·.1) = false := by rfl) :
    DE X B (.Call (.Attribute (.Name x npos) name apos) (e :: es) [] cpos) (dMut i T m t) :=
  ⟨fun rx tk => PE.imp (pe_bm pa slot hty hm ho (ha.run rx tk) hbase hfew hline hs hplain) fun σ H Q hl ⟨g, δ, P, S, ⟨q0, q⟩, k⟩ => by
    cases e0 : δ[i]? with
    | none => simp only [e0] at q0
    | some o0 =>
      cases o0 with
      | none => simp only [e0] at q0
      | some s0 =>
        simp only [e0] at q0
        obtain ⟨a, ea, ta⟩ := own_look S e0 q0 hT0
        refine ⟨.ref a, ea, ta, g, δ, _, S, q, fun ds δ1 g1 H1 us h1 st1 S1 D1 => ?_⟩
        cases e1 : δ1[i]? with
        | none => simp only [e1] at h1
        | some o1 =>
          cases o1 with
          | none => simp only [e1] at h1
          | some s1 =>
            simp only [e1] at h1
            have z := S1.env i s1 e1
            rw [ea] at z
            exact L B X.N.length g1 H1 σ δ1 i _ s1 us ds _ Q S1 hi ea z D1 h1.2 fun s' d g' H' u hp st S' r => k d _ g' H' u hp (st1.trans st) S' r⟩
theorem de_mut0 (hT0 : T ≠ "") (pa : PlainAttrs T) (slot : Slot T name id) (hty : typeOf (.builtin id) = pure (.type "method_descriptor")) (hm : MtR X id r) (L : MOp X.K T r m) (ho : PE X (.Name x npos) (tVar i)) (hi : i < X.N.length)
    (hbase : attributeBase (.Name x npos) name X.env (eval (.Name x npos) X.env) = eval (.Name x npos) X.env := by rfl) (hline : (apos.endLine == cpos.line) = true := by rfl) :
    DE X B (.Call (.Attribute (.Name x npos) name apos) [] [] cpos) (dMut i T m dNil) :=
  ⟨fun rx tk => PE.imp (pe_bm0 pa slot hty hm ho hbase hline) fun σ H Q hl ⟨g, δ, P, S, ⟨q0, q⟩, k⟩ => by
    cases e0 : δ[i]? with
    | none => simp only [e0] at q0
    | some o0 =>
      cases o0 with
      | none => simp only [e0] at q0
      | some s0 =>
        simp only [e0] at q0
        obtain ⟨a, ea, ta⟩ := own_look S e0 q0 hT0
        refine ⟨.ref a, ea, ta, ?_⟩
        unfold dNil at q
        simp only [e0] at q
        have z := S.env i s0 e0
        rw [ea] at z
        exact L B X.N.length g H σ δ i _ s0 [] [] _ Q S hi ea z .nil q.2 fun s' d g' H' u hp st S' r => k d _ g' H' u hp st S' r⟩
def mAppend : Sl → List D → (Sl → D → Prop) → Prop := fun s ds P => match s, ds with
  | .ol xs, [d] => xs.length < sizeLine ∧ P (.ol (xs ++ [d])) .non
  | _, _ => False
theorem mop_append : MOp K "list" rAppend mAppend := fun B n g H σ δ i v s us ds P Q S hi hv z r q k => by
  cases s with
  | ol xs =>
    cases r with
    | nil => exact q.elim
    | cons r1 r2 =>
      cases r2 with
      | cons _ _ => exact q.elim
      | nil =>
        obtain ⟨a, vs, e1, e2, e3, rv⟩ := z
        cases e1
        obtain ⟨S', st⟩ := S.write (s := .ol (xs ++ [_])) (o' := .lst (vs ++ [_])) e2 hi e3 trivial trivial ⟨a, _, hv, e2, upd_same, rv.append (.cons r1 .nil)⟩
        exact ⟨a, vs, _, rfl, rfl, e3, by rw [rv.length]; exact q.1, k _ _ g _ _ q.2 st S' .non⟩
  | _ => cases r <;> exact q.elim
def mPop : Sl → List D → (Sl → D → Prop) → Prop := fun s ds P => match s, ds with
  | .ol xs, [] => ∃ d, xs[xs.length - 1]? = some d ∧ P (.ol xs.dropLast) d
  | _, _ => False
theorem Dens.dropLast {W : DW} {F : Hp} {vs : List V} {ds : List D} (r : Dens K W F vs ds) : Dens K W F vs.dropLast ds.dropLast := by
  rw [List.dropLast_eq_take, List.dropLast_eq_take, r.length]
  exact r.take _
theorem mop_pop : MOp K "list" rPop mPop := fun B n g H σ δ i v s us ds P Q S hi hv z r q k => by
  cases s with
  | ol xs =>
    cases r with
    | cons _ _ => exact q.elim
    | nil =>
      obtain ⟨a, vs, e1, e2, e3, rv⟩ := z
      cases e1
      obtain ⟨d, ed, q⟩ := q
      obtain ⟨u, eu, ru⟩ := rv.get ed
      obtain ⟨S', st⟩ := S.write (s := .ol xs.dropLast) (o' := .lst vs.dropLast) e2 hi e3 trivial trivial ⟨a, _, hv, e2, upd_same, rv.dropLast⟩
      exact ⟨a, vs, u, rfl, rfl, e3, by rw [rv.length]; exact eu, k _ _ g _ _ q st S' ru⟩
  | _ => cases r <;> exact q.elim
def mPopAt : Sl → List D → (Sl → D → Prop) → Prop := fun s ds P => match s, ds with
  | .ol xs, [.int i] => (-(2 ^ 63) ≤ i ∧ i < 2 ^ 63) ∧ ∃ k d, seqIndex? i xs.length = some k ∧ xs[k]? = some d ∧ P (.ol (xs.eraseIdx k)) d
  | _, _ => False
theorem Dens.eraseIdx {W : DW} {F : Hp} : ∀ {vs : List V} {ds : List D} (k : Nat), Dens K W F vs ds → Dens K W F (vs.eraseIdx k) (ds.eraseIdx k)
  | _, _, _, .nil => .nil
  | _, _, 0, .cons r t => t
  | _, _, k + 1, .cons r t => .cons r (Dens.eraseIdx k t)
theorem mop_popAt : MOp K "list" rPopAt mPopAt := fun B n g H σ δ i v s us ds P Q S hi hv z r q k => by
  cases s with
  | ol xs =>
    cases r with
    | nil => exact q.elim
    | cons r1 r2 =>
      cases r2 with
      | cons _ _ => cases r1 <;> exact q.elim
      | nil =>
        cases r1 with
        | int j =>
          obtain ⟨a, vs, e1, e2, e3, rv⟩ := z
          cases e1
          obtain ⟨⟨b1, b2⟩, kk, d, ek, ed, q⟩ := q
          obtain ⟨u, eu, ru⟩ := rv.get ed
          obtain ⟨S', st⟩ := S.write (s := .ol (xs.eraseIdx kk)) (o' := .lst (vs.eraseIdx kk)) e2 hi e3 trivial trivial ⟨a, _, hv, e2, upd_same, rv.eraseIdx kk⟩
          exact ⟨a, vs, j, kk, u, rfl, rfl, e3, b1, b2, by rw [rv.length]; exact ek, eu, k _ _ g _ _ q st S' ru⟩
        | _ => exact q.elim
  | _ => cases r <;> exact q.elim
/-- x[k] = v where slot i owns the list x -/
def dSetIx (i : Nat) (tv tk : TDX) : TDS := fun rx DE δ => tv rx δ fun d δ1 => tk rx δ1 fun ix δ2 => match ix, δ2[i]? with
  | .int k, some (some (.ol xs)) => ∃ j, ixN xs.length k = some j ∧ DE.nx (δ2.set i (some (.ol (xs.set j d))))
  | _, _ => False
end
end DL

namespace DL
open PySem PySem.Spec L2
open PyProof.Rows hiding St
/-! ### operators -/
section
variable {K : PySem.W.Frag} {B : Base} {g gp : Gs} {H : Hp} {σ : L2.St} {δ : Env} {n : Nat} {X : Cx} {e a b : Expr} {ta tb : TDX} {pos : Pos}
def LiftF2 (K : PySem.W.Frag) (r : R2) (rD : D → D → (Sl → Prop) → Prop) : Prop := ∀ (B : Base) (n : Nat) (g0 : Gs) (H0 : Hp) (δ0 : Env) (g : Gs) (H : Hp) (σ : L2.St) (δ : Env) (x y : V) (d1 d2 : D) (P : Sl → Prop) (Q : VK), Stt K B g0 H0 σ δ0 → Step n g0 H0 g H → Stt K B g H σ δ →
  Den K g.W g.F x d1 → Den K g.W g.F y d2 → rD d1 d2 P → (∀ s g' H' v, P s → Step n g0 H0 g' H' → Stt K B g' H' σ δ → ItOk K n g0 g' H' v s → Q v H') → r x y H Q
def f2 (rD : D → D → (Sl → Prop) → Prop) (ta tb : TDX) : TDF := fun rx δ P => ta rx δ fun x δ1 => tb rx δ1 fun y δ2 => rD x y fun z => P z δ2
theorem df_op {op : Operator} {r : R2} {rD : D → D → (Sl → Prop) → Prop} (ho : OpR X (binaryOp op) r) (L : LiftF2 X.K r rD) (ha : DE X B a ta) (hb : DE X B b tb) : DF X B (.BinOp a op b pos) (f2 rD ta tb) :=
  ⟨fun rx tk => PE.imp (pe_op ho (ha.run rx tk) (hb.run rx tk)) fun σ H Q hl ⟨g, δ, P, S, q, k⟩ => ⟨g, δ, _, S, q, fun d1 δ1 g1 H1 v1 h1 st1 S1 D1 => ⟨g1, δ1, _, S1, h1, fun d2 δ2 g2 H2 v2 h2 st2 S2 D2 =>
    L B _ g H δ g2 H2 σ δ2 v1 v2 d1 d2 _ Q S (st1.trans st2) S2 (D1.step st2) D2 h2 fun s g' H' v hp st S' it => k s δ2 g' H' v hp st S' it⟩⟩⟩
/-- a + b -/
def addF (x y : D) (P : Sl → Prop) : Prop := match x, y with
  | .int i, .int j => P (.sh (.int (i + j)))
  | .str u, .str v => u.length + v.length ≤ sizeLine ∧ P (.sh (.str (u ++ v)))
  | .lst xs, .lst ys => xs.length + ys.length ≤ sizeLine ∧ P (.ol (xs ++ ys))
  | .tup xs, .tup ys => xs.length + ys.length ≤ sizeLine ∧ P (.sh (.tup (xs ++ ys)))
  | _, _ => False
def rAddA (K : PySem.W.Frag) : R2 := fun x y H Q => rI0 (fun i j => .int (i + j)) x y H Q ∨ (∃ i j, x = .str i ∧ y = .str j ∧ i.length + j.length ≤ sizeLine ∧ Q (.str (i ++ j)) H) ∨ rCat x y H Q ∨ rCatA K x y H Q
theorem op_addA : OpR X (binaryOp .Add) (rAddA X.K) := op_add.or (op_add_str.or (op_cat.or op_catA))
theorem nil_of {W : DW} {F : Hp} {vs : List V} {ds : List D} (r : Dens K W F vs ds) : vs = [] ↔ ds = [] := by
  cases r <;> simp
theorem lf_add : LiftF2 K (rAddA K) addF := fun B n g0 H0 δ0 g H σ δ x y d1 d2 P Q S0 st S r1 r2 q k => by
  cases r1 with
  | int i =>
    cases r2 with
    | int j => exact .inl ⟨i, j, rfl, rfl, k _ g H _ q st S (.int _)⟩
    | _ => exact q.elim
  | str u =>
    cases r2 with
    | str v => exact .inr (.inl ⟨u, v, rfl, rfl, q.1, k _ g H _ q.2 st S (.str _)⟩)
    | _ => exact q.elim
  | @lst a xs ds h rs =>
    cases r2 with
    | @lst b ys es h2 rs2 =>
      refine .inr (.inr (.inl ⟨a, b, xs, ys, rfl, rfl, S.ret.sub _ _ h, S.ret.sub _ _ h2, by rw [rs.length, rs2.length]; exact q.1, fun p hp => ?_⟩))
      obtain ⟨g2, st2, S2, it⟩ := S.newL st S0 hp (rs.append rs2)
      exact k _ g2 _ _ q.2 st2 S2 it
    | _ => exact q.elim
  | @tup a xs ds h rs =>
    cases r2 with
    | @tup b ys es h2 rs2 =>
      refine .inr (.inr (.inr ⟨a, b, xs, ys, rfl, rfl, SqT.up S.ret.sub h, SqT.up S.ret.sub h2, by rw [rs.length, rs2.length]; exact q.1, fun e => ?_, fun e1 e2 => ?_, fun e1 e2 p hp => ?_⟩))
      · subst e
        cases rs
        exact k _ g H _ q.2 st S (.tup h2 rs2)
      · subst e2
        cases rs2
        refine k _ g H _ q.2 st S (.tup h ?_)
        rw [List.append_nil]; exact rs
      · obtain ⟨S2, st2⟩ := S.alloc (n := n) (o := .tup (xs ++ ys)) hp
        exact k _ _ _ _ q.2 (st.trans st2) S2 (.tup (.inl (.inl upd_same)) ((rs.append rs2).step st2))
    | _ => exact q.elim
  | _ => cases r2 <;> exact q.elim
theorem df_add (ha : DE X B a ta) (hb : DE X B b tb) : DF X B (.BinOp a .Add b pos) (f2 addF ta tb) := df_op op_addA lf_add ha hb
/-- a * b -/
def mulF (x y : D) (P : Sl → Prop) : Prop := match x, y with
  | .int i, .int j => CMul i j ∧ P (.sh (.int (i * j)))
  | .lst xs, .int k => (-(2 ^ 63) ≤ k ∧ k < 2 ^ 63 ∧ xs.length * k.toNat ≤ sizeLine) ∧ P (.ol (List.replicate k.toNat xs).flatten)
  | _, _ => False
theorem Dens.flat {W : DW} {F : Hp} {vs : List V} {ds : List D} (r : Dens K W F vs ds) : ∀ m : Nat, Dens K W F (List.replicate m vs).flatten (List.replicate m ds).flatten
  | 0 => .nil
  | m + 1 => by
    rw [List.replicate_succ, List.replicate_succ, List.flatten_cons, List.flatten_cons]
    exact r.append (Dens.flat r m)
theorem lf_mul : LiftF2 K (fun x y H Q => rI CMul (fun i j => .int (i * j)) x y H Q ∨ rRep x y H Q) mulF := fun B n g0 H0 δ0 g H σ δ x y d1 d2 P Q S0 st S r1 r2 q k => by
  cases r1 with
  | int i =>
    cases r2 with
    | int j => exact .inl ⟨i, j, rfl, rfl, q.1, k _ g H _ q.2 st S (.int _)⟩
    | _ => exact q.elim
  | @lst a xs ds h rs =>
    cases r2 with
    | int j =>
      obtain ⟨⟨b1, b2, b3⟩, q⟩ := q
      refine .inr ⟨a, j, xs, rfl, rfl, S.ret.sub _ _ h, b1, b2, by rw [rs.length]; exact b3, fun p hp => ?_⟩
      obtain ⟨g2, st2, S2, it⟩ := S.newL st S0 hp (rs.flat j.toNat)
      exact k _ g2 _ _ q st2 S2 it
    | _ => exact q.elim
  | _ => cases r2 <;> exact q.elim
theorem df_mul (ha : DE X B a ta) (hb : DE X B b tb) : DF X B (.BinOp a .Mult b pos) (f2 mulF ta tb) := df_op (op_mul.or op_rep) lf_mul ha hb
/-! ints in, a scalar out -/
def i2 (C : Int → Int → Prop) (f : Int → Int → D) (x y : D) (P : D → Prop) : Prop := match x, y with
  | .int i, .int j => C i j ∧ P (f i j)
  | _, _ => False
theorem l_i2 {C : Int → Int → Prop} {f : Int → Int → V} {fD : Int → Int → D} (h : ∀ i j W F, Den K W F (f i j) (fD i j)) : Lift2 K (rI C f) (i2 C fD) := fun B n g H σ δ x y d1 d2 P Q S r1 r2 q k => by
  cases r1 with
  | int i =>
    cases r2 with
    | int j => exact ⟨i, j, rfl, rfl, q.1, k _ g H _ q.2 (Step.refl _ _ _) S (h i j _ _)⟩
    | _ => exact q.elim
  | _ => cases r2 <;> exact q.elim
def i20 (f : Int → Int → D) (x y : D) (P : D → Prop) : Prop := match x, y with
  | .int i, .int j => P (f i j)
  | _, _ => False
theorem l_i20 {f : Int → Int → V} {fD : Int → Int → D} (h : ∀ i j W F, Den K W F (f i j) (fD i j)) : Lift2 K (rI0 f) (i20 fD) := fun B n g H σ δ x y d1 d2 P Q S r1 r2 q k => by
  cases r1 with
  | int i =>
    cases r2 with
    | int j => exact ⟨i, j, rfl, rfl, k _ g H _ q (Step.refl _ _ _) S (h i j _ _)⟩
    | _ => exact q.elim
  | _ => cases r2 <;> exact q.elim
def subD := i20 fun i j => .int (i - j)
def modD := i2 (fun _ j => 0 < j) fun i j => .int (i % j)
def fdivD := i2 CDiv fun i j => .int (i / j)
def powD := i2 CPow fun i j => .int (i ^ j.toNat)
def ltD := i20 fun i j => .bl (decide (i < j))
def leD := i20 fun i j => .bl (decide (i ≤ j))
def gtD := i20 fun i j => .bl (decide (j < i))
def geD := i20 fun i j => .bl (decide (j ≤ i))
theorem de_sub (ha : DE X B a ta) (hb : DE X B b tb) : DE X B (.BinOp a .Sub b pos) (d2 subD ta tb) := de_op op_sub (l_i20 fun _ _ _ _ => .int _) ha hb
theorem de_mod (ha : DE X B a ta) (hb : DE X B b tb) : DE X B (.BinOp a .Mod b pos) (d2 modD ta tb) := de_op op_mod (l_i2 fun _ _ _ _ => .int _) ha hb
theorem de_fdiv (ha : DE X B a ta) (hb : DE X B b tb) : DE X B (.BinOp a .FloorDiv b pos) (d2 fdivD ta tb) := de_op op_fdiv (l_i2 fun _ _ _ _ => .int _) ha hb
theorem de_pow (ha : DE X B a ta) (hb : DE X B b tb) : DE X B (.BinOp a .Pow b pos) (d2 powD ta tb) := de_op op_pow (l_i2 fun _ _ _ _ => .int _) ha hb
theorem l_lt : Lift2 K (rI0 fun i j => .bl (decide (i < j))) ltD := l_i20 fun _ _ _ _ => .bl _
theorem l_le : Lift2 K (rI0 fun i j => .bl (decide (i ≤ j))) leD := l_i20 fun _ _ _ _ => .bl _
theorem l_gt : Lift2 K (rI0 fun i j => .bl (decide (j < i))) gtD := l_i20 fun _ _ _ _ => .bl _
theorem l_ge : Lift2 K (rI0 fun i j => .bl (decide (j ≤ i))) geD := l_i20 fun _ _ _ _ => .bl _
def negD (x : D) (P : D → Prop) : Prop := match x with
  | .int i => P (.int (-i))
  | _ => False
theorem l_neg : Lift1 K (rU fun i => .int (-i)) negD := fun B n g H σ δ x d1 P Q S r1 q k => by
  cases r1 with
  | int i => exact ⟨i, rfl, k _ g H _ q (Step.refl _ _ _) S (.int _)⟩
  | _ => exact q.elim
theorem de_neg (ha : DE X B a ta) : DE X B (.UnaryOp .USub a pos) (d1 negD ta) := de_un un_neg l_neg ha
/-! ### data compared -/
mutual
def toPD : D → Option PyData
  | .non => some .none
  | .bl b => some (.bool b)
  | .int i => some (.int i)
  | .str x => some (.str x)
  | .lst xs => (toPDs xs).map .list
  | .kls xs => (toPDs xs).map .list
  | .tup xs => (toPDs xs).map .tuple
  | _ => none
def toPDs : List D → Option (List PyData)
  | [] => some []
  | d :: ds => match toPD d, toPDs ds with
    | some p, some ps => some (p :: ps)
    | _, _ => none
end
mutual
theorem Den.dp {W : DW} {F H : Hp} (u : Up F H) : ∀ {v : V} {d : D} {p : PyData}, Den K W F v d → toPD d = some p → Dp K H v p
  | _, _, _, .non, e => by cases e; exact .non
  | _, _, _, .bl b, e => by cases e; exact .bl b
  | _, _, _, .int i, e => by cases e; exact .int i
  | _, _, _, .str x, e => by cases e; exact .str x
  | _, _, _, .lst (ds := ds) h r, e => by
    unfold toPD at e
    cases q : toPDs ds with
    | none => rw [q] at e; cases e
    | some ps =>
      rw [q] at e
      cases e
      exact .lst (SqL.of (u _ _ h)) (Dens.dp u r q)
  | _, _, _, .kls (ds := ds) h r, e => by
    unfold toPD at e
    cases q : toPDs ds with
    | none => rw [q] at e; cases e
    | some ps =>
      rw [q] at e
      cases e
      exact .lst (SqL.up u h) (Dens.dp u r q)
  | _, _, _, .tup (ds := ds) h r, e => by
    unfold toPD at e
    cases q : toPDs ds with
    | none => rw [q] at e; cases e
    | some ps =>
      rw [q] at e
      cases e
      exact .tup (SqT.up u h) (Dens.dp u r q)
  | _, _, _, .ty n, e => by cases e
  | _, _, _, .glo x, e => by cases e
  | _, _, _, .dct _ _ _, e => by cases e
  | _, _, _, .ob _ _ _, e => by cases e
  | _, _, _, .exc0 _, e => by cases e
  | _, _, _, .exc1 _ _ _ _, e => by cases e
  | _, _, _, .drw _, e => by cases e
  | _, _, _, .adr _, e => by cases e
theorem Dens.dp {W : DW} {F H : Hp} (u : Up F H) : ∀ {vs : List V} {ds : List D} {ps : List PyData}, Dens K W F vs ds → toPDs ds = some ps → DpAll K H vs ps
  | _, _, _, .nil, e => by cases e; exact .nil
  | _, _, _, .cons (d := d) (ds := ds) r t, e => by
    unfold toPDs at e
    cases q : toPD d with
    | none => rw [q] at e; cases e
    | some p =>
      cases q2 : toPDs ds with
      | none => rw [q, q2] at e; cases e
      | some ps =>
        rw [q, q2] at e
        cases e
        exact .cons (Den.dp u r q) (Dens.dp u t q2)
end
/-- a == b of data -/
def eqD (x y : D) (P : D → Prop) : Prop := ∃ p q, toPD x = some p ∧ toPD y = some q ∧ SeqAt.shaped p = true ∧ SeqAt.shaped q = true ∧ P (.bl (PyData.eqv p q))
def neD (x y : D) (P : D → Prop) : Prop := ∃ p q, toPD x = some p ∧ toPD y = some q ∧ SeqAt.shaped p = true ∧ SeqAt.shaped q = true ∧ P (.bl (!PyData.eqv p q))
theorem l_eq : Lift2 K (rEqD K) eqD := fun B n g H σ δ x y d1 d2 P Q S r1 r2 ⟨p, q, e1, e2, h1, h2, hp⟩ k => ⟨p, q, r1.dp S.ret.sub e1, r2.dp S.ret.sub e2, h1, h2, k _ g H _ hp (Step.refl _ _ _) S (.bl _)⟩
theorem l_ne : Lift2 K (rNeD K) neD := fun B n g H σ δ x y d1 d2 P Q S r1 r2 ⟨p, q, e1, e2, h1, h2, hp⟩ k => ⟨p, q, r1.dp S.ret.sub e1, r2.dp S.ret.sub e2, h1, h2, k _ g H _ hp (Step.refl _ _ _) S (.bl _)⟩
/-- is None, is not None -/
def isN (x : D) : Bool := match x with
  | .non => true
  | _ => false
def isD (x y : D) (P : D → Prop) : Prop := match y with
  | .non => P (.bl (isN x))
  | _ => False
def isnD (x y : D) (P : D → Prop) : Prop := match y with
  | .non => P (.bl (!isN x))
  | _ => False
theorem den_non {W : DW} {F : Hp} {v : V} {d : D} (r : Den K W F v d) : decide (v = .non) = isN d := by cases r <;> simp [isN]
theorem l_is : Lift2 K (fun x y H Q => y = .non ∧ Q (.bl (decide (x = .non))) H) isD := fun B n g H σ δ x y d1 d2 P Q S r1 r2 q k => by
  cases r2 with
  | non => exact ⟨rfl, by rw [den_non r1]; exact k _ g H _ q (Step.refl _ _ _) S (.bl _)⟩
  | _ => exact q.elim
theorem l_isn : Lift2 K (fun x y H Q => y = .non ∧ Q (.bl (!decide (x = .non))) H) isnD := fun B n g H σ δ x y d1 d2 P Q S r1 r2 q k => by
  cases r2 with
  | non => exact ⟨rfl, by rw [den_non r1]; exact k _ g H _ q (Step.refl _ _ _) S (.bl _)⟩
  | _ => exact q.elim
/-! ### in -/
def keyD : D → Option Key
  | .int i => some (.inl i)
  | .str x => some (.inr x)
  | _ => none
theorem Den.key {W : DW} {F : Hp} {v : V} {d : D} {k : Key} (r : Den K W F v d) (e : keyD d = some k) : v = kV k := by
  cases r <;> cases e <;> rfl
def valD (kvs : List (Key × D)) (k : Key) : Option D := (kvs.find? fun kv => decide (kv.1 = k)).map (·.2)
theorem valD_rel {W : DW} {F : Hp} {k : Key} : ∀ {ks : List (Key × V)} {kvs : List (Key × D)}, ks.map (·.1) = kvs.map (·.1) → Dens K W F (ks.map (·.2)) (kvs.map (·.2)) →
    (valV ks k = none ∧ valD kvs k = none) ∨ ∃ v d, valV ks k = some v ∧ valD kvs k = some d ∧ Den K W F v d
  | [], [], _, _ => .inl ⟨rfl, rfl⟩
  | [], _ :: _, e, _ => by cases e
  | _ :: _, [], e, _ => by cases e
  | (k1, v1) :: ks, (k2, d2) :: kvs, e, r => by
    simp only [List.map_cons, List.cons.injEq] at e r
    obtain ⟨e1, e2⟩ := e
    cases r with
    | cons r1 r2 =>
      subst e1
      by_cases h : k1 = k
      · exact .inr ⟨v1, d2, by simp [valV, h], by simp [valD, h], r1⟩
      · rcases valD_rel (k := k) e2 r2 with ⟨h1, h2⟩ | ⟨v, d, h1, h2, r3⟩
        · refine .inl ⟨?_, ?_⟩
          · rw [← h1]; simp [valV, h]
          · rw [← h2]; simp [valD, h]
        · refine .inr ⟨v, d, ?_, ?_, r3⟩
          · rw [← h1]; simp [valV, h]
          · rw [← h2]; simp [valD, h]
def inB (f : Bool → Bool) (x y : D) (P : D → Prop) : Prop := match y with
  | .dct kvs => ∃ k, keyD x = some k ∧ P (.bl (f (valD kvs k).isSome))
  | .lst ds => ∃ p ps, toPD x = some p ∧ toPDs ds = some ps ∧ SeqAt.shaped p = true ∧ SeqAt.shaped (.list ps) = true ∧ P (.bl (f (ps.any fun z => PyData.eqv z p)))
  | .kls ds => ∃ p ps, toPD x = some p ∧ toPDs ds = some ps ∧ SeqAt.shaped p = true ∧ SeqAt.shaped (.list ps) = true ∧ P (.bl (f (ps.any fun z => PyData.eqv z p)))
  | _ => False
theorem op_inK (hu : X.A.units + 1 < cLine) : OpR X (compareOp .In) (fun y x H Q => ∃ a ov, x = .ref a ∧ DGet H a y ov ∧ Q (.bl ov.isSome) H) := by
  intro pins s σ H y x u v Q I ry rx h
  obtain ⟨a, ov, rfl, gg, q⟩ := h
  cases rx
  exact d_in hu I gg ry fun s3 I3 => ⟨.bl ov.isSome, H, I3, rfl, q⟩
theorem op_notInK (hu : X.A.units + 1 < cLine) : OpR X (compareOp .NotIn) (fun y x H Q => ∃ a ov, x = .ref a ∧ DGet H a y ov ∧ Q (.bl (!ov.isSome)) H) := by
  intro pins s σ H y x u v Q I ry rx h
  obtain ⟨a, ov, rfl, gg, q⟩ := h
  cases rx
  exact d_notIn hu I gg ry fun s3 I3 => ⟨.bl (!ov.isSome), H, I3, rfl, q⟩
theorem l_in : Lift2 K (fun x y H Q => (∃ a ov, y = .ref a ∧ DGet H a x ov ∧ Q (.bl ov.isSome) H) ∨ rInD K x y H Q) (inB fun b => b) := fun B n g H σ δ x y d1 d2 P Q S r1 r2 q k => by
  cases r2 with
  | @dct a ks kvs h hk rs =>
    obtain ⟨key, ek, q⟩ := q
    refine .inl ⟨a, valV ks key, rfl, .inl ⟨ks, key, .inl (S.ret.sub _ _ h), r1.key ek, rfl⟩, k _ g H _ q (Step.refl _ _ _) S ?_⟩
    rcases valD_rel (k := key) hk rs with ⟨h1, h2⟩ | ⟨v, d, h1, h2, _⟩
    · rw [h1, h2]; exact .bl _
    · rw [h1, h2]; exact .bl _
  | @lst a xs ds h rs =>
    obtain ⟨p, ps, e1, e2, h1, h2, q⟩ := q
    refine .inr ⟨p, ps, r1.dp S.ret.sub e1, .lst (SqL.of (S.ret.sub _ _ h)) (rs.dp S.ret.sub e2), h1, h2, k _ g H _ q (Step.refl _ _ _) S ?_⟩
    exact .bl _
  | @kls a xs ds h rs =>
    obtain ⟨p, ps, e1, e2, h1, h2, q⟩ := q
    refine .inr ⟨p, ps, r1.dp S.ret.sub e1, .lst (SqL.up S.ret.sub h) (rs.dp S.ret.sub e2), h1, h2, k _ g H _ q (Step.refl _ _ _) S ?_⟩
    exact .bl _
  | _ => exact q.elim
theorem l_notIn : Lift2 K (fun x y H Q => (∃ a ov, y = .ref a ∧ DGet H a x ov ∧ Q (.bl (!ov.isSome)) H) ∨ rNotInD K x y H Q) (inB not) := fun B n g H σ δ x y d1 d2 P Q S r1 r2 q k => by
  cases r2 with
  | @dct a ks kvs h hk rs =>
    obtain ⟨key, ek, q⟩ := q
    refine .inl ⟨a, valV ks key, rfl, .inl ⟨ks, key, .inl (S.ret.sub _ _ h), r1.key ek, rfl⟩, k _ g H _ q (Step.refl _ _ _) S ?_⟩
    rcases valD_rel (k := key) hk rs with ⟨h1, h2⟩ | ⟨v, d, h1, h2, _⟩
    · rw [h1, h2]; exact .bl _
    · rw [h1, h2]; exact .bl _
  | @lst a xs ds h rs =>
    obtain ⟨p, ps, e1, e2, h1, h2, q⟩ := q
    refine .inr ⟨p, ps, r1.dp S.ret.sub e1, .lst (SqL.of (S.ret.sub _ _ h)) (rs.dp S.ret.sub e2), h1, h2, k _ g H _ q (Step.refl _ _ _) S ?_⟩
    exact .bl _
  | @kls a xs ds h rs =>
    obtain ⟨p, ps, e1, e2, h1, h2, q⟩ := q
    refine .inr ⟨p, ps, r1.dp S.ret.sub e1, .lst (SqL.up S.ret.sub h) (rs.dp S.ret.sub e2), h1, h2, k _ g H _ q (Step.refl _ _ _) S ?_⟩
    exact .bl _
  | _ => exact q.elim
theorem op_inA (hu : X.A.units + 65 < cLine) : OpR X (compareOp .In) (fun x y H Q => (∃ a ov, y = .ref a ∧ DGet H a x ov ∧ Q (.bl ov.isSome) H) ∨ rInD X.K x y H Q) := (op_inK (by omega)).or (op_inD hu)
theorem op_notInA (hu : X.A.units + 65 < cLine) : OpR X (compareOp .NotIn) (fun x y H Q => (∃ a ov, y = .ref a ∧ DGet H a x ov ∧ Q (.bl (!ov.isSome)) H) ∨ rNotInD X.K x y H Q) := (op_notInK (by omega)).or (op_notInD hu)
theorem Rm.u64 {k : Nat} {A : Around} (r : Rm k A) : A.units + 64 < cLine := r.room.units
theorem Rm.u65 {k : Nat} {A : Around} (r : Rm k A) : A.units + 65 < cLine := by have := r.room.un; omega
theorem Rm.u1 {k : Nat} {A : Around} (r : Rm k A) : A.units + 1 < cLine := by have := r.room.un; omega
/-! ### items -/
def ixD (x y : D) (P : D → Prop) : Prop := match x, y with
  | .lst xs, .int i => ∃ d, atI xs i = some d ∧ P d
  | .kls xs, .int i => ∃ d, atI xs i = some d ∧ P d
  | .tup xs, .int i => ∃ d, atI xs i = some d ∧ P d
  | .str z, .int i => ∃ c, z.length ≤ sizeLine ∧ atI z.cps.toList i = some c ∧ P (.str ⟨#[c]⟩)
  | .dct kvs, k => ∃ key d, keyD k = some key ∧ valD kvs key = some d ∧ P d
  | _, _ => False
theorem atI_rel {W : DW} {F : Hp} {vs : List V} {ds : List D} {i : Int} {d : D} (r : Dens K W F vs ds) (h : atI ds i = some d) : ∃ v, atI vs i = some v ∧ Den K W F v d := by
  obtain ⟨j, h1, h2, h3, h4, h5⟩ := atI_get h
  obtain ⟨v, e, r1⟩ := r.get h2
  refine ⟨v, ?_, r1⟩
  unfold atI at h ⊢
  rw [r.length]
  cases q : ixN ds.length i with
  | none => rw [q] at h; cases h
  | some j' =>
    have := (ixN_seq q).1
    rw [h1] at this
    cases this
    exact e
theorem ix_dict (hu : X.A.units + 1 < cLine) : IxR X (fun x y H Q => ∃ a v, x = .ref a ∧ DGet H a y (some v) ∧ Q v H) := by
  intro value slice pins s σ H x y v u Q I rx ry h hs
  obtain ⟨a, w', rfl, gg, q⟩ := h
  cases rx
  exact tail_any (dict_typeIs I gg) PySem.F.slot_dict_getitem.lookup (d_getItem hu I gg ry fun r s' I' rr => ⟨w', H, I', rr, q⟩) hs
def rIxAll (K : PySem.W.Frag) : R2 := fun x y H Q => (∃ a v, x = .ref a ∧ DGet H a y (some v) ∧ Q v H) ∨ rIx K x y H Q
theorem ix_all (hu : X.A.units + 1 < cLine) : IxR X (rIxAll X.K) := (ix_dict hu).or ix_seq
theorem l_ix : Lift2 K (rIxAll K) ixD := fun B n g H σ δ x y d1 d2 P Q S r1 r2 q k => by
  cases r1 with
  | @lst a xs ds h rs =>
    cases r2 with
    | int i =>
      obtain ⟨d, e, q⟩ := q
      obtain ⟨v, ev, rv⟩ := atI_rel rs e
      exact .inr (.inl ⟨a, xs, i, v, rfl, rfl, SqL.of (S.ret.sub _ _ h), ev, k _ g H _ q (Step.refl _ _ _) S rv⟩)
    | _ => exact q.elim
  | @kls a xs ds h rs =>
    cases r2 with
    | int i =>
      obtain ⟨d, e, q⟩ := q
      obtain ⟨v, ev, rv⟩ := atI_rel rs e
      exact .inr (.inl ⟨a, xs, i, v, rfl, rfl, SqL.up S.ret.sub h, ev, k _ g H _ q (Step.refl _ _ _) S rv⟩)
    | _ => exact q.elim
  | @tup a xs ds h rs =>
    cases r2 with
    | int i =>
      obtain ⟨d, e, q⟩ := q
      obtain ⟨v, ev, rv⟩ := atI_rel rs e
      exact .inr (.inr (.inl ⟨a, xs, i, v, rfl, rfl, SqT.up S.ret.sub h, ev, k _ g H _ q (Step.refl _ _ _) S rv⟩))
    | _ => exact q.elim
  | str z =>
    cases r2 with
    | int i =>
      obtain ⟨c, hz, e, q⟩ := q
      exact .inr (.inr (.inr ⟨z, i, c, rfl, rfl, hz, e, k _ g H _ q (Step.refl _ _ _) S (.str _)⟩))
    | _ => exact q.elim
  | @dct a ks kvs h hk rs =>
    have q : ∃ key d, keyD d2 = some key ∧ valD kvs key = some d ∧ P d := by
      cases r2 <;> exact q
    obtain ⟨key, d, ek, ed, q⟩ := q
    rcases valD_rel (k := key) hk rs with ⟨h1, h2⟩ | ⟨v, d', h1, h2, rv⟩
    · rw [h2] at ed; cases ed
    · rw [h2] at ed
      cases ed
      exact .inl ⟨a, v, rfl, .inl ⟨ks, key, .inl (S.ret.sub _ _ h), r2.key ek, h1.symm⟩, k _ g H _ q (Step.refl _ _ _) S rv⟩
  | _ => cases r2 <;> exact q.elim
/-! ### built-ins -/
theorem lc_1 {r : V → Hp → VK → Prop} {rD : D → (D → Prop) → Prop} (h : ∀ (B : Base) (n : Nat) (g : Gs) (H : Hp) (σ : L2.St) (δ : Env) (x : V) (d : D) (P : D → Prop) (Q : VK), Stt K B g H σ δ → Den K g.W g.F x d → rD d P → (∀ d g' H' v, P d → Step n g H g' H' → Stt K B g' H' σ δ → Den K g'.W g'.F v d → Q v H') → r x H Q) :
    LiftC K (fun xs H Q => ∃ x, xs = [x] ∧ r x H Q) (fun ds P => match ds with
      | [d] => rD d P
      | _ => False) := fun B n g H σ δ xs ds P Q S rs q k => by
  cases rs with
  | nil => exact q.elim
  | cons r1 r2 =>
    cases r2 with
    | nil => exact ⟨_, rfl, h B n g H σ δ _ _ P Q S r1 q k⟩
    | cons _ _ => exact q.elim
def lenD (ds : List D) (P : D → Prop) : Prop := match ds with
  | [.lst xs] => P (.int xs.length)
  | [.kls xs] => P (.int xs.length)
  | [.tup xs] => P (.int xs.length)
  | [.dct xs] => P (.int xs.length)
  | [.str z] => z.length ≤ sizeLine ∧ P (.int z.length)
  | _ => False
def rLenA (K : PySem.W.Frag) : List V → Hp → VK → Prop := fun xs H Q => (∃ x n, xs = [x] ∧ LenV K x H n ∧ Q (.int n) H) ∨ ∃ a kvs, xs = [V.ref a] ∧ H a = some (.dK kvs) ∧ Q (.int kvs.length) H
theorem CallR.or {f : Value} {r r' : List V → Hp → VK → Prop} (h : CallR X f r) (h' : CallR X f r') : CallR X f (fun xs H Q => r xs H Q ∨ r' xs H Q) := by
  intro pins s σ H xs us Q I rx q
  rcases q with q | q
  · exact h pins s σ H xs us Q I rx q
  · exact h' pins s σ H xs us Q I rx q
theorem call_lenA : CallR X (.builtin "len") (rLenA X.K) := CallR.or call_len call_lenD
end
end DL

namespace DL
open PySem PySem.Spec L2
open PyProof.Rows hiding St
section
variable {K : PySem.W.Frag} {B : Base} {g gp : Gs} {H : Hp} {σ : L2.St} {δ : Env} {n : Nat} {X : Cx} {e a b : Expr} {ta tb : TDX} {pos : Pos}
/-! ### calls of built-ins, the argument list known by its data -/
theorem lc_len : LiftC K (rLenA K) lenD := fun B n g H σ δ xs ds P Q S rs q k => by
  cases rs with
  | nil => exact q.elim
  | cons r1 r2 =>
    cases r2 with
    | cons _ _ => cases r1 <;> exact q.elim
    | nil =>
      cases r1 with
      | @lst a vs ds h rs => exact .inl ⟨_, vs.length, rfl, .inl ⟨vs, SqL.of (S.ret.sub _ _ h), rfl⟩, by rw [rs.length]; exact k _ g H _ q (Step.refl _ _ _) S (.int _)⟩
      | @kls a vs ds h rs => exact .inl ⟨_, vs.length, rfl, .inl ⟨vs, SqL.up S.ret.sub h, rfl⟩, by rw [rs.length]; exact k _ g H _ q (Step.refl _ _ _) S (.int _)⟩
      | @tup a vs ds h rs => exact .inl ⟨_, vs.length, rfl, .inr ⟨vs, SqT.up S.ret.sub h, rfl⟩, by rw [rs.length]; exact k _ g H _ q (Step.refl _ _ _) S (.int _)⟩
      | @dct a ks kvs h hk rs =>
        refine .inr ⟨a, ks, rfl, S.ret.sub _ _ h, ?_⟩
        have hl : ks.length = kvs.length := by have := congrArg List.length hk; simpa using this
        rw [hl]; exact k _ g H _ q (Step.refl _ _ _) S (.int _)
      | str z => exact .inl ⟨_, z.length, rfl, ⟨q.1, rfl⟩, k _ g H _ q.2 (Step.refl _ _ _) S (.int _)⟩
      | _ => exact q.elim
/-- new things handed back by built-ins -/
def LiftFC (K : PySem.W.Frag) (r : List V → Hp → VK → Prop) (rD : List D → (Sl → Prop) → Prop) : Prop := ∀ (B : Base) (n : Nat) (g0 : Gs) (H0 : Hp) (δ0 : Env) (g : Gs) (H : Hp) (σ : L2.St) (δ : Env) (xs : List V) (ds : List D) (P : Sl → Prop) (Q : VK), Stt K B g0 H0 σ δ0 → Step n g0 H0 g H → Stt K B g H σ δ →
  Dens K g.W g.F xs ds → rD ds P → (∀ s g' H' v, P s → Step n g0 H0 g' H' → Stt K B g' H' σ δ → ItOk K n g0 g' H' v s → Q v H') → r xs H Q
def fCB (rD : List D → (Sl → Prop) → Prop) (t : TDA) : TDF := fun rx δ P => t rx δ fun ds δ1 => rD ds fun d => P d δ1
variable {x : Str} {p : Pos} {id T : String} {r : List V → Hp → VK → Prop} {rD : List D → (Sl → Prop) → Prop} {t : TDA} {es : List Expr}
theorem lift_fcb (L : LiftFC K r rD) {rx : D → Prop} {Q : VK} (h : liftF K B n (fCB rD t rx) σ H Q) : tCB r (liftA K B n (t rx)) σ H Q := by
  obtain ⟨g, δ, P, S, q, k⟩ := h
  exact ⟨g, δ, _, S, q, fun ds δ1 g1 H1 vs h1 st1 S1 D1 => L B n g H δ g1 H1 σ δ1 vs ds _ Q S st1 S1 D1 h1 fun d g' H' v hp st S' it => k d δ1 g' H' v hp st S' it⟩
theorem df_callTy (hc : CallR X (.type T) r) (L : LiftFC X.K r rD) (hg : Gl X x) (hm : X.mg x = none) (hv : bootBuiltins x = some (.type T)) (ha : DA X B (e :: es) t) (hn : x ≠ "__name__" := by decide) (hdb : (x == ("__debug__" : Str)) = false := by decide)
    (he : starEach (e :: es) X.env = (false, eval e X.env) :: starEach es X.env := by rfl) (hpl : (backTo pos (starEach es X.env)).any (·.1) = false := by rfl) : DF X B (.Call (.Name x p) (e :: es) [] pos) (fCB rD t) :=
  ⟨fun rx tk => PE.imp (pe_callTy hc hg hm hv (ha.run rx tk) hn hdb he hpl) fun _ _ _ _ h => lift_fcb L h⟩
theorem df_callB (hc : CallR X (.builtin id) r) (L : LiftFC X.K r rD) (hg : Gl X x) (hm : X.mg x = none) (hv : bootBuiltins x = some (.builtin id)) (ha : DA X B (e :: es) t) (hn : x ≠ "__name__" := by decide) (hdb : (x == ("__debug__" : Str)) = false := by decide)
    (he : starEach (e :: es) X.env = (false, eval e X.env) :: starEach es X.env := by rfl) (hpl : (backTo pos (starEach es X.env)).any (·.1) = false := by rfl) : DF X B (.Call (.Name x p) (e :: es) [] pos) (fCB rD t) :=
  ⟨fun rx tk => PE.imp (pe_callB hc hg hm hv (ha.run rx tk) hn hdb he hpl) fun _ _ _ _ h => lift_fcb L h⟩
/-- list(x) -/
def listF (ds : List D) (P : Sl → Prop) : Prop := match ds with
  | [.lst xs] => P (.ol xs)
  | [.kls xs] => P (.ol xs)
  | [.tup xs] => P (.ol xs)
  | _ => False
def rListA (K : PySem.W.Frag) : List V → Hp → VK → Prop := fun xs H Q => ∃ p ys, xs = [.ref p] ∧ (SqL K H p ys ∨ SqT K H p ys) ∧ ∀ l, H l = none → Q (.ref l) (upd H l (.lst ys))
theorem lf_list : LiftFC K (rListA K) listF := fun B n g0 H0 δ0 g H σ δ xs ds P Q S0 st S rs q k => by
  cases rs with
  | nil => exact q.elim
  | cons r1 r2 =>
    cases r2 with
    | cons _ _ => cases r1 <;> exact q.elim
    | nil =>
      cases r1 with
      | @lst a vs ds h rs =>
        refine ⟨a, vs, rfl, .inl (SqL.of (S.ret.sub _ _ h)), fun p hp => ?_⟩
        obtain ⟨g2, st2, S2, it⟩ := S.newL st S0 hp rs
        exact k _ g2 _ _ q st2 S2 it
      | @kls a vs ds h rs =>
        refine ⟨a, vs, rfl, .inl (SqL.up S.ret.sub h), fun p hp => ?_⟩
        obtain ⟨g2, st2, S2, it⟩ := S.newL st S0 hp rs
        exact k _ g2 _ _ q st2 S2 it
      | @tup a vs ds h rs =>
        refine ⟨a, vs, rfl, .inr (SqT.up S.ret.sub h), fun p hp => ?_⟩
        obtain ⟨g2, st2, S2, it⟩ := S.newL st S0 hp rs
        exact k _ g2 _ _ q st2 S2 it
      | _ => exact q.elim
/-- tuple(x) -/
def tupD (ds : List D) (P : D → Prop) : Prop := match ds with
  | [.lst xs] => P (.tup xs)
  | [.kls xs] => P (.tup xs)
  | [.tup xs] => P (.tup xs)
  | _ => False
def rTupA (K : PySem.W.Frag) : List V → Hp → VK → Prop := fun xs H Q => ∃ p ys, xs = [.ref p] ∧ ((SqL K H p ys ∧ ∀ l, H l = none → Q (.ref l) (upd H l (.tup ys))) ∨ (SqT K H p ys ∧ Q (.ref p) H))
theorem lc_tup : LiftC K (rTupA K) tupD := fun B n g H σ δ xs ds P Q S rs q k => by
  have fin : ∀ {vs : List V} {ds : List D}, Dens K g.W g.F vs ds → P (.tup ds) → ∀ l, H l = none → Q (.ref l) (upd H l (.tup vs)) := fun {vs ds} rs q l hl => by
    obtain ⟨S2, st2⟩ := S.alloc (n := n) (o := .tup vs) hl
    exact k _ _ _ _ q st2 S2 (.tup (.inl (.inl upd_same)) (rs.step st2))
  cases rs with
  | nil => exact q.elim
  | cons r1 r2 =>
    cases r2 with
    | cons _ _ => cases r1 <;> exact q.elim
    | nil =>
      cases r1 with
      | @lst a vs ds h rs => exact ⟨a, vs, rfl, .inl ⟨SqL.of (S.ret.sub _ _ h), fin rs q⟩⟩
      | @kls a vs ds h rs => exact ⟨a, vs, rfl, .inl ⟨SqL.up S.ret.sub h, fin rs q⟩⟩
      | @tup a vs ds h rs => exact ⟨a, vs, rfl, .inr ⟨SqT.up S.ret.sub h, k _ g H _ q (Step.refl _ _ _) S (.tup h rs)⟩⟩
      | _ => exact q.elim
/-- ints, bools of a list -/
def asInts : List D → Option (List Int)
  | [] => some []
  | .int i :: ds => (asInts ds).map (i :: ·)
  | _ :: _ => none
def asBls : List D → Option (List Bool)
  | [] => some []
  | .bl i :: ds => (asBls ds).map (i :: ·)
  | _ :: _ => none
theorem Dens.ints {W : DW} {F : Hp} : ∀ {vs : List V} {ds : List D} {ns : List Int}, Dens K W F vs ds → asInts ds = some ns → vs = ns.map V.int
  | _, _, _, .nil, e => by cases e; rfl
  | _, _, _, .cons (d := d) (ds := ds) r t, e => by
    cases r with
    | int i =>
      unfold asInts at e
      cases q : asInts ds with
      | none => rw [q] at e; cases e
      | some ms =>
        rw [q] at e
        cases e
        rw [t.ints q]; rfl
    | _ => cases e
theorem Dens.bls {W : DW} {F : Hp} : ∀ {vs : List V} {ds : List D} {ns : List Bool}, Dens K W F vs ds → asBls ds = some ns → vs = ns.map V.bl
  | _, _, _, .nil, e => by cases e; rfl
  | _, _, _, .cons (d := d) (ds := ds) r t, e => by
    cases r with
    | bl i =>
      unfold asBls at e
      cases q : asBls ds with
      | none => rw [q] at e; cases e
      | some ms =>
        rw [q] at e
        cases e
        rw [t.bls q]; rfl
    | _ => cases e
/-- one list, read as a list of ints (bools) -/
def onL (f : List D → (D → Prop) → Prop) (ds : List D) (P : D → Prop) : Prop := match ds with
  | [.lst xs] => f xs P
  | [.kls xs] => f xs P
  | _ => False
theorem lc_onL {r : List V → Hp → VK → Prop} {f : List D → (D → Prop) → Prop} (h : ∀ (B : Base) (n : Nat) (g : Gs) (H : Hp) (σ : L2.St) (δ : Env) (a : Addr) (vs : List V) (ds : List D) (P : D → Prop) (Q : VK), Stt K B g H σ δ → SqL K H a vs → Dens K g.W g.F vs ds → f ds P →
    (∀ d g' H' v, P d → Step n g H g' H' → Stt K B g' H' σ δ → Den K g'.W g'.F v d → Q v H') → r [.ref a] H Q) : LiftC K r (onL f) := fun B n g H σ δ xs ds P Q S rs q k => by
  cases rs with
  | nil => exact q.elim
  | cons r1 r2 =>
    cases r2 with
    | cons _ _ => cases r1 <;> exact q.elim
    | nil =>
      cases r1 with
      | @lst a vs ds e rs => exact h B n g H σ δ a vs ds P Q S (SqL.of (S.ret.sub _ _ e)) rs q k
      | @kls a vs ds e rs => exact h B n g H σ δ a vs ds P Q S (SqL.up S.ret.sub e) rs q k
      | _ => exact q.elim
def sumL (ds : List D) (P : D → Prop) : Prop := ∃ ns, asInts ds = some ns ∧ P (.int ns.sum)
def anyL (ds : List D) (P : D → Prop) : Prop := ∃ ns, asBls ds = some ns ∧ P (.bl (ns.any _root_.id))
def allL (ds : List D) (P : D → Prop) : Prop := ∃ ns, asBls ds = some ns ∧ P (.bl (ns.all _root_.id))
def maxL (ds : List D) (P : D → Prop) : Prop := ∃ ns, asInts ds = some ns ∧ 0 < ns.length ∧ ∀ m, m ∈ ns → (∀ y, y ∈ ns → y ≤ m) → P (.int m)
def minL (ds : List D) (P : D → Prop) : Prop := ∃ ns, asInts ds = some ns ∧ 0 < ns.length ∧ ∀ m, m ∈ ns → (∀ y, y ∈ ns → m ≤ y) → P (.int m)
theorem lc_sum : LiftC K (rSum K) (onL sumL) := lc_onL fun B n g H σ δ a vs ds P Q S e rs ⟨ns, h1, q⟩ k => ⟨a, ns, rfl, by rw [← rs.ints h1]; exact e, k _ g H _ q (Step.refl _ _ _) S (.int _)⟩
theorem lc_any : LiftC K (rAny K) (onL anyL) := lc_onL fun B n g H σ δ a vs ds P Q S e rs ⟨ns, h1, q⟩ k => ⟨a, ns, rfl, by rw [← rs.bls h1]; exact e, k _ g H _ q (Step.refl _ _ _) S (.bl _)⟩
theorem lc_all : LiftC K (rAll K) (onL allL) := lc_onL fun B n g H σ δ a vs ds P Q S e rs ⟨ns, h1, q⟩ k => ⟨a, ns, rfl, by rw [← rs.bls h1]; exact e, k _ g H _ q (Step.refl _ _ _) S (.bl _)⟩
theorem lc_maxL : LiftC K (rMax K) (onL maxL) := lc_onL fun B n g H σ δ a vs ds P Q S e rs ⟨ns, h1, h2, q⟩ k => ⟨a, ns, rfl, by rw [← rs.ints h1]; exact e, h2, fun m a1 a2 => k _ g H _ (q m a1 a2) (Step.refl _ _ _) S (.int _)⟩
theorem lc_minL : LiftC K (rMin K) (onL minL) := lc_onL fun B n g H σ δ a vs ds P Q S e rs ⟨ns, h1, h2, q⟩ k => ⟨a, ns, rfl, by rw [← rs.ints h1]; exact e, h2, fun m a1 a2 => k _ g H _ (q m a1 a2) (Step.refl _ _ _) S (.int _)⟩
/-- max(i, j), min(i, j), or of a list -/
def maxD (ds : List D) (P : D → Prop) : Prop := match ds with
  | [.int i, .int j] => P (.int (if j > i then j else i))
  | _ => onL maxL ds P
def minD (ds : List D) (P : D → Prop) : Prop := match ds with
  | [.int i, .int j] => P (.int (if j < i then j else i))
  | _ => onL minL ds P
theorem lc_max : LiftC K (fun xs H Q => (∃ i j, xs = [.int i, .int j] ∧ Q (.int (if j > i then j else i)) H) ∨ rMax K xs H Q) maxD := fun B n g H σ δ xs ds P Q S rs q k => by
  by_cases h : ∃ i j, ds = [.int i, .int j]
  · obtain ⟨i, j, rfl⟩ := h
    cases rs with
    | cons r1 r2 =>
      cases r1
      cases r2 with
      | cons r3 r4 =>
        cases r3
        cases r4
        exact .inl ⟨i, j, rfl, k _ g H _ q (Step.refl _ _ _) S (.int _)⟩
  · refine .inr (lc_maxL B n g H σ δ xs ds P Q S rs ?_ k)
    unfold maxD at q
    split at q
    · exact absurd ⟨_, _, rfl⟩ h
    · exact q
theorem lc_min : LiftC K (fun xs H Q => (∃ i j, xs = [.int i, .int j] ∧ Q (.int (if j < i then j else i)) H) ∨ rMin K xs H Q) minD := fun B n g H σ δ xs ds P Q S rs q k => by
  by_cases h : ∃ i j, ds = [.int i, .int j]
  · obtain ⟨i, j, rfl⟩ := h
    cases rs with
    | cons r1 r2 =>
      cases r1
      cases r2 with
      | cons r3 r4 =>
        cases r3
        cases r4
        exact .inl ⟨i, j, rfl, k _ g H _ q (Step.refl _ _ _) S (.int _)⟩
  · refine .inr (lc_minL B n g H σ δ xs ds P Q S rs ?_ k)
    unfold minD at q
    split at q
    · exact absurd ⟨_, _, rfl⟩ h
    · exact q
theorem call_maxA (hc : X.calm = true) : CallR X (.builtin "max") (fun xs H Q => (∃ i j, xs = [.int i, .int j] ∧ Q (.int (if j > i then j else i)) H) ∨ rMax X.K xs H Q) := CallR.or (call_max2 hc) (cr_max hc)
theorem call_minA (hc : X.calm = true) : CallR X (.builtin "min") (fun xs H Q => (∃ i j, xs = [.int i, .int j] ∧ Q (.int (if j < i then j else i)) H) ∨ rMin X.K xs H Q) := CallR.or (call_min2 hc) (cr_min hc)
def absD (ds : List D) (P : D → Prop) : Prop := match ds with
  | [.int i] => P (.int (if i < 0 then -i else i))
  | _ => False
theorem lc_abs : LiftC K (fun xs H Q => ∃ i, xs = [.int i] ∧ Q (.int (if i < 0 then -i else i)) H) absD := fun B n g H σ δ xs ds P Q S rs q k => by
  cases rs with
  | nil => exact q.elim
  | cons r1 r2 =>
    cases r2 with
    | cons _ _ => cases r1 <;> exact q.elim
    | nil =>
      cases r1 with
      | int i => exact ⟨i, rfl, k _ g H _ q (Step.refl _ _ _) S (.int _)⟩
      | _ => exact q.elim
def intD (ds : List D) (P : D → Prop) : Prop := match ds with
  | [.int i] => P (.int i)
  | [.bl b] => P (.int (if b then 1 else 0))
  | _ => False
theorem lc_int : LiftC K (fun xs H Q => (∃ i, xs = [.int i] ∧ Q (.int i) H) ∨ ∃ k, xs = [.bl k] ∧ Q (.int (if k then 1 else 0)) H) intD := fun B n g H σ δ xs ds P Q S rs q k => by
  cases rs with
  | nil => exact q.elim
  | cons r1 r2 =>
    cases r2 with
    | cons _ _ => cases r1 <;> exact q.elim
    | nil =>
      cases r1 with
      | int i => exact .inl ⟨i, rfl, k _ g H _ q (Step.refl _ _ _) S (.int _)⟩
      | bl i => exact .inr ⟨i, rfl, k _ g H _ q (Step.refl _ _ _) S (.int _)⟩
      | _ => exact q.elim
/-! ### slices -/
abbrev TDO := (D → Prop) → Env → (Option Int → Env → Prop) → Prop
def dNoPart : TDO := fun _ δ P => P none δ
def dPart (t : TDX) : TDO := fun rx δ P => t rx δ fun d δ1 => match d with
  | .int i => P (some i) δ1
  | _ => False
def cutD (xs : List D) (lo hi : Option Int) : List D := (xs.drop (HT.sIx xs.length 0 lo)).take (HT.sIx xs.length xs.length hi - HT.sIx xs.length 0 lo)
theorem cut_rel {W : DW} {F : Hp} {vs : List V} {ds : List D} (r : Dens K W F vs ds) (lo hi : Option Int) : Dens K W F (cutV vs lo hi) (cutD ds lo hi) := by
  unfold cutV cutD
  rw [r.length]
  exact (r.drop _).take _
def sliceF (x : D) (lo hi : Option Int) (P : Sl → Prop) : Prop := match x with
  | .lst xs => P (.ol (cutD xs lo hi))
  | .kls xs => P (.ol (cutD xs lo hi))
  | .tup xs => P (.sh (.tup (cutD xs lo hi)))
  | _ => False
def fSlice (te : TDX) (tl th : TDO) : TDF := fun rx δ P => te rx δ fun d δ1 => tl rx δ1 fun lo δ2 => th rx δ2 fun hi δ3 => sliceF d lo hi fun s => P s δ3
def liftO (K : PySem.W.Frag) (B : Base) (n : Nat) (t : Env → (Option Int → Env → Prop) → Prop) : TO := fun σ H Q => ∃ g δ P, Stt K B g H σ δ ∧ t δ P ∧ ∀ o δ' g' H', P o δ' → Step n g H g' H' → Stt K B g' H' σ δ' → Q o H'
structure DO (X : Cx) (B : Base) (e : Option Expr) (t : TDO) : Prop where
  run : ∀ rx, Takes X (XW (liftX X.K B rx)) → PO X e (liftO X.K B X.N.length (t rx))
theorem PO.imp {e : Option Expr} {t t' : TO} (h : PO X e t) (i : ∀ σ H Q, σ.length = X.N.length → t' σ H Q → t σ H Q) : PO X e t' := ⟨fun pins s σ H Q I q => h.run pins s σ H Q I (i σ H Q I.len q)⟩
theorem do_none : DO X B none dNoPart := ⟨fun rx tk => PO.imp po_none fun σ H Q _ ⟨g, δ, P, S, q, k⟩ => k none δ g H q (Step.refl _ _ _) S⟩
theorem do_some {te : TDX} (h : DE X B e te) : DO X B (some e) (dPart te) := ⟨fun rx tk => PO.imp (po_some (h.run rx tk)) fun σ H Q _ ⟨g, δ, P, S, q, k⟩ => ⟨g, δ, _, S, q, fun d δ1 g1 H1 v h1 st1 S1 D1 => by
  cases D1 with
  | int i => exact ⟨i, rfl, k (some i) δ1 g1 H1 h1 st1 S1⟩
  | _ => exact h1.elim⟩⟩
def rSlAll (K : PySem.W.Frag) : V → Option Int → Option Int → Hp → VK → Prop := fun x lo hi H Q => rSlL K x lo hi H Q ∨ rSlA K x lo hi H Q
theorem whole_cut {xs : List D} {lo hi : Option Int} (h1 : HT.sIx xs.length 0 lo = 0) (h2 : HT.sIx xs.length xs.length hi = xs.length) : cutD xs lo hi = xs := by
  unfold cutD
  rw [h1, h2]; simp
theorem df_slice {lo hi : Option Expr} {te : TDX} {tl th : TDO} {p2 : Pos} (he : DE X B e te) (hl : DO X B lo tl) (hh : DO X B hi th) : DF X B (.Subscript e (.Slice lo hi none p2) pos) (fSlice te tl th) :=
  ⟨fun rx tk => PE.imp (pe_slice (SlR.or sl_list sl_tupA) (he.run rx tk) (hl.run rx tk) (hh.run rx tk)) fun σ H Q _ ⟨g, δ, P, S, q, k⟩ => ⟨g, δ, _, S, q, fun d δ1 g1 H1 v h1 st1 S1 D1 =>
    ⟨g1, δ1, _, S1, h1, fun lo δ2 g2 H2 h2 st2 S2 => ⟨g2, δ2, _, S2, h2, fun hi δ3 g3 H3 h3 st3 S3 => by
      have D3 := (D1.step st2).step st3
      have stA := (st1.trans st2).trans st3
      cases D3 with
      | @lst a vs ds h rs =>
        refine .inl ⟨a, vs, rfl, SqL.of (S3.ret.sub _ _ h), fun p hp => ?_⟩
        obtain ⟨g4, st4, S4, it⟩ := S3.newL stA S hp (cut_rel rs lo hi)
        exact k _ δ3 g4 _ _ h3 st4 S4 it
      | @kls a vs ds h rs =>
        refine .inl ⟨a, vs, rfl, SqL.up S3.ret.sub h, fun p hp => ?_⟩
        obtain ⟨g4, st4, S4, it⟩ := S3.newL stA S hp (cut_rel rs lo hi)
        exact k _ δ3 g4 _ _ h3 st4 S4 it
      | @tup a vs ds h rs =>
        refine .inr ⟨a, vs, rfl, SqT.up S3.ret.sub h, fun ⟨e1, e2⟩ => ?_, fun _ p hp => ?_⟩
        · rw [rs.length] at e1 e2
          have z : sliceF (.tup ds) lo hi (fun s => P s δ3) := h3
          have z2 : P (.sh (.tup (cutD ds lo hi))) δ3 := z
          rw [whole_cut e1 e2] at z2
          exact k _ δ3 g3 H3 _ z2 stA S3 (.tup h rs)
        · obtain ⟨S4, st4⟩ := S3.alloc (n := X.N.length) (o := .tup (cutV vs lo hi)) hp
          exact k _ δ3 _ _ _ h3 (stA.trans st4) S4 (.tup (.inl (.inl upd_same)) ((cut_rel rs lo hi).step st4))
      | _ => exact h3.elim⟩⟩⟩⟩
end
end DL

namespace DL
open PySem PySem.Spec PySem.Calls PySem.W PyProof.Rows
/-! ### a class of exceptions whose __init__ says super().__init__(text), then self.f = p -/
/-- the body of such an __init__ -/
structure SuB where
  txt : Str
  fld : Str
  par : Str
  j : Nat
  p0 : Pos
  p1 : Pos
  p2 : Pos
  p3 : Pos
  p4 : Pos
  p5 : Pos
  q0 : Pos
  q1 : Pos
  q2 : Pos
  q3 : Pos
def SuB.body (b : SuB) : List Stmt := [.Expr (.Call (.Attribute (.Call (.Name "super" b.p0) [] [] b.p1) "__init__" b.p2) [.Constant (.str b.txt) b.j b.p3] [] b.p4) b.p5, .Assign [.Attribute (.Name "self" b.q0) b.fld b.q1] (.Name b.par b.q2) b.q3]
/-- how its first call is read -/
def SuB.Ev (b : SuB) (pl : PySem.Env → Sem Bool) : Prop := ∀ env, eval (.Call (.Attribute (.Call (.Name "super" b.p0) [] [] b.p1) "__init__" b.p2) [.Constant (.str b.txt) b.j b.p3] [] b.p4) env = (do
  let ov ← attributeBase (.Call (.Name "super" b.p0) [] [] b.p1) "__init__" env (eval (.Call (.Name "super" b.p0) [] [] b.p1) env)
  standAt b.p2.atName
  let (f, first) ← holding [ov] (getMethod ov "__init__" (pl env))
  callWith b.p4 f first (backTo b.p4 (starEach [.Constant (.str b.txt) b.j b.p3] env)) [])
/-- what is known of it: C the class, f the def, cc its cell, cda its code -/
structure SuK (P : Program) (K : Frag) (b : SuB) (C f : Addr) (fd : FuncData) : Prop where
  ex : ∃ (name qual : Str) (params : Arguments) (scope : Scope) (dV kV doc pm ct oc ccl cl : Value) (an od cdd cld : Option Addr) (osl ccs csl : Array (Option Value)) (cc cda : Addr) (ar : Arg) (vs : Array Value) (file : Str) (tf : Tok) (cd : ClassData),
    fd = ksFn name qual params b.body scope dV kV doc pm an (.ref cda) ct cc ∧ K.lookup f = some ⟨oc, od, .func fd, osl⟩ ∧ codeIn K (.ref cda) qual = true ∧ (∀ y ∈ scope.names, y.2 ≠ .cell) ∧
    scope.isCoroutine = false ∧ scope.isGenerator = false ∧ scope.kind = .function ∧ scope.names.lookup ("super" : Str) = some .globalImplicit ∧ scope.names.lookup ("__class__" : Str) = some .free ∧ scope.names.lookup ("self" : Str) = some .local ∧ scope.names.lookup b.par = some .local ∧
    (params.posonlyargs ++ params.args).head? = some ar ∧ ar.arg = "self" ∧
    K.lookup cda = some ⟨ccl, cdd, .fields vs, ccs⟩ ∧ vs[2]? = some (.str file tf) ∧ ((P.main.file : Str) == file) = true ∧ (P.main.scope.names.lookup ("super" : Str)).isSome = false ∧
    K.lookup cc = some ⟨cl, cld, .cell (some (.ref C)), csl⟩ ∧ clsIn K C = some cd ∧ HandSPX.refsVE cd.mro = true ∧ cd.hasDict = true ∧ mroIn K C (.ref C) = some true ∧ nsIn K cStatics "thirdparty.any" = some none
  sup : ks_superIn K C C "__init__" = some (some (.builtin "ValueError.__init__"))
  sub : subIn K (.ref C) (.type "ValueError") = some true
  exc : excInitIn K C [.type "ValueError", .type "Exception", .type "BaseException", .type "object"] "ValueError.__new__" = true
  sa : findIn K (.ref C) "__setattr__" = some (some (.builtin "object.__setattr__"))
  no : findIn K (.ref C) b.fld = some none
  pne : b.par ≠ "self"
  ini : findIn K (.ref C) "__init__" = some (some (.ref f))
  tyI : typeIn K (.ref f) = some (.type "function")
  kpC : keepIn K (.ref C) = true
  exB : subIn K (.ref C) (.type "BaseException") = some true
  tyC : typeIn K (.ref C) = some (.type "type")
  hdb : (b.par == ("__debug__" : Str)) = false
  ev : ∃ pl, b.Ev pl
  bind : ∀ (s : Shared) (us : List Value), us.length = 2 → BindsTo s fd ⟨us, []⟩ ((["self", b.par] : List Str).zip us)
theorem su_body {P : Program} {w : World} {A : Around} {K : Frag} {b : SuB} {C f e t0 cc cda : Addr} {fd : FuncData} {u : Value} {mg mb : Str → Option Value} {E : Value → Shared → Prop} {Q : Flow → Shared → Prop} {h0 : Heap} {g : Array GenState} {d : Drawn} {t : Nat} {os : OsState} {cb : List Stmt}
    {env : PySem.Env} {oc ccl cl : Value} {od cdd cld : Option Addr} {osl ccs csl : Array (Option Value)} {ar : Arg} {vs : Array Value} {file : Str} {tf : Tok} {cd : ClassData} {m : Str → Option Value}
    (KX : K.In h0) (ns : h0.Ns env.globals mg) (mgS : mg "super" = none) (nb : h0.Ns env.builtins mb) (bb : mb "super" = some (.type "super")) (he : h0.get? e = some (HandSPX.excO C t0)) (hns : h0.Ns env.locals m) (eL : e ≠ env.locals) (m1 : m "self" = some (.ref e)) (m2 : m b.par = some u)
    (lk : K.lookup f = some ⟨oc, od, .func fd, osl⟩) (hfu : env.func = some f) (hk : env.scope.kind = .function) (hks : env.kindOf "super" = some .globalImplicit) (hkc : env.kindOf "__class__" = some .free) (hka : env.kindOf "self" = some .local) (hkp : env.kindOf b.par = some .local)
    (hpar : (fd.params.posonlyargs ++ fd.params.args).head? = some ar) (har : ar.arg = "self") (hco : env.code = .ref cda) (hcode : K.lookup cda = some ⟨ccl, cdd, .fields vs, ccs⟩) (hvs : vs[2]? = some (.str file tf)) (hfile : ((P.main.file : Str) == file) = true)
    (htop : (P.main.scope.names.lookup ("super" : Str)).isSome = false) (hcl : env.cells.lookup ("__class__" : Str) = some cc) (hcel : K.lookup cc = some ⟨cl, cld, .cell (some (.ref C)), csl⟩) (hC : clsIn K C = some cd) (hmro : HandSPX.refsVE cd.mro = true) (hdct : cd.hasDict = true)
    (hsubC : mroIn K C (.ref C) = some true) (hop : nsIn K cStatics "thirdparty.any" = some none)
    (hsup : ks_superIn K C C "__init__" = some (some (.builtin "ValueError.__init__"))) (hsub : subIn K (.ref C) (.type "ValueError") = some true)
    (hexc : excInitIn K C [.type "ValueError", .type "Exception", .type "BaseException", .type "object"] "ValueError.__new__" = true) (hsa : findIn K (.ref C) "__setattr__" = some (some (.builtin "object.__setattr__"))) (hno : findIn K (.ref C) b.fld = some none)

    {pl : PySem.Env → Sem Bool} (hev : b.Ev pl) (hdb : (b.par == ("__debug__" : Str)) = false) (nK : ∀ o, K.lookup e ≠ some o)
    (hq : ∀ h' t' dx tA, (∀ a o, a ≠ e → h0.get? a = some o → h'.get? a = some o) → h0.objs.size ≤ dx → dx ≠ e → h'.get? e = some ({ cls := .ref C, dict := some dx, data := .fields #[.ref tA, .none, .none, .none, .bool false, .none] } : Obj) →
      h'.Ns1 dx (fun y => if y = b.fld then some u else none) → Q .next ⟨h', g, d, t', os⟩) :
    PySem.wpAt (model P w) A (.func cb env) (execs b.body env) Q E ⟨h0, g, d, t, os⟩ := by
  obtain ⟨oC, hC1, hC2⟩ : ∃ oD, h0.get? C = some oD ∧ oD.data = .cls cd := by
    have hD := hC
    unfold clsIn at hD
    split at hD
    · rename_i c d cd' sl ho
      cases hD
      exact ⟨_, KX _ _ ho, rfl⟩
    · cases hD
  have xC : e ≠ C := fun z => by
    rw [z, hC1] at he
    have := Option.some.inj he
    rw [this] at hC2
    cases hC2
  obtain ⟨nm, N', qn, bs, bm, hd', sn, sub', ab, col, dd, k0, k1, k2, k3, k5, hCo, hT⟩ := excInit_of KX hexc
  unfold SuB.body
  refine ks_wpAt_execs_cons (ks_wpAt_Expr_any ?_ (hi := by unfold interactive; rw [hk]; rfl) (hs := by rfl))
  refine ks_wpAt_MethodCall ?_ (hev env)
  refine ks_wpAt_super_base (ar := ar) hks hkc (by decide) hfu (KX _ _ lk) rfl hpar hco (KX _ _ hcode) rfl hvs hfile htop ?_
  refine ks_loadName_global hk hks (loadGlobal_builtin ns mgS nb bb ⟨rfl, ?_⟩)
  refine wpAny_loadName_free hk hkc hcl ⟨_, KX _ _ hcel, rfl⟩ ?_
  rw [har]
  refine wpAny_loadName_local hk hka hns m1 ?_
  refine ks_wpAny_isType_cls hC1 hC2 ⟨rfl, ?_⟩
  refine ks_wpAny_call_super hC1 hC2 he rfl (fun c z => by cases z) (looks_mroIn KX hsubC) (fun h1 e1 k1 => ?_)
  have X1 : K.In h1 := KX.keeps k1
  have he1 := k1 _ _ he
  have I1 : InstAt h1 e (HandSPX.excO C t0) C none := ⟨he1, rfl, rfl, trivial⟩
  have hm := hsup
  unfold ks_superIn at hm
  rw [hC] at hm
  refine kxs_getMethod kxs_ValueError e1 (looks_opaque X1 hop) (l₀ := cd.mro) (fun A Q E s k q => wpAny_bind ((looks_clsIn X1 hC) A _ E s k (wpAny_pure q))) rfl X1 hm (I1.type.andThen (looks_subIn X1 hsub)) xC (by decide) ?_
  have k2 : ∀ a o, h1.get? a = some o → (h1.push (kxs_mw "ValueError.__init__" e)).get? a = some o := fun a o z => Heap.get?_push_of_some _ z
  have hu : (h1.push (kxs_mw "ValueError.__init__" e)).get? h1.objs.size = some (kxs_mw "ValueError.__init__" e) := Heap.get?_push_at rfl rfl
  have nN : News h1 (h1.objs.size + 1) (h1.push (kxs_mw "ValueError.__init__" e)) [(h1.objs.size, kxs_mw "ValueError.__init__" e)] := fun p hp => by
    cases List.mem_singleton.mp hp
    refine ⟨hu, by simp, ?_⟩
    cases z : h1.get? h1.objs.size with
    | none => rfl
    | some o => exact absurd (Heap.lt_size z) (Nat.lt_irrefl _)
  refine kxs_callWith1 nN (List.mem_singleton.mpr rfl) ?_
  show wpAny _ _ (spliced ((false, eval (.Constant (.str b.txt) b.j b.p3) env) :: backTo b.p4 (starEach [] env))) _ _ _
  refine Calls.spliced_cons (Calls.Constant_str (Calls.spliced_nil ⟨hu, ?_⟩))
  refine wpAny_call (codeAny_of_tree ?_)
  show wpAny _ _ (callAny (.ref h1.objs.size) ⟨[.str b.txt _], []⟩) _ _ _
  simp only [callAny]
  refine wpAny_bind (wpAny_load hu ?_)
  simp only [kxs_mw, show (Value.type "method-wrapper" == Value.type "method" || Value.type "method-wrapper" == Value.type "builtin_function_or_method" || Value.type "method-wrapper" == Value.type "method-wrapper") = true by decide, if_true]
  refine KFB.if_so (by decide) ?_
  refine wpAny_bind (check_bound_init PySem.F.excBase_ValueError.toExcCallFacts (k2 _ _ (k1 _ _ hCo)) (k2 _ _ he1) rfl ?_)
  refine wpAny_bind (wpAny_pure (wpAny_pure ?_))
  refine ⟨plainId_quiet PySem.F.excBase_ValueError.init.plain _, codeAny_builtin PySem.F.excBase_ValueError.initEntry ?_⟩
  refine exc_init_tree (cls := .ref C) (t0 := t0) (dv := none) (c2 := .none) (c3 := .none) (b4 := .bool false) (k2 _ _ he1) (by show 1 ≤ sizeLine; rw [sizeLine_eq]; omega) (fun h3 k3 e3 _ => ?_)
  have e3' : h3.get? e = some (HandSPX.excO C (h1.push (kxs_mw "ValueError.__init__" e)).objs.size) := e3
  have k03 : ∀ a o, a ≠ e → h0.get? a = some o → h3.get? a = some o := fun a o ne z => k3 a o ne (k2 _ _ (k1 _ _ z))
  have X3 : K.In h3 := fun a o z => k03 a o (fun q => by
    rw [q] at z
    exact nK o z) (KX a o z)
  have ns3 : h3.Ns env.locals m := by
    obtain ⟨oL, es, ep, hL, r⟩ := hns
    exact ⟨oL, es, ep, k03 _ _ (Ne.symm eL) hL, r⟩
  refine ks_wpAt_execs_cons (ks_wpAt_Assign_Attr (wpAt_of_wpAny (wpAny_Name (wpAny_loadName_local hk hkp ns3 m2 ?_) hdb)) (hs := by rfl))
  refine wpAny_Name (wpAny_loadName_local hk hka ns3 m1 ?_) (by decide)
  refine set_plain X3 (ox := HandSPX.excO C (h1.push (kxs_mw "ValueError.__init__" e)).objs.size) (od := none) ⟨e3', rfl, rfl, trivial⟩ hsa ?_
  refine HandSPX.exc_osa X3 e3' hC hmro hdct hno (fun h' t' dx k hdx dne hx hn => ?_)
  show PySem.wpAt _ _ _ (execs [] env) _ _ _
  refine wpAt_of_wpAny (wpAny_execs_nil (hq h' t' dx _ (fun a o ne z => k a o ne (k03 a o ne z)) ?_ dne hx hn))
  exact Nat.le_trans (Nat.le_of_lt (Heap.lt_size (k3 _ _ (Ne.symm (Nat.ne_of_lt (Heap.lt_size he))) (k2 _ _ e1)))) hdx
theorem su_init {P : Program} {w : World} {A : Around} {K : Frag} {b : SuB} {C f e t0 : Addr} {fd : FuncData} {u : Value} {mg mb : Str → Option Value} {R : Result → Shared → Prop} {hp : Heap} {g : Array GenState} {d : Drawn} {t : Nat} {os : OsState} (S : SuK P K b C f fd)
    (KX : K.In hp) (ns : hp.Ns mainGlobals mg) (mgS : mg "super" = none) (nb : hp.Ns builtinsNs mb) (bb : mb "super" = bootBuiltins "super") (lim : hp.NoLimit) (hroom : A.depth < recursionLimit) (he : hp.get? e = some (HandSPX.excO C t0)) (nK : ∀ o, K.lookup e ≠ some o)
    (hq : ∀ h' t' dx tA, (∀ a o, a ≠ e → hp.get? a = some o → h'.get? a = some o) → hp.objs.size ≤ dx → dx ≠ e → h'.get? e = some ({ cls := .ref C, dict := some dx, data := .fields #[.ref tA, .none, .none, .none, .bool false, .none] } : Obj) →
      h'.Ns1 dx (fun y => if y = b.fld then some u else none) → R (.ok (.ret .none)) ⟨h', g, d, t', os⟩) :
    codeAny (model P w) A (.call (.ref f) ⟨[.ref e, u], []⟩) R ⟨hp, g, d, t, os⟩ := by
  obtain ⟨name, qual, params, scope, dV, kV, doc, pm, ct, oc, ccl, cl, an, od, cdd, cld, osl, ccs, csl, cc, cda, ar, vs, file, tf, cd, rfl, lk, hcd, hcell, hco, hgen, hk, hks, hkc, hka, hkp, hpar, har, hcode, hvs, hfile, htop, hcel, hC, hmro, hdct, hsubC, hop⟩ := S.ex
  obtain ⟨pl, hev⟩ := S.ev
  have hloc : ∀ y ∈ (["self", b.par] : List Str).zip [Value.ref e, u], scope.names.lookup y.1 = some .local := fun y hy => by
    have hy : y ∈ [(("self" : Str), Value.ref e), (b.par, u)] := hy
    rcases List.mem_cons.mp hy with rfl | hy
    · exact hka
    · rcases List.mem_cons.mp hy with rfl | hy
      · exact hkp
      · cases hy
  refine ks_codeAny_call_defAt (body := b.body) hroom (KX _ _ lk) rfl lim (codeRec_of KX hcd) rfl (S.bind _ [.ref e, u] rfl) hcell hloc (fun h0 hns hk0 => ?_) hco hgen hk
  have m1 : ((["self", b.par] : List Str).zip [Value.ref e, u]).reverse.lookup ("self" : Str) = some (Value.ref e) := by
    show [(b.par, u), (("self" : Str), Value.ref e)].lookup ("self" : Str) = _
    rw [List.lookup_cons, show (("self" : Str) == b.par) = false from beq_eq_false_iff_ne.mpr (Ne.symm S.pne)]
    rfl
  have m2 : ((["self", b.par] : List Str).zip [Value.ref e, u]).reverse.lookup b.par = some u := by
    show [(b.par, u), (("self" : Str), Value.ref e)].lookup b.par = _
    rw [List.lookup_cons, beq_self_eq_true]
  have hsz : hp.objs.size ≤ h0.objs.size := by
    obtain ⟨oL, _, _, hL, _⟩ := hns
    exact Nat.le_of_lt (Heap.lt_size hL)
  exact su_body (KX.keeps hk0) (ns.keeps hk0) mgS (nb.keeps hk0) (bb.trans PyProof.Rows.Boot.«super») (hk0 _ _ he) hns (Nat.ne_of_lt (Heap.lt_size he)) m1 m2 lk rfl hk hks hkc hka hkp hpar har rfl hcode hvs hfile htop rfl hcel hC hmro hdct hsubC hop S.sup S.sub S.exc S.sa S.no hev S.hdb nK
    fun h' t' dx tA k hdx dne hx hn => hq h' t' dx tA (fun a o ne z => k a o ne (hk0 _ _ z)) (Nat.le_trans hsz hdx) dne hx hn
end DL
namespace DL
open PySem PySem.Spec L2
open PyProof.Rows hiding St
section
variable {X : Cx} {pins : List (Addr × Obj)} {σ : L2.St} {H : Hp} {b : SuB} {C f : Addr} {fd : FuncData} {k : Nat}
/-- C(u): the new object, its dict, the heap -/
theorem su_call {hp : Heap} {g : Array GenState} {d : Drawn} {t : Nat} {os : OsState} {u : Value} {Q : Value → Shared → Prop} {E : Value → Shared → Prop} (S : SuK X.prog X.K b C f fd) (hr : Room (k + 1) X.A) (mgS : X.mg "super" = none) (I : Inv X pins σ H ⟨hp, g, d, t, os⟩)
    (hq : ∀ h' t' e dx tA, (∀ a o, hp.get? a = some o → h'.get? a = some o) → hp.get? e = none → hp.get? dx = none → dx ≠ e → h'.get? e = some ({ cls := .ref C, dict := some dx, data := .fields #[.ref tA, .none, .none, .none, .bool false, .none] } : Obj) →
      h'.Ns1 dx (fun y => if y = b.fld then some u else none) → Q (.ref e) ⟨h', g, d, t', os⟩) :
    wpAny (model X.prog X.w) X.A (call (.ref C) [u]) Q E ⟨hp, g, d, t, os⟩ := by
  obtain ⟨nm, N', qn, bs, bm, hd', sn, sub', ab, col, dd, k0, k1, k2, k3, k5, hCo, hT⟩ := PySem.W.excInit_of I.kIn S.exc
  obtain ⟨mb, hb1, hb2⟩ := I.mod.blt
  have kk : ∀ a o, hp.get? a = some o → ((hp.push (PySem.W.kdv_tup [u])).push (PySem.HandSPX.excO C hp.objs.size)).get? a = some o := fun b o e => Heap.get?_push_of_some _ (Heap.get?_push_of_some _ e)
  have hget : ((hp.push (PySem.W.kdv_tup [u])).push (PySem.HandSPX.excO C hp.objs.size)).get? (hp.objs.size + 1) = some (PySem.HandSPX.excO C hp.objs.size) := by heap_get
  have KX := I.kIn
  have none_of : ∀ a, hp.objs.size ≤ a → hp.get? a = none := fun a ha => by
    cases z : hp.get? a with
    | none => rfl
    | some o => exact absurd (Heap.lt_size z) (Nat.not_lt.mpr ha)
  have hz : (hp.push (PySem.W.kdv_tup [u])).objs.size = hp.objs.size + 1 := Heap.size_push ..
  have hz2 : ((hp.push (PySem.W.kdv_tup [u])).push (PySem.HandSPX.excO C hp.objs.size)).objs.size = hp.objs.size + 2 := by rw [Heap.size_push, hz]
  refine wpAny_call (PySem.HandSPX.call_own PySem.F.excBase_ValueError hT hCo (PySem.W.looks_findIn KX S.ini) (fun self => PySem.W.bind_fn KX self S.tyI) (by show 1 ≤ sizeLine; rw [sizeLine_eq]; omega) ?_)
  refine su_init S (KX.keeps kk) ((I.mod.glob.keeps I.bk).keeps kk) mgS ((hb1.keeps I.bk).keeps kk) (hb2 _ (by decide)) (I.nolimit.keeps kk) (hr.make C [u] []).depth hget (fun o z => ?_) fun h' t' dx tA k hdx dne hx hn => ?_
  · have := Heap.lt_size (KX _ _ z)
    exact absurd this (by show ¬ hp.objs.size + 1 < hp.objs.size; omega)
  · have hdx' : hp.objs.size + 2 ≤ dx := by rw [← hz2]; exact hdx
    refine ⟨rfl, hq h' t' _ dx tA (fun a o z => k a o (fun q => ?_) (kk a o z)) (none_of _ (Nat.le_succ _)) (none_of _ (Nat.le_trans (Nat.le_add_right _ 2) hdx')) dne hx hn⟩
    have z2 : a < hp.objs.size := Heap.lt_size z
    rw [show a = hp.objs.size + 1 from q] at z2
    exact absurd z2 (Nat.not_lt.mpr (Nat.le_succ _))
variable {B : Base} {x : Str} {e : Expr} {te : TE} {td : TDX} {p pos pos2 : Pos}
theorem xd_ok {P : Program} {w : World} {H : Hp} {h : Heap} {dx : Addr} {n : Str} {v : V} {u : Value} (hn : h.Ns1 dx (fun y => if y = n then some u else none)) (r : RelV v u) : ObjOk P w H h dx (.xd [(n, v)]) :=
  ⟨_, hn, fun y => by
    by_cases e : y = n
    · subst e
      rw [if_pos rfl, List.lookup_cons, beq_self_eq_true]
      exact r
    · rw [if_neg e, List.lookup_cons, show (y == n) = false from beq_eq_false_iff_ne.mpr e]
      exact trivial⟩
/-- the state behind C(u), the new object left aside -/
theorem su_side {hp h' : Heap} {g : Array GenState} {d : Drawn} {t t' : Nat} {os : OsState} {v : V} {u : Value} {n : Str} {e dx : Addr} (I : Inv X pins σ H ⟨hp, g, d, t, os⟩) (r : RelV v u) (k : ∀ a o, hp.get? a = some o → h'.get? a = some o) (ne : hp.get? e = none) (nd : hp.get? dx = none) (dne : dx ≠ e)
    (hn : h'.Ns1 dx (fun y => if y = n then some u else none)) : ∃ G : Heap, Inv X pins σ (upd H dx (.xd [(n, v)])) ⟨G, g, d, t', os⟩ ∧ (∀ a o, G.get? a = some o → h'.get? a = some o) ∧ G.get? e = none ∧ H dx = none ∧ upd H dx (.xd [(n, v)]) e = none := by
  obtain ⟨G, g1, g2⟩ := restrict h' fun b => decide (b ≠ e)
  have gk : ∀ b, b ≠ e → G.get? b = h'.get? b := fun b hb => g1 b (decide_eq_true hb)
  have ge : G.get? e = none := g2 e (by simp)
  have hd := I.hok.gone nd
  have kG : ∀ a o, hp.get? a = some o → G.get? a = some o := fun a o z => (gk a (fun q => by rw [q, ne] at z; cases z)).trans (k a o z)
  have nG : G.Ns1 dx (fun y => if y = n then some u else none) := hn.at fun o q => (gk dx dne).trans q
  refine ⟨G, I.laidN (t' := t') kG nd hd (xd_ok nG r), fun a o z => ?_, ge, hd, ?_⟩
  · by_cases q : a = e
    · rw [q, ge] at z; cases z
    · exact (gk a q).symm.trans z
  · rw [upd_ne (Ne.symm dne)]; exact I.hok.gone ne
theorem pmk_su (S : SuK X.prog X.K b C f fd) (hr : Room (k + 1) X.A) (mgS : X.mg "super" = none) (hg : Gl X x) (hm : X.mg x = some (.ref C)) (he : PE X e te) (hdb : (x == ("__debug__" : Str)) = false := by decide) (hs : starEach [e] X.env = (false, eval e X.env) :: starEach [] X.env := by rfl) :
    PMk X (.Call (.Name x p) [e] [] pos) (fun σ H Q => te σ H fun v H1 => ∀ d, H1 d = none → Q (.ref C) (some d) (upd H1 d (.xd [(b.fld, v)]))) := by
  intro pins s σ H Q I h
  refine wpAny_Call_Name_kw (ld_glob I hg hm ?_ hdb)
  refine PySem.W.callWith_K (h₀ := X.base) I.ok.mod.kin S.kpC ?_ hs (by rfl)
  rw [hs]
  show wpAny _ _ (spliced ((false, eval e X.env) :: backTo pos (starEach [] X.env))) _ _ s
  refine Calls.spliced_cons (thn (he.run pins s σ H _ I h) fun u s1 hh => Calls.spliced_nil ?_)
  obtain ⟨v, H1, I1, r1, q1⟩ := hh
  refine ⟨I1.kIn, ?_⟩
  obtain ⟨hp, g, d, t, os⟩ := s1
  refine su_call S hr mgS I1 fun h' t' e dx tA kk ne nd dne hx hn => ?_
  obtain ⟨G, J, gk, ge, hd, na⟩ := su_side (t' := t') I1 r1 kk ne nd dne hn
  exact ⟨e, _, _, ⟨G, g, d, t', os⟩, _, .ref C, some dx, rfl, J, gk, ge, hx, ⟨rfl, rfl⟩, rfl, rfl, na, rfl, J.bare, raises_own S.exB S.tyC, q1 dx hd⟩
theorem excO_ok {P : Program} {w : World} {H : Hp} {h : Heap} {C a : Addr} {d : Option Addr} {oe : Obj} {vs : Array Value} (e : h.get? a = some oe) (z : Zc (.ref C) d oe) (dt : oe.data = .fields vs) : ObjOk P w H h a (ExcO C d a) :=
  ⟨⟨oe, vs, e, z, dt⟩, ⟨oe, e⟩, fun _ _ ⟨o, v, q, r⟩ k => ⟨o, v, k o q, r⟩⟩
/-- .. as a value -/
theorem pe_su (S : SuK X.prog X.K b C f fd) (hr : Room (k + 1) X.A) (mgS : X.mg "super" = none) (hg : Gl X x) (hm : X.mg x = some (.ref C)) (he : PE X e te) (hdb : (x == ("__debug__" : Str)) = false := by decide) (hs : starEach [e] X.env = (false, eval e X.env) :: starEach [] X.env := by rfl) :
    PE X (.Call (.Name x p) [e] [] pos) (fun σ H Q => te σ H fun v H1 => ∀ d a, H1 d = none → H1 a = none → d ≠ a → Q (.ref a) (upd (upd H1 d (.xd [(b.fld, v)])) a (ExcO C (some d) a))) := by
  refine ⟨fun pins s σ H Q I h => ?_⟩
  refine wpAny_Call_Name_kw (ld_glob I hg hm ?_ hdb)
  refine PySem.W.callWith_K (h₀ := X.base) I.ok.mod.kin S.kpC ?_ hs (by rfl)
  rw [hs]
  show wpAny _ _ (spliced ((false, eval e X.env) :: backTo pos (starEach [] X.env))) _ _ s
  refine Calls.spliced_cons (thn (he.run pins s σ H _ I h) fun u s1 hh => Calls.spliced_nil ?_)
  obtain ⟨v, H1, I1, r1, q1⟩ := hh
  refine ⟨I1.kIn, ?_⟩
  obtain ⟨hp, g, d, t, os⟩ := s1
  refine su_call S hr mgS I1 fun h' t' e dx tA kk ne nd dne hx hn => ?_
  obtain ⟨G, J, gk, ge, hd, na⟩ := su_side (t' := t') I1 r1 kk ne nd dne hn
  exact ⟨.ref e, _, J.laidN (t' := t') (o := ExcO C (some dx) e) gk ge na (excO_ok hx ⟨rfl, rfl⟩ rfl), rfl, q1 dx e hd (I1.hok.gone ne) dne⟩
/-! ### over data -/
def dRaise (x n : Str) (t : TDX) : TDS := fun rx DE δ => t rx δ fun d _ => rx (.exc x [(n, d)])
theorem ds_raise (S : SuK X.prog X.K b (He.ga X.K x) f fd) (hc : X.calm = true) (hr : Rm (k + 1) X.A) (mgS : X.mg "super" = none) (hg : Gl X x) (hm : X.mg x = some (.ref (He.ga X.K x))) (he : DE X B e td) (hdb : (x == ("__debug__" : Str)) = false := by decide) (hs : starEach [e] X.env = (false, eval e X.env) :: starEach [] X.env := by rfl) :
    DS X B (.Raise (some (.Call (.Name x p) [e] [] pos)) none pos2) (dRaise x b.fld td) :=
  ⟨fun rx tk => PS.imp (ps_raise hc tk (pmk_su S hr.room mgS hg hm (he.run rx tk) hdb hs)) fun DD σ H _ ⟨g, δ, DE, S0, q, k1, k2, k3, k4⟩ => ⟨g, δ, _, S0, q, fun d δ1 g1 H1 v h1 st1 S1 D1 dx hdx => by
    obtain ⟨S2, st2⟩ := S1.alloc (n := X.N.length) (o := .xd [(b.fld, v)]) hdx
    exact ⟨_, _, .exc x [(b.fld, d)], S2.ret, ⟨rfl, .inr ⟨dx, [(b.fld, v)], rfl, upd_same, rfl, .cons (D1.step st2) .nil⟩⟩, h1⟩⟩⟩
abbrev ExcF (K : PySem.W.Frag) (x : Str) : Prop := PySem.W.excIn K (He.ga K x) He.veBase "ValueError.__new__" = true ∧ PySem.W.keepIn K (.ref (He.ga K x)) = true ∧ PySem.W.subIn K (.ref (He.ga K x)) (.type "BaseException") = some true ∧ PySem.W.typeIn K (.ref (He.ga K x)) = some (.type "type")
def dRaise0 (x : Str) : TDS := fun rx DE δ => rx (.exc x [])
theorem ds_raise0 {m : Str} {j : Nat} {p2 : Pos} (q : ExcF X.K x) (hc : X.calm = true) (hg : Gl X x) (hm : X.mg x = some (.ref (He.ga X.K x))) (hdb : (x == ("__debug__" : Str)) = false := by decide) : DS X B (.Raise (some (.Call (.Name x p) [.Constant (.str m) j p2] [] pos)) none pos2) (dRaise0 x) :=
  ⟨fun rx tk => PS.imp (ps_raise hc tk (pmk_own PySem.F.excBase_ValueError q.1 hm q.2.1 (raises_own q.2.2.1 q.2.2.2) hg hdb)) fun DD σ H _ ⟨g, δ, DE, S0, q, k1, k2, k3, k4⟩ => ⟨_, _, .exc x [], S0.ret, ⟨rfl, .inl ⟨rfl, rfl⟩⟩, q⟩⟩
def dExcV (x n : Str) (t : TDX) : TDX := fun rx δ P => t rx δ fun d δ' => P (.exc x [(n, d)]) δ'
theorem de_exc (S : SuK X.prog X.K b (He.ga X.K x) f fd) (hr : Rm (k + 1) X.A) (mgS : X.mg "super" = none) (hg : Gl X x) (hm : X.mg x = some (.ref (He.ga X.K x))) (he : DE X B e td) (hdb : (x == ("__debug__" : Str)) = false := by decide) (hs : starEach [e] X.env = (false, eval e X.env) :: starEach [] X.env := by rfl) :
    DE X B (.Call (.Name x p) [e] [] pos) (dExcV x b.fld td) :=
  ⟨fun rx tk => PE.imp (pe_su S hr.room mgS hg hm (he.run rx tk) hdb hs) fun σ H Q _ ⟨g, δ, P, S0, q, k1⟩ => ⟨g, δ, _, S0, q, fun d δ1 g1 H1 v h1 st1 S1 D1 dx a hdx ha dne => by
    obtain ⟨S2, st2⟩ := S1.alloc (n := X.N.length) (o := .xd [(b.fld, v)]) hdx
    obtain ⟨S3, st3⟩ := S2.alloc (n := X.N.length) (p := a) (o := ExcO (He.ga X.K x) (some dx) a) (by rw [upd_ne (Ne.symm dne)]; exact ha)
    refine k1 _ δ1 _ _ _ h1 ((st1.trans st2).trans st3) S3 (.exc1 (gs := [(b.fld, v)]) (dd := dx) upd_same ?_ rfl (.cons ((D1.step st2).step st3) .nil))
    show upd (upd g1.F dx _) a _ dx = _
    rw [upd_ne dne, upd_same]⟩⟩
def dExcV0 (x : Str) (t : TDX) : TDX := fun rx δ P => t rx δ fun d δ' => P (.exc x []) δ'
theorem pe_exc0 (q : ExcF X.K x) (hg : Gl X x) (hm : X.mg x = some (.ref (He.ga X.K x))) (he : PE X e te) (hdb : (x == ("__debug__" : Str)) = false := by decide) (hs : starEach [e] X.env = (false, eval e X.env) :: starEach [] X.env := by rfl) :
    PE X (.Call (.Name x p) [e] [] pos) (fun σ H Q => te σ H fun _ H1 => ∀ a, H1 a = none → Q (.ref a) (upd H1 a (ExcO (He.ga X.K x) none a))) := by
  refine ⟨fun pins s σ H Q I h => ?_⟩
  refine wpAny_Call_Name_kw (ld_glob I hg hm ?_ hdb)
  refine PySem.W.callWith_K (h₀ := X.base) I.ok.mod.kin q.2.1 ?_ hs (by rfl)
  rw [hs]
  show wpAny _ _ (spliced ((false, eval e X.env) :: backTo pos (starEach [] X.env))) _ _ s
  refine Calls.spliced_cons (thn (he.run pins s σ H _ I h) fun u s1 hh => Calls.spliced_nil ?_)
  obtain ⟨v, H1, I1, r1, q1⟩ := hh
  refine ⟨I1.kIn, ?_⟩
  show wpAny _ _ (call (.ref (He.ga X.K x)) [u]) _ _ _
  obtain ⟨bm, N, nm, qn, bs, hdct, sn, sub, ab, col, dd, k0, k1, k2, k3, k5, mN, hC, hN, hni, T⟩ := exc_obj I1.kIn q.1
  refine wpAny_call_exc_subT PySem.F.excBase_ValueError T hC hN hni (fun h' a hm' => ?_) (by show 1 ≤ sizeLine; rw [sizeLine_eq]; omega)
  have hn : H1 a = none := I1.hok.gone hm'.new
  obtain ⟨t, ht, _, _⟩ := hm'.there
  exact ⟨.ref a, _, I1.laidN (o := ExcO (He.ga X.K x) none a) hm'.keeps hm'.new hn (excO_ok ht ⟨rfl, rfl⟩ rfl), rfl, q1 a hn⟩
theorem de_exc0 (q : ExcF X.K x) (hg : Gl X x) (hm : X.mg x = some (.ref (He.ga X.K x))) (he : DE X B e td) (hdb : (x == ("__debug__" : Str)) = false := by decide) (hs : starEach [e] X.env = (false, eval e X.env) :: starEach [] X.env := by rfl) : DE X B (.Call (.Name x p) [e] [] pos) (dExcV0 x td) :=
  ⟨fun rx tk => PE.imp (pe_exc0 q hg hm (he.run rx tk) hdb hs) fun σ H Q _ ⟨g, δ, P, S0, q, k1⟩ => ⟨g, δ, _, S0, q, fun d δ1 g1 H1 v h1 st1 S1 D1 a ha => by
    obtain ⟨S3, st3⟩ := S1.alloc (n := X.N.length) (p := a) (o := ExcO (He.ga X.K x) none a) ha
    exact k1 _ δ1 _ _ _ h1 (st1.trans st3) S3 (.exc0 upd_same)⟩⟩
end
end DL

namespace DL
open PySem PySem.Spec L2
open PyProof.Rows hiding St
/-! ### an object that stands untracked is tracked from now on -/
section
variable {X : Cx} {pins : List (Addr × Obj)} {σ : L2.St} {H : Hp} {s : Shared}
theorem inv_track {a : Addr} {o : HO} (I : Inv X pins σ H s) (hn : H a = none) (h0 : X.s_0.heap.get? a = none) (hp : ∀ p ∈ X.pn ++ pins, p.1 ≠ a) (nL : a ≠ X.env.locals) (nC : ∀ x c, X.env.cells.lookup x = some c → c ≠ a) (new : ObjOk X.prog X.w (upd H a o) s.heap a o) :
    Inv X pins σ (upd H a o) s := by
  have U : Un X.fs X.ex X.H_0 (upd H a o) X.s_0.heap s.heap := {
    keep := I.base.keep
    slot := I.base.slot
    free := fun b u q n hx => by rw [upd_ne (fun z => by rw [z, h0] at q; cases q)]; exact I.base.free b u q n hx
    there := I.base.there
    tups := fun b xs q => by have z := I.base.tups b xs q; rw [upd_ne (ne_of_none z hn)]; exact z
    frzs := fun b u xs q => by have z := I.base.frzs b u xs q; rw [upd_ne (ne_of_none z hn)]; exact z
    tbls := fun b ps q => by
      obtain ⟨m, z⟩ := I.base.tbls b ps q
      exact ⟨m, by rw [upd_ne (ne_of_none z hn)]; exact z⟩ }
  exact ⟨I.ok, I.os, I.bare, U, I.loc, I.cell, by rw [upd_ne (Ne.symm nL)]; exact I.free, fun x c e => by rw [upd_ne (nC x c e)]; exact I.freeC x c e, fun p q => by
    obtain ⟨e1, e2, e3⟩ := I.pin p q
    exact ⟨e1, by rw [upd_ne (hp p q)]; exact e2, e3⟩, I.hok.laidN (fun _ _ q => q) hn new, I.len⟩
end
/-! ### try: body / except C as e: y = e -/
section
variable {X : Cx} {x n y : Str} {c : Value} {i j : Nat} {body : List Stmt} {np pos pos' p1 p2 p3 : Pos} {tb : WX → TS} {Wout : WX}
def wKeep (K : PySem.W.Frag) (m : Nat) (c : Value) (i j : Nat) (Wout : WX) (D : Ends) : WX := fun cls d σ H => ∃ t, PySem.W.exmOne K cls c = some t ∧ (t = true → σ.length = m → ∃ C, cls = .ref C ∧ ∀ a, H a = none → D.nx (((σ.set i (some (.ref a))).set j (some (.ref a))).set i none) (upd H a (ExcO C d a))) ∧ (t = false → Wout cls d σ H)
theorem ps_catch (hs : X.stack = X.env :: X.outer) (hf : X.env.frame = some X.env.locals) (hex : X.ex = []) (hN : X.N.Nodup) (hi : X.N[i]? = some n) (hln : X.env.kindOf n = some .local) (hj : X.N[j]? = some y) (hlj : Loc X.env.scope y) (hfy : X.fn y = true ∨ X.env.scope.names.lookup y = some .local) (hc : Names X x c) (tk : Takes X Wout)
    (hn : ∀ (a : Addr) (pn : List (Addr × Obj)), PE (X.suite a pn) (.Name n p2) (tVar i)) (hsw : swapsWith (.Name n p2) (some (.Name y p1)) p3.line X.env = pure false)
    (hb : ∀ (W : WX) (pn : List (Addr × Obj)) (xe : Value → Shared → Prop), Takes (X.tr pn xe) W → PassesOwn (model X.prog X.w) X.A X.env xe → PSs (X.tr pn xe) body (tb W)) :
    PS X (.Try body [.ExceptHandler (some (.Name x np)) (some n) [.Assign [.Name y p1] (.Name n p2) p3] pos'] [] [] pos) (fun D σ H => tb (wKeep X.K X.N.length c i j Wout D) D σ H) := by
  refine ⟨fun pins s σ H D I h => ?_⟩
  have ok := I.ok
  have hfr : X.A.frames = some (X.env :: X.outer) := by rw [ok.frames, hs]
  refine wpAny_Try_except ?_
  refine wpAny_mono ((hb (wKeep X.K X.N.length c i j Wout D) (X.pn ++ pins) (fun e s₁ => wpAny (model X.prog X.w) X.A (noteFrame e X.env) (fun _ s₂ => wpAny (model X.prog X.w) X.A (setFlight e none) (fun _ s₃ =>
    wpAny (model X.prog X.w) X.A (handleBy e X.env [.ExceptHandler (some (.Name x np)) (some n) [.Assign [.Name y p1] (.Name n p2) p3] pos']) (SP X pins D) X.xe s₃) X.xe s₂) X.xe s₁) (fun u s' air => ?_) PassesOwn.looking).run [] s σ H D (I.toTry _) h) (fun fl s1 hsp => ?_) (fun e s1 he => he)
  · obtain ⟨a, G, sI, pins', σ', H', cls, d, rfl, J', nb, up, sky, na, os, ag, t, ht, hyes, hno⟩ := air
    have J : Inv X pins σ' H' sI := J'.ofTry ok
    rw [show (X.tr (X.pn ++ pins) _).stack = X.env :: X.outer from hs] at sky
    show wpAny (model X.prog X.w) X.A (noteFrame (.ref a) X.env) _ _ _
    refine Sky.land Zc.steady hfr hf sky fun h3 fl3 up3 => ?_
    have J3 : Inv X pins σ' H' { s' with heap := h3 } := J.landed nb fl3.1 (up.trans up3) os ag
    obtain ⟨oe3, vs3, he3, hz3, hd3⟩ := fl3.there
    have nfr : a ∉ frs (X.env :: X.outer) := fun hm => by
      obtain ⟨_, o', e', hnf⟩ := fl3.2.2.1.mem hm
      rw [he3] at e'; cases e'
      exact hnf _ hd3
    have nL : a ≠ X.env.locals := fun z => nfr (List.mem_filterMap.mpr ⟨X.env, List.mem_cons_self, by rw [hf, z]⟩)
    have nF : a ∉ X.fs := fun hm => by
      obtain ⟨e, he, q⟩ := List.mem_filterMap.mp hm
      exact nfr (List.mem_filterMap.mpr ⟨e, List.mem_cons_of_mem _ he, q⟩)
    have nI : sI.heap.get? a = none := by
      cases z : sI.heap.get? a with
      | none => rfl
      | some o =>
        have q := nb a o z (by rw [show (X.tr (X.pn ++ pins) _).stack = X.env :: X.outer from hs]; exact nfr)
        rw [fl3.2.1] at q; cases q
    have n0 : X.s_0.heap.get? a = none := by
      cases z : X.s_0.heap.get? a with
      | none => rfl
      | some o =>
        obtain ⟨o', q⟩ := J.base.there a o z (by rw [hex]; exact fun z => nomatch z)
        rw [nI] at q; cases q
    have S3 := J3.suite he3 hd3 na nL nF
    refine wpAny_handleBy_cons (codeAny_handlers_test ?_) (by intro q; cases q)
    have LT : PySem.W.Looks (model X.prog X.w) h3 (typeOf (.ref a)) cls := fun A Q E s k q => wpAny_typeOf_ref (k _ _ he3) (by rw [hz3.1]; exact q)
    have LM := PySem.W.exm_one (M := model X.prog X.w) (J3.kIn) LT ht
    have test : ∀ {Q : Value → Shared → Prop} {E : Value → Shared → Prop}, Q c { s' with heap := h3 } → wpAny (model X.prog X.w) (X.A.mark (some (.ref a))) (eval (.Name x np) X.env) Q E { s' with heap := h3 } := fun {Q E} q => by
      obtain ⟨hg, hdbg, hm | ⟨hm, hv, hnn⟩⟩ := hc
      · exact ld_glob (X := X.suite a ((a, oe3) :: (X.pn ++ pins))) S3 hg hm q hdbg
      · exact ld_blt (X := X.suite a ((a, oe3) :: (X.pn ++ pins))) S3 hg hm hv q hnn hdbg
    refine test (LM.here ?_)
    cases t with
    | true =>
      obtain ⟨C, ec, hyes⟩ := hyes rfl J.len
      refine codeAny_handlers_suite_as ?_
      refine HandSPX.lands_againZ fl3 fun h4 fl4 up4 => ?_
      have J4 : Inv X pins σ' H' { s' with heap := h4 } := J.landed nb fl4.1 ((up.trans up3).trans up4) os ag
      obtain ⟨oe4, vs4, he4, hz4, hd4⟩ := fl4.there
      have S4 := J4.suite he4 hd4 na nL nF
      refine store_ok (X := X.suite a ((a, oe4) :: (X.pn ++ pins))) (v := .ref a) S4 hN hi (.inl hln) rfl (fun s5 S5 => ?_) (.inr hln)
      have hlen : i < σ'.length := by rw [J4.len]; exact (List.getElem?_eq_some_iff.mp hi).1
      refine wpAny_mono ((pss_one (ps_set (X := X.suite a ((a, oe4) :: (X.pn ++ pins))) (pos := p3) (pos' := p1) hN hj hlj (hn a _) hsw hfy)).run [] s5 _ H' { nx := fun σ6 H6 => σ6 = (σ'.set i (some (.ref a))).set j (some (.ref a)) ∧ H6 = H', rt := fun _ _ => False } S5 ⟨.ref a, by rw [List.getElem?_set_self hlen], rfl, rfl⟩) (fun fl s6 hsp => ?_) (fun _ _ z => False.elim z)
      cases fl with
      | next =>
        obtain ⟨σ6, H6, S6, rfl, rfl⟩ := hsp
        have pin6 := S6.pin (a, oe4) (List.mem_append_left _ List.mem_cons_self)
        have J6 := inv_track (o := ExcO C d a) (S6.unsuite ok) na n0 (fun p hp z => by
          have q := (J.pin p hp).1
          rw [z, nI] at q; cases q) nL (fun z k e q => by
          obtain ⟨v, o, w1, _⟩ := J.cell z k e
          rw [q, nI] at w1; cases w1) (excO_ok pin6.1 (by rw [← ec]; exact hz4) hd4)
        exact gone_ok J6 hN hi hln fun s7 J7 => ⟨_, _, J7, hyes a na⟩
      | brk => exact (hsp.elim fun _ z => z.elim fun _ z => z.2).elim
      | cont => exact (hsp.elim fun _ z => z.elim fun _ z => z.2).elim
      | ret u =>
        obtain ⟨v6, σ6, H6, S6, r6, q6⟩ := hsp
        exact q6.elim
    | false =>
      show wpAny _ X.A (handleBy (.ref a) X.env []) _ _ _
      refine wpAny_handleBy_nil ?_
      obtain ⟨f1, f2, f3, oe, vs, T, oT, ts', he, hz, hd, h1, hr⟩ := id fl3
      unfold PySem.passOn
      refine wpAny_bind (wpAny_field he hd h1 ?_)
      rw [if_neg (show ¬ ((Value.ref T == Value.none) = true) from by simp)]
      have fin : wpAny (model X.prog X.w) X.A (setFlight (.ref a) X.env.frame) (fun _ s4 => wpAny (model X.prog X.w) X.A (throw (.ref a) : Sem Flow) (SP X pins D) X.xe s4) X.xe { s' with heap := h3 } := by
        rw [hf]
        refine HandSPX.setFlight_upZ fl3 fun h4 hh4 up4 => wpAny_throw (tk _ _ ?_)
        exact ⟨a, G, sI, pins, σ', H', cls, d, rfl, J, nb, (up.trans up3).trans up4, .inr (.inr (by rw [hs]; exact hh4)), na, os, ag, hno rfl⟩
      first
        | exact wpAny_bind (wpAny_pure (wpAny_bind fin))
        | exact wpAny_bind fin
  · cases fl with
    | next =>
      obtain ⟨σ', H', J', q⟩ := hsp
      exact wpAny_execs_nil ⟨σ', H', J'.ofTry ok, q⟩
    | brk =>
      obtain ⟨σ', H', J', q⟩ := hsp
      exact ⟨σ', H', J'.ofTry ok, q⟩
    | cont =>
      obtain ⟨σ', H', J', q⟩ := hsp
      exact ⟨σ', H', J'.ofTry ok, q⟩
    | ret u =>
      obtain ⟨v, σ', H', J', r, q⟩ := hsp
      exact ⟨v, σ', H', J'.ofTry ok, r, q⟩
end
end DL

namespace DL
open PySem PySem.Spec L2
open PyProof.Rows hiding St
/-! ### things to call that take nothing -/
/-- s1, H1 come later than s, H -/
structure Lat (s : Shared) (H : Hp) (s1 : Shared) (H1 : Hp) : Prop where
  keep : ∀ b o, s.heap.get? b = some o → H b = none → ∃ sl, s1.heap.get? b = some { o with slots := sl }
  free : ∀ b o, s.heap.get? b = some o → H b = none → H1 b = none
theorem Lat.trans {s s1 s2 : Shared} {H H1 H2 : Hp} (a : Lat s H s1 H1) (b : Lat s1 H1 s2 H2) : Lat s H s2 H2 :=
  ⟨fun p o e n => by
    obtain ⟨sl, e1⟩ := a.keep p o e n
    obtain ⟨sl2, e2⟩ := b.keep p _ e1 (a.free p o e n)
    exact ⟨sl2, e2⟩, fun p o e n => by
    obtain ⟨sl, e1⟩ := a.keep p o e n
    exact b.free p _ e1 (a.free p o e n)⟩
theorem lat_of {X : Cx} {pins : List (Addr × Obj)} {σ : L2.St} {H : Hp} {s : Shared} (I : Inv X pins σ H s) (hx : X.ex = []) : Lat X.s_0 X.H_0 s H :=
  ⟨fun b o e n => I.base.any e n (by rw [hx]; exact fun z => nomatch z), fun b o e n => I.base.free b o e n (by rw [hx]; exact fun z => nomatch z)⟩
abbrev TL := (D → Prop) → (D → Prop) → Prop
/-- the object at f, called at any later time, does as tl says -/
def CallD (P : Program) (w : World) (K : PySem.W.Frag) (mg : Str → Option Value) (base : Heap) (T : List (Addr × Str)) (k : Nat) (s : Shared) (F H : Hp) (W : DW) (f : Addr) (tl : TL) : Prop :=
  ∀ (A : Around) (outer : List PySem.Env) (s1 : Shared) (F1 H1 : Hp) (W1 : DW) (Q : VK) (E : XK) (P' RX : D → Prop), Rm k A → Env0 P w K mg base A outer s1 H1 → Lat s H s1 H1 → Ret ⟨F, H, W, T⟩ F1 H1 W1 → tl P' RX →
    (∀ d v F' W' H', P' d → Ret ⟨F1, H1, W1, T⟩ F' H' W' → Den K W' F' v d → Q v H') → (∀ cls dd H', liftX K ⟨F1, H1, W1, T⟩ RX cls dd H' → E cls dd H') →
    PySem.W.FnAt f s1.heap ∧ codeAny (model P w) A (.call (.ref f) ⟨[], []⟩) (CR (L2.CX P w) outer P w H1 s1 Q E) s1
section
variable {P : Program} {w : World} {K : PySem.W.Frag} {mg : Str → Option Value} {base : Heap} {T : List (Addr × Str)} {k : Nat} {s s1 : Shared} {F H F1 H1 : Hp} {W W1 : DW} {f : Addr} {tl : TL}
theorem CallD.later (c : CallD P w K mg base T k s F H W f tl) (l : Lat s H s1 H1) (r : Ret ⟨F, H, W, T⟩ F1 H1 W1) : CallD P w K mg base T k s1 F1 H1 W1 f tl := fun A outer s2 F2 H2 W2 Q E P' RX hr e0 l2 r2 h k1 k2 =>
  c A outer s2 F2 H2 W2 Q E P' RX hr e0 (l.trans l2) (r.trans r2) h k1 k2
end

def shOnly (δ : Env) : Env := δ.map fun s => match s with
  | some (.sh d) => some (.sh d)
  | _ => none
theorem shOnly_get {δ : Env} {i : Nat} {s : Sl} (h : (shOnly δ)[i]? = some (some s)) : ∃ d, s = .sh d ∧ δ[i]? = some (some (.sh d)) := by
  unfold shOnly at h
  rw [List.getElem?_map] at h
  cases q : δ[i]? with
  | none => rw [q] at h; cases h
  | some o =>
    rw [q] at h
    cases o with
    | none => cases h
    | some s0 =>
      cases s0 with
      | sh d => cases h; exact ⟨d, rfl, rfl⟩
      | _ => cases h
theorem has_plain {W : DW} {F H : Hp} {a : Addr} (x : DrawOk W F H) (h : has W a) : ∃ o, H a = some o ∧ plainO o := by
  obtain ⟨w, e, h⟩ := h
  obtain ⟨⟨ls, r, t, h1, h2, h3, _⟩, _⟩ := x w e
  rcases h with h | h | h <;> subst h
  · exact ⟨_, h1, trivial⟩
  · exact ⟨_, h2, trivial⟩
  · exact ⟨_, h3, trivial⟩
section
open LamX
variable {X : Cx} {pins : List (Addr × Obj)} {σ : L2.St} {H : Hp} {s s1 : Shared}
theorem lam_start {A : Around} {outer : List PySem.Env} {E : XK} {scope : Scope} {f c' : Addr} {h₁ : Heap} {tk : Nat} {HZ : Hp} (I : Inv X pins σ H s) (L : LamS X.env.scope scope) (e0 : Env0 X.prog X.w X.K X.mg X.base A outer s1 HZ) (hd : A.handled = none)
    (lat : Lat s H s1 HZ) (hns : h₁.Ns s1.heap.objs.size fun y => ([] : List (Str × Value)).reverse.lookup y) (kp : ∀ b o, s1.heap.get? b = some o → h₁.get? b = some o) :
    Inv (lamCx X A outer s1 HZ E scope f c') [] σ HZ { s1 with heap := h₁, toks := tk } := by
  have hfree := L.has I.ok
  have cm : ∀ {y c}, (cloFrom X.env.cells scope.names []).lookup y = some c → X.env.cells.lookup y = some c := fun {y c} e => by
    rcases cloFrom_mem (PySem.mem_of_lookup e) with hm | ⟨h1, h2⟩
    · cases hm
    · obtain ⟨c1, hc⟩ := hfree _ h1 rfl
      have hc2 : X.env.cells.lookup y = some c1 := hc
      rw [hc2] at h2
      rw [show c = c1 from h2]; exact hc2
  have look : ∀ {y}, scope.names.lookup y = some .free → ∃ c, (cloFrom X.env.cells scope.names []).lookup y = some c := fun {y} hl =>
    mem_lookup (cloFrom_has (cells := X.env.cells) (acc := []) (show (y, NameKind.free) ∈ scope.names from PySem.mem_of_lookup hl))
  have cellK : ∀ {c : Addr} {v : Option Value}, H c = none → s.heap.IsCell c v → h₁.IsCell c v := fun {c v} n ⟨o, ho, hd⟩ => by
    obtain ⟨sl, q⟩ := lat.keep c o ho n
    exact ⟨_, kp _ _ q, hd⟩
  have noA : ∀ b : Addr, b ∉ (lamCx X A outer s1 HZ E scope f c').ex := fun b z => nomatch (show b ∈ ([] : List Addr) from z)
  refine ⟨⟨e0.mod, L.kind, rfl, rfl, Nat.le_refl _, fun y z c e1 e2 => I.ok.inj y z c (cm e1) (cm e2), fun y hy => ?_, fun y c z _ => ?_, fun _ => hd, Around.frames_deeper e0.frames, .inr ⟨rfl, rfl⟩, fun b z => absurd z (noA b), e0.bs, e0.bsz, fun b _ _ => noA b,
      fun b z => absurd z (noA b), e0.funs, e0.frf⟩,
    rfl, e0.bare, Un.kept kp, ⟨_, hns, fun i y v e1 e2 e3 => ?_⟩, fun y c e => ?_, e0.hok.fresh (Nat.le_refl _), fun y c e => ?_, fun q hq => (nomatch (show q ∈ ([] : List (Addr × Obj)) from hq)), e0.hok.kept kp, I.len⟩
  · rcases (show scope.names.lookup y = some .cell ∨ scope.names.lookup y = some .free from hy) with hy | hy
    · exact absurd rfl (L.own _ (PySem.mem_of_lookup hy)).2
    · exact look hy
  · exact Bool.noConfusion (show false = true from z)
  · rcases (show Vis scope y from e3) with k | k | k
    · exact absurd rfl (L.own _ (PySem.mem_of_lookup k)).1
    · exact absurd rfl (L.own _ (PySem.mem_of_lookup k)).2
    · obtain ⟨m, hn, hl⟩ := I.loc
      have fr := L.free _ (PySem.mem_of_lookup k) rfl
      obtain ⟨w', r, q⟩ := hl i y v e1 e2 (fr.elim (fun k => .inr (.inl k)) fun k => .inr (.inr k))
      obtain ⟨c2, h2⟩ := look k
      refine ⟨w', r, .inr ⟨.inr k, c2, h2, ?_⟩⟩
      have c1 := cm h2
      rcases q with ⟨k', _⟩ | ⟨_, c3, e', z⟩
      · have k'' : X.env.scope.names.lookup y = some .local := k'
        rcases fr with k2 | k2 <;> rw [show X.env.scope.names.lookup y = _ from k2] at k'' <;> cases k''
      · rw [c1] at e'
        cases e'
        exact cellK (I.freeC y _ c1) z
  · obtain ⟨w', z⟩ := I.cell y c (cm e)
    exact ⟨w', cellK (I.freeC y c (cm e)) z⟩
  · obtain ⟨v, o, ho, hd⟩ := I.cell y c (cm e)
    exact lat.free c o ho (I.freeC y c (cm e))
theorem callD_lam {B : Base} {g : Gs} {δ : Env} {tb : TDX} {k : Nat} {scope : Scope} {params : Arguments} {body : Expr} {f c' : Addr} {pm ctv : Value} (I : Inv X pins σ H s) (S : Stt X.K B g H σ δ) (L : LamS X.env.scope scope)
    (hf : s.heap.get? f = some (PySem.W.kla_obj "<lambda>" (X.env.qual ++ "<lambda>") params body scope (cloFrom X.env.cells scope.names []) pm c' ctv)) (hfn : H f = none) (hc : H c' = some (CodeO c' (X.env.qual ++ "<lambda>")))
    (hbind : bindArgs (PySem.W.kla_fn "<lambda>" (X.env.qual ++ "<lambda>") params body scope (cloFrom X.env.cells scope.names []) pm (.ref c') ctv) ⟨[], []⟩ = pure [])
    (hbody : ∀ (A : Around) (outer : List PySem.Env) (s1 : Shared) (H1 : Hp) (E : XK) (B' : Base), B'.T = B.T → Rm k (A.deeper (lamEnv X scope s1.heap.objs.size f c')) → DE (lamCx X A outer s1 H1 E scope f c') B' body tb) :
    CallD X.prog X.w X.K X.mg X.base B.T (k + 1) s g.F H g.W f (fun P' RX => tb RX (shOnly δ) fun d _ => P' d) := by
  intro A outer s1 F1 H1 W1 Q E P' RX hr e0 lat ret htl k1 k2
  obtain ⟨sl, of1⟩ := lat.keep f _ hf hfn
  refine ⟨⟨_, _, _, _, of1⟩, ?_⟩
  have nh : ¬ has W1 c' := fun h => by
    by_cases q : has g.W c'
    · obtain ⟨o, e, po⟩ := has_plain S.ret.drw q
      rw [hc] at e; cases e; exact po
    · have z := ret.dnew c' h q
      rw [show (Base.mk g.F H g.W B.T).H c' = H c' from rfl, hc] at z; cases z
  have hc1 : H1 c' = some (CodeO c' (X.env.qual ++ "<lambda>")) := ret.old c' _ hc nh fun ps z => codeO_ne ps z
  obtain ⟨⟨oc, vs, t, hoc, hdc, hvc⟩, _, _⟩ := e0.hok c' _ hc1
  refine PySem.W.kla_callFunE hr.room.depth of1 rfl L.co L.gen rfl ⟨c', oc, vs, t, rfl, hoc, hdc, hvc⟩ ?_
  rw [hbind]
  have lim : s1.heap.NoLimit := e0.mod.nolimit.keeps fun b o e => (e0.bs b o e).1
  refine wpAny_pure (wpAny_newFunctionEnv (fun y hy => (L.own y hy).2) (fun y hy => (nomatch hy)) (fun h₁ hns hsb => ⟨lim.fresh _ hsb, ?_⟩) L.kind)
  show codeAny _ _ (.expr body (lamEnv X scope s1.heap.objs.size f c')) _ _
  have kp : ∀ b o, s1.heap.get? b = some o → h₁.get? b = some o := fun b o e => hsb.extBut b o (Nat.ne_of_lt (Heap.lt_size e)) (Heap.get?_push_of_some _ e)
  have J : Inv (lamCx X A outer s1 H1 E scope f c') [] σ H1 { s1 with heap := h₁, toks := s1.toks + ([] : List (Str × Value)).length } := lam_start I L e0 hr.room.hd lat hns kp
  have tk := takes_of (X := lamCx X A outer s1 H1 E scope f c') (E := E) rfl rfl rfl rfl
  have body := (hbody A outer s1 H1 E ⟨F1, H1, W1, B.T⟩ rfl (hr.deeper _)).run RX (tk.imp fun c d σ H' hx => k2 c d H' hx)
  have St : Stt X.K ⟨F1, H1, W1, B.T⟩ ⟨F1, fun _ => none, W1⟩ H1 σ (shOnly δ) := ⟨Ret.refl ret.gd, fun a k e => (nomatch e), by unfold shOnly; rw [List.length_map]; exact S.len, fun i sl e => by
    obtain ⟨d, rfl, e2⟩ := shOnly_get e
    obtain ⟨v, e3, r⟩ := S.env i _ e2
    exact ⟨v, e3, r.up ret.up ret.wle⟩⟩
  refine PySem.W.kla_codeExpr (wpAny_mono (body.run [] _ _ H1 Q J ⟨_, _, _, St, htl, fun d δ' g' H' v hp _ S' r => k1 d v _ _ H' hp S'.ret r⟩) (fun v s' hq => ?_) fun e s' hq => hq)
  obtain ⟨w', H', J', rv, q⟩ := hq
  exact ⟨w', H', J'.os, J'.bare, J'.base, J'.hok, rv, q⟩
end

section
open LamX
variable {X : Cx} {pins : List (Addr × Obj)} {σ : L2.St} {H : Hp} {s : Shared}
/-- a lambda is made; what is tracked stays tracked -/
theorem lam_new {T : List (Addr × Str)} {c P : Addr} {params : Arguments} {body : Expr} {scope : Scope} {pos : Pos} {E : Value → Shared → Prop} {Q : Value → Shared → Prop} (I : Inv X pins σ H s) (TB : TabB X.base X.mg c P) (hcode : X.env.code = .ref c)
    (hm : (P, X.env.qual ++ "<lambda>") ∈ T) (hu : ∀ p ∈ T, p.1 = P → p.2 = X.env.qual ++ "<lambda>") (hT : Tabs T H) (hdef : defaultsOf params X.env = ([], [])) (hfree : ∀ y ∈ scope.names, y.2 = .free → ∃ c, X.env.cells.lookup y.1 = some c)
    (h : ∀ (f c' : Addr) (pm ctv : Value) (H1 : Hp) (s' : Shared), Inv X pins σ H1 s' → ExtN H H1 → (∀ a, H a ≠ none → H1 a ≠ none) → Tabs T H1 →
      s'.heap.get? f = some (PySem.W.kla_obj "<lambda>" (X.env.qual ++ "<lambda>") params body scope (cloFrom X.env.cells scope.names []) pm c' ctv) → H1 f = none → H1 c' = some (CodeO c' (X.env.qual ++ "<lambda>")) → Q (.ref f) s') :
    wpAny (model X.prog X.w) X.A (eval (.Lambda params body scope pos) X.env) Q E s := by
  obtain ⟨ps, hP, ht, ha⟩ := hT _ hm
  refine PySem.W.kla_eval hdef ?_
  have bP : s.heap.BuiltinsAt X.mg P := TB.bm.keeps I.bk
  have hP' : s.heap.get? P = some { cls := .none, data := .fields ps } := I.hok P _ hP
  cases hc : codeAmong pos ps.toList with
  | some cv =>
    obtain ⟨c', e, hco⟩ := ha pos cv hc
    subst e
    refine PySem.W.kla_makeFunctionHit (mg := X.mg) (c := c) (P := P) (ps := ps) (closure_ok hfree) I.ok.glob (I.mod.glob.keeps I.bk) hcode (TB.code.keeps I.bk) hP' ht hc bP fun ctv h' tk hx hsz => ?_
    exact h h'.objs.size c' ((X.mg "__name__").getD .none) ctv H _ (I.kept fun b o e => Heap.get?_push_of_some _ (hx b o e)) (ExtN.refl H) (fun _ z => z) hT (Heap.get?_push_size _ rfl) (I.hok.fresh hsz) hco
  | none =>
    refine PySem.W.kla_makeFunction (mg := X.mg) (c := c) (P := P) (ps := ps) (closure_ok hfree) I.ok.glob (I.mod.glob.keeps I.bk) hcode (TB.code.keeps I.bk) hP' ht hc TB.gP bP fun c' ctv h' tk hx hge hlt hrec htb => ?_
    obtain ⟨c2, oc, vs, t, e2, hoc, hd, hv⟩ := hrec
    cases e2
    have hsz : s.heap.objs.size ≤ h'.objs.size := Nat.le_trans hge (Nat.le_of_lt hlt)
    have nC : H c' = none := I.hok.fresh hge
    have I1 := inv_table (t' := tk) (more := #[rawInt pos.line, rawInt pos.col, .ref c']) (h' := h'.push (PySem.W.kla_obj "<lambda>" (X.env.qual ++ "<lambda>") params body scope (cloFrom X.env.cells scope.names []) ((X.mg "__name__").getD .none) c' ctv)) I hP
      (fun b o hb e => Heap.get?_push_of_some _ (hx b o hb e)) (Heap.get?_push_of_some _ htb) hge ⟨oc, vs, t, Heap.get?_push_of_some _ hoc, hd, hv⟩
    have hE : ExtN H (upd (upd H P (.tbl (ps ++ #[rawInt pos.line, rawInt pos.col, .ref c']))) c' (CodeO c' (X.env.qual ++ "<lambda>"))) := fun b o e n => by
      rw [upd_ne (ne_of_none e nC), upd_ne (fun z => n ps (Option.some.inj (e.symm.trans (by rw [z]; exact hP))))]
      exact e
    have eL : (ps ++ #[rawInt pos.line, rawInt pos.col, .ref c']).toList = ps.toList ++ [rawInt pos.line, rawInt pos.col, .ref c'] := by simp
    refine h h'.objs.size c' ((X.mg "__name__").getD .none) ctv _ _ I1 hE (fun a z => upd_thr a (upd_thr a z)) (fun p hp => ?_) (Heap.get?_push_size _ rfl) ?_ upd_same
    · by_cases hb : p.1 = P
      · rw [hu p hp hb, hb]
        refine ⟨_, by rw [upd_ne (ne_of_none hP nC), upd_same], by rw [eL]; exact PySem.TriplesOk_snoc _ _ _ _ ht, fun p' cv hcv => ?_⟩
        rw [eL] at hcv
        rcases among_app _ ht hcv with z | z
        · obtain ⟨c0, e1, e2⟩ := ha p' cv z
          exact ⟨c0, e1, hE _ _ e2 codeO_ne⟩
        · exact ⟨c', z, upd_same⟩
      · obtain ⟨ps', a1, a2, a3⟩ := hT p hp
        refine ⟨ps', by rw [upd_ne (ne_of_none a1 nC), upd_ne hb]; exact a1, a2, fun p' cv hcv => ?_⟩
        obtain ⟨c0, e1, e2⟩ := a3 p' cv hcv
        exact ⟨c0, e1, hE _ _ e2 codeO_ne⟩
    · rw [upd_ne (Nat.ne_of_gt hlt), upd_ne (Nat.ne_of_gt (Nat.lt_of_lt_of_le (Heap.lt_size hP') hsz))]
      exact I.hok.fresh hsz
end
section
variable {K : PySem.W.Frag} {B : Base} {g : Gs} {H : Hp} {σ : L2.St} {δ : Env} {n : Nat}
theorem Stt.extN {H1 : Hp} (S : Stt K B g H σ δ) (e : LamX.ExtN H H1) (th : ∀ a, H a ≠ none → H1 a ≠ none) (t : LamX.Tabs B.T H1) : Stt K B g H1 σ δ ∧ Step n g H g H1 := by
  have kp : ∀ a o, H a = some o → plainO o → H1 a = some o := fun a o h p => e a o h p.tbl
  refine ⟨⟨⟨fun a o h => e a o (S.ret.sub a o h) (S.ret.fnt a o h), S.ret.up, fun a o h nh nt => e a o (S.ret.old a o h nh nt) nt, fun a h => th a (S.ret.there a h), S.ret.froz, S.ret.wle, S.ret.drw.keep fun a ha => ⟨?_, rfl⟩, t, S.ret.dnew, S.ret.fnt⟩, fun a k h => ?_, S.len, fun i sl q => ?_⟩, ⟨Up.refl _, WLe.refl _, th, fun a k h _ => ⟨h, ?_⟩⟩⟩
  · obtain ⟨o, z, p⟩ := has_plain S.ret.drw ha
    rw [z, kp a o z p]
  · obtain ⟨c1, c2, ⟨o, c3, c5⟩, c4⟩ := S.own a k h
    exact ⟨c1, c2, ⟨o, kp a o c3 c5, c5⟩, c4⟩
  · have z := S.env i sl q
    cases sl with
    | sh d => exact z
    | ol ds =>
      obtain ⟨a, xs, e1, e2, e3, r⟩ := z
      exact ⟨a, xs, e1, e2, kp _ _ e3 trivial, r⟩
    | od kvs =>
      obtain ⟨a, ks, e1, e2, e3, r⟩ := z
      exact ⟨a, ks, e1, e2, kp _ _ e3 trivial, r⟩
    | oi m c fs =>
      obtain ⟨a, dx, gs, e1, e2, e3, r⟩ := z
      exact ⟨a, dx, gs, e1, e2, kp _ _ e3 trivial, r⟩
  · obtain ⟨_, _, ⟨o, c3, c5⟩, _⟩ := S.own a k h
    rw [c3, kp a o c3 c5]
end
/-! ### a def that takes such a thing -/
structure FnC (P : Program) (w : World) (K : PySem.W.Frag) (mg : Str → Option Value) (base : Heap) (T : List (Addr × Str)) (x : Str) (kc k : Nat) (wpG : TL → TL) : Prop where
  ex : ∃ (f : Addr) (fd : FuncData) (a : Str), mg x = some (.ref f) ∧ PySem.W.keepIn K (.ref f) = true ∧ (∀ (s : Shared) (u : Value), BindsTo s fd ⟨[u], []⟩ [(a, u)]) ∧
    ∀ (A : Around) (outer : List PySem.Env) (s : Shared) (F H : Hp) (W : DW) (u : Value) (fl : Addr) (tl : TL) (Q : VK) (E : XK) (P' RX : D → Prop), u = .ref fl → Rm k A → Env0 P w K mg base A outer s H → Gd T F H W → BindsTo s fd ⟨[u], []⟩ [(a, u)] → CallD P w K mg base T kc s F H W fl tl → wpG tl P' RX →
      (∀ d v F' W' H', P' d → Ret ⟨F, H, W, T⟩ F' H' W' → Den K W' F' v d → Q v H') → (∀ cls dd H', liftX K ⟨F, H, W, T⟩ RX cls dd H' → E cls dd H') → codeAny (model P w) A (.call (.ref f) ⟨[u], []⟩) (CR (L2.CX P w) outer P w H s Q E) s
section
open LamX
variable {X : Cx} {B : Base} {x : Str} {kc k : Nat} {wpG : TL → TL} {p lpos pos : Pos} {tb : TDX}
def dLam (wpG : TL → TL) (tb : TDX) : TDX := fun rx δ P => wpG (fun P' RX => tb RX (shOnly δ) fun d _ => P' d) (fun d => P d δ) rx
theorem de_lam {c Pt : Addr} {params : Arguments} {body : Expr} {scope : Scope} (G : FnC X.prog X.w X.K X.mg X.base B.T x (kc + 1) k wpG) (hr : Rm k X.A) (hg : Gl X x) (TB : TabB X.base X.mg c Pt) (hcode : X.env.code = .ref c) (hmT : (Pt, X.env.qual ++ "<lambda>") ∈ B.T) (hu : ∀ p ∈ B.T, p.1 = Pt → p.2 = X.env.qual ++ "<lambda>")
    (L : LamS X.env.scope scope) (hdef : defaultsOf params X.env = ([], [])) (hbind : ∀ (q : Str) (cl : List (Str × Addr)) (pm cv ctv : Value), bindArgs (PySem.W.kla_fn "<lambda>" q params body scope cl pm cv ctv) ⟨[], []⟩ = pure [])
    (hbody : ∀ (f c' : Addr) (A : Around) (outer : List PySem.Env) (s1 : Shared) (H1 : Hp) (E : XK) (B' : Base), B'.T = B.T → Rm kc (A.deeper (lamEnv X scope s1.heap.objs.size f c')) → DE (lamCx X A outer s1 H1 E scope f c') B' body tb)
    (hdb : (x == ("__debug__" : Str)) = false := by decide) : DE X B (.Call (.Name x p) [.Lambda params body scope lpos] [] pos) (dLam wpG tb) := by
  obtain ⟨f, fd, a, hm, hk, hb, go⟩ := G.ex
  refine ⟨fun rx tk => ⟨fun pins s σ H Q I h => ?_⟩⟩
  obtain ⟨g, δ, P, S, q, k1⟩ := h
  refine wpAny_Call_Name_kw (ld_glob I hg hm ?_ hdb)
  refine PySem.W.callWith_K (h₀ := X.base) I.ok.mod.kin hk ?_ (by rfl) (by rfl)
  show wpAny _ _ (spliced ((false, eval (.Lambda params body scope lpos) X.env) :: backTo pos (starEach [] X.env))) _ _ s
  refine Calls.spliced_cons (lam_new I TB hcode hmT hu S.ret.tab hdef (L.has I.ok) fun fl c' pm ctv H1 s' I1 eN th T1 hf hfn hco => Calls.spliced_nil ⟨I1.kIn, ?_⟩)
  obtain ⟨S1, st1⟩ := S.extN (n := X.N.length) eN th T1
  have CA := callD_lam (tb := tb) (k := kc) I1 S1 L hf hfn hco (hbind _ _ _ _ _) (fun A o s1 H1 E B' e hr => hbody fl c' A o s1 H1 E B' e hr)
  refine wpAny_call (codeAny_mono (go X.A X.stack s' g.F H1 g.W (.ref fl) fl _ Q (liftX X.K B rx) _ rx rfl hr I1.env0 S1.ret.gd (hb s' _) CA q (fun d v F' W' H' hp rt dn => ?_) fun cls dd H' hx => liftX.trans S1.ret hx) fun r s2 hq => ?_)
  · obtain ⟨S2, st2⟩ := S1.after (n := X.N.length) rt
    exact k1 d δ _ H' v hp (st1.trans st2) S2 dn
  · have z := after_call I1 (passes_lift tk) hq
    rcases r with e | fl
    · exact z
    · cases fl <;> exact z
end
end DL

namespace DL
open PySem PySem.Spec L2
open PyProof.Rows hiding St
section
variable {X : Cx} {B : Base} {kc k i : Nat} {fl : Addr} {tl : TL} {wpG : TL → TL} {a x : Str} {p p1 p2 pos : Pos}
/-- a(), a the parameter that holds such a thing -/
def dThunk (i : Nat) (fl : Addr) (tl : TL) : TDX := fun rx δ P => δ[i]? = some (some (.sh (.adr fl))) ∧ tl (fun d => P d δ) rx
theorem de_thunk (CA : CallD X.prog X.w X.K X.mg X.base B.T kc X.s_0 B.F B.H B.W fl tl) (hH : B.H = X.H_0) (hx : X.ex = []) (hr : Rm kc X.A) (hn : PE X (.Name a p1) (tVar i)) : DE X B (.Call (.Name a p1) [] [] p2) (dThunk i fl tl) := by
  refine ⟨fun rx tk => ⟨fun pins s σ H Q I h => ?_⟩⟩
  obtain ⟨g, δ, P, S, ⟨e, q⟩, k1⟩ := h
  obtain ⟨v, e1, r⟩ := S.env i _ e
  cases r
  refine wpAny_Call_Name_kw (thn (hn.run pins s σ H (fun v H1 => v = .ref fl ∧ H1 = H) I ⟨_, e1, rfl, rfl⟩) fun u s1 ⟨v, H1, I1, r1, q1⟩ => ?_)
  obtain ⟨rfl, rfl⟩ := q1
  obtain rfl : u = Value.ref fl := r1
  have z := CA X.A X.stack s1 g.F H1 g.W Q (liftX X.K B rx) _ rx hr I1.env0 (by rw [hH]; exact lat_of I1 hx) S.ret q (fun d v F' W' H' hp rt dn => by
    obtain ⟨S2, st2⟩ := S.after (n := X.N.length) rt
    exact k1 d δ _ H' v hp st2 S2 dn) fun cls dd H' hx => liftX.trans S.ret hx
  refine PySem.W.callWith_F0 z.1 (wpAny_call (codeAny_mono z.2 fun r s2 hq => ?_))
  have z := after_call I1 (passes_lift tk) hq
  rcases r with e | fl
  · exact z
  · cases fl <;> exact z
/-- g(a) -/
def dPass (i : Nat) (fl : Addr) (tl : TL) (wpG : TL → TL) : TDX := fun rx δ P => δ[i]? = some (some (.sh (.adr fl))) ∧ wpG tl (fun d => P d δ) rx
theorem de_pass (G : FnC X.prog X.w X.K X.mg X.base B.T x kc k wpG) (CA : CallD X.prog X.w X.K X.mg X.base B.T kc X.s_0 B.F B.H B.W fl tl) (hH : B.H = X.H_0) (hx : X.ex = []) (hr : Rm k X.A) (hg : Gl X x) (hn : PE X (.Name a p1) (tVar i)) (hs : starEach [.Name a p1] X.env = (false, eval (.Name a p1) X.env) :: starEach [] X.env := by rfl)
    (hdb : (x == ("__debug__" : Str)) = false := by decide) : DE X B (.Call (.Name x p) [.Name a p1] [] pos) (dPass i fl tl wpG) := by
  obtain ⟨f, fd, a', hm, hk, hb, go⟩ := G.ex
  refine ⟨fun rx tk => ⟨fun pins s σ H Q I h => ?_⟩⟩
  obtain ⟨g, δ, P, S, ⟨e, q⟩, k1⟩ := h
  obtain ⟨v, e1, r⟩ := S.env i _ e
  cases r
  refine wpAny_Call_Name_kw (ld_glob I hg hm ?_ hdb)
  refine PySem.W.callWith_K (h₀ := X.base) I.ok.mod.kin hk ?_ hs (by rfl)
  rw [hs]
  show wpAny _ _ (spliced ((false, eval (.Name a p1) X.env) :: backTo pos (starEach [] X.env))) _ _ s
  refine Calls.spliced_cons (thn (hn.run pins s σ H (fun v H1 => v = .ref fl ∧ H1 = H) I ⟨_, e1, rfl, rfl⟩) fun u s1 ⟨v, H1, I1, r1, q1⟩ => Calls.spliced_nil ⟨I1.kIn, ?_⟩)
  obtain ⟨rfl, rfl⟩ := q1
  obtain rfl : u = Value.ref fl := r1
  have CL := CA.later (s1 := s1) (H1 := H1) (by rw [hH]; exact lat_of I1 hx) S.ret
  refine wpAny_call (codeAny_mono (go X.A X.stack s1 g.F H1 g.W (.ref fl) fl tl Q (liftX X.K B rx) _ rx rfl hr I1.env0 S.ret.gd (hb s1 _) CL q (fun d v F' W' H' hp rt dn => ?_) fun cls dd H' hx => liftX.trans S.ret hx) fun r s2 hq => ?_)
  · obtain ⟨S2, st2⟩ := S.after (n := X.N.length) rt
    exact k1 d δ _ H' v hp st2 S2 dn
  · have z := after_call I1 (passes_lift tk) hq
    rcases r with e | fl
    · exact z
    · cases fl <;> exact z
end
section
variable {P : Program} {w : World} {K : PySem.W.Frag} {mg : Str → Option Value} {base : Heap} {T : List (Addr × Str)}
/-- the def rule, HandS' level -/
theorem run_def {x qual : Str} {params : Arguments} {body : List Stmt} {scope : Scope} {f : Addr} {fd : FuncData} {N ps : List Str} {k : Nat} {A : Around} {outer : List PySem.Env} {s : Shared} {H : Hp} {args : Args} {us : List Value} {vs : List V} {Q : VK} {E : XK} (F : FunD K x qual params body scope [] [] f fd) (S : FnScope N ps scope)
    (hr : Rm (k + 1) A) (e0 : Env0 P w K mg base A outer s H) (hb : BindsTo s fd args (ps.zip us)) (r : Vals vs us) (hl : vs.length = ps.length)
    (hbody : ∀ cdv, cdv = .ref (codeAt K f) → Rm k (A.deeper (envOfC qual scope s.heap.objs.size f cdv)) → ∃ t, PSs (cxOf (L2.CX P w) P w K mg base N qual scope f cdv A outer s H E) body t ∧ t { nx := fun _ H' => Q .non H', rt := Q } (L2.start N vs) H) :
    codeAny (model P w) A (.call (.ref f) args) (CR (L2.CX P w) outer P w H s Q E) s := by
  obtain ⟨oc, od, dV, kV, doc, pm, an, cdv, ct, osl, rfl, lk, hcd, _, _⟩ := F.ex
  have atBase : ∀ b o, base.get? b = some o → s.heap.get? b = some o := fun b o e => (e0.bs b o e).1
  have inK : K.In s.heap := e0.mod.kin.keeps atBase
  refine codeAny_call_function hr.room.depth (inK _ _ lk) rfl S.co S.gen rfl (PySem.W.codeRec_of inK hcd) (hb _ _ _ _ (wpAny_newFunctionEnv_cells S.kind (fun y hy => ?_) fun env he s1 x => ?_))
  · rcases S.par y.1 (List.of_mem_zip (show (y.1, y.2) ∈ ps.zip us from hy)).1 with q | q
    · exact .inl q
    · exact .inr ⟨q, PySem.W.cellsFrom_some _ _ _ (.inl q)⟩
  · subst he
    refine ⟨(e0.mod.nolimit.keeps atBase).keeps x.toInCall.keep, codeAny_func ?_⟩
    have I := inv_start (CX := L2.CX P w) (E := E) (N := N) S hr.room.hd e0 hl r x
    obtain ⟨t, ht, start⟩ := hbody cdv (codeAt_of lk hcd) (hr.deeper _)
    refine wpAny_mono (ht.run [] s1 _ H _ I start) (fun fl s' hs => ?_) fun e s' hs => hs
    cases fl with
    | ret u =>
      obtain ⟨v, σ', H', J, rv, q⟩ := hs
      exact ⟨v, H', J.os, J.bare, J.base, J.hok, rv, q⟩
    | next =>
      obtain ⟨σ', H', J, q⟩ := hs
      exact ⟨V.non, H', J.os, J.bare, J.base, J.hok, rfl, q⟩
    | brk => exact False.elim (hs.elim fun _ z => z.elim fun _ y => y.2)
    | cont => exact False.elim (hs.elim fun _ z => z.elim fun _ y => y.2)
theorem fnC_ok {x qual a : Str} {params : Arguments} {body : List Stmt} {scope : Scope} {f : Addr} {fd : FuncData} {N : List Str} {kc k : Nat} {t : Addr → TL → TDS} (F : FunD K x qual params body scope [] [] f fd) (S : FnScope N [a] scope) (hm : mg x = some (.ref f)) (hb : ∀ (s : Shared) (u : Value), BindsTo s fd ⟨[u], []⟩ [(a, u)])
    (hbody : ∀ (fl : Addr) (tl : TL) (cdv : Value) (A : Around) (outer : List PySem.Env) (s : Shared) (H : Hp) (E : XK) (B : Base), B.T = T → B.H = H → CallD P w K mg base B.T kc s B.F B.H B.W fl tl → Rm k (A.deeper (envOfC qual scope s.heap.objs.size f cdv)) →
      DSs (cxOf (L2.CX P w) P w K mg base N qual scope f cdv A outer s H E) B body (t fl tl)) :
    FnC P w K mg base T x kc (k + 1) (fun tl P' RX => ∀ fl, dBody N.length (t fl tl) [.adr fl] P' RX) := by
  refine ⟨f, fd, a, hm, F.kp, hb, fun A outer s F0 H W u fl tl Q E P' RX hu hr e0 gd hbd CA hw k1 k2 => ?_⟩
  subst hu
  refine run_def (ps := [a]) (us := [.ref fl]) (vs := [.ref fl]) F S hr e0 hbd (.cons rfl .nil) rfl fun cdv hcd hr' => ?_
  have tk := takes_of (X := cxOf (L2.CX P w) P w K mg base N qual scope f cdv A outer s H E) (E := E) rfl rfl rfl rfl
  have bd := (hbody fl tl cdv A outer s H E ⟨F0, H, W, T⟩ rfl rfl CA hr').run RX (tk.imp fun c d σ H' hx => k2 c d H' hx)
  refine ⟨_, bd, ⟨F0, fun _ => none, W⟩, _, { nx := fun _ => P' .non, rt := P' }, stt_start (ds := [.adr fl]) gd (.cons (.adr fl) .nil), hw fl, fun σ' δ' g' H' hn st S' => k1 _ _ _ _ _ hn S'.ret .non, fun d v F' W' H' hq rt dn => k1 d v F' W' H' hq rt dn, fun _ _ _ _ h => h.elim, fun _ _ _ _ h => h.elim⟩
/-! ### y = None / try: a() / except c as n: y = n / return y -/
def tThk (K : PySem.W.Frag) (T : List (Addr × Str)) (F0 H0 : Hp) (W0 : DW) (fl : Addr) (tl : TL) (W : WX) : TE := fun σ H' Q => ∃ (Ech : XK) (F1 : Hp) (W1 : DW) (P1 R1 : D → Prop), (∀ cls d σ' H', Ech cls d H' → W cls d σ' H') ∧ σ[0]? = some (some (.ref fl)) ∧ Ret ⟨F0, H0, W0, T⟩ F1 H' W1 ∧ tl P1 R1 ∧
  (∀ d v F' W' H'', P1 d → Ret ⟨F1, H', W1, T⟩ F' H'' W' → Den K W' F' v d → Q v H'') ∧ ∀ cls dd H'', liftX K ⟨F1, H', W1, T⟩ R1 cls dd H'' → Ech cls dd H''
theorem pe_thk {X : Cx} {kc : Nat} {F0 H0 : Hp} {W0 : DW} {fl : Addr} {tl : TL} {W : WX} {a : Str} {p1 p2 : Pos} (CA : CallD X.prog X.w X.K X.mg X.base T kc X.s_0 F0 H0 W0 fl tl) (hH : H0 = X.H_0) (hx : X.ex = []) (hr : Rm kc X.A) (hn : PE X (.Name a p1) (tVar 0)) (tk : Takes X W) : PE X (.Call (.Name a p1) [] [] p2) (tThk X.K T F0 H0 W0 fl tl W) := by
  refine ⟨fun pins s σ H Q I h => ?_⟩
  obtain ⟨Ech, F1, W1, P1, R1, hW, e1, ret, htl, k1, k2⟩ := h
  refine wpAny_Call_Name_kw (thn (hn.run pins s σ H (fun v H1 => v = .ref fl ∧ H1 = H) I ⟨_, e1, rfl, rfl⟩) fun u s1 ⟨v, H1, I1, r1, q1⟩ => ?_)
  obtain ⟨rfl, rfl⟩ := q1
  obtain rfl : u = Value.ref fl := r1
  have z := CA X.A X.stack s1 F1 H1 W1 Q Ech P1 R1 hr I1.env0 (by rw [hH]; exact lat_of I1 hx) ret htl k1 k2
  refine PySem.W.callWith_F0 z.1 (wpAny_call (codeAny_mono z.2 fun r s2 hq => ?_))
  have z := after_call I1 (passes_call tk fun cls d σ' H' h => hW cls d σ' H' h) hq
  rcases r with e | fl
  · exact z
  · cases fl <;> exact z
theorem Ret.stt {B : Base} {F H : Hp} {W : DW} (r : Ret B F H W) : Stt K B ⟨F, fun _ => none, W⟩ H [] [] := ⟨r, fun a k e => (nomatch e), rfl, fun i s e => by simp at e⟩
def wpCaught (cs : List Str) : TL → TL := fun tl P' RX => tl (fun _ => P' .non) fun e => match e with
  | .exc c fs => c ∈ cs ∧ P' (.exc c fs)
  | _ => False
theorem fnC_caught {x qual a n y c : Str} {params : Arguments} {scope : Scope} {f : Addr} {fd : FuncData} {kc : Nat} {cs : List Str} {j0 : Nat} {p1 p2 p3 p4 p5 p6 p7 p8 p9 p10 p11 p12 p13 p14 : Pos}
    (F : FunD K x qual params [.Assign [.Name y p1] (.Constant .none j0 p2) p3, .Try [.Expr (.Call (.Name a p4) [] [] p5) p6] [.ExceptHandler (some (.Name c p7)) (some n) [.Assign [.Name y p8] (.Name n p9) p10] p11] [] [] p12, .Return (some (.Name y p13)) p14] scope [] [] f fd) (S : FnScope [a, y, n] [a] scope) (hm : mg x = some (.ref f))
    (hb : ∀ (s : Shared) (u : Value), BindsTo s fd ⟨[u], []⟩ [(a, u)]) (la : scope.names.lookup a = some .local) (ly : scope.names.lookup y = some .local) (ln : scope.names.lookup n = some .local) (gc : scope.names.lookup c = some .globalImplicit) (mc : mg c = some (.ref (He.ga K c)))
    (hcs : ∀ z ∈ cs, PySem.W.exmOne K (.ref (He.ga K z)) (.ref (He.ga K c)) = some true) (da : (a == ("__debug__" : Str)) = false) (da2 : (a == ("__classdict__" : Str)) = false) (dy : (y == ("__debug__" : Str)) = false) (dy2 : (y == ("__classdict__" : Str)) = false) (dn : (n == ("__debug__" : Str)) = false) (dn2 : (n == ("__classdict__" : Str)) = false) (dc : (c == ("__debug__" : Str)) = false)
    (sw1 : ∀ env, swapsWith (.Constant .none j0 p2) (some (.Name y p1)) p3.line env = pure false) (sw2 : ∀ env, swapsWith (.Name n p9) (some (.Name y p8)) p10.line env = pure false) (sw3 : ∀ env, swapsWith (.Call (.Name a p4) [] [] p5) none p6.line env = pure false) :
    FnC P w K mg base T x kc (kc + 1) (wpCaught cs) := by
  refine ⟨f, fd, a, hm, F.kp, hb, fun A outer s F0 H W u fl tl Q E P' RX hu hr e0 gd hbd CA hw k1 k2 => ?_⟩
  subst hu
  refine run_def (ps := [a]) (us := [.ref fl]) (vs := [.ref fl]) F S hr e0 hbd (.cons rfl .nil) rfl fun cdv hcd hr' => ?_
  have tk0 : Takes (cxOf (L2.CX P w) P w K mg base [a, y, n] qual scope f cdv A outer s H E) (fun _ _ _ _ => False) := LamX.takes0
  refine ⟨_, pss_cons (ps_set (i := 1) S.nd rfl (.inl ly) pe_non (sw1 _) (.inl rfl)) (pss_cons (ps_catch (i := 2) (j := 1) (c := .ref (He.ga K c)) (Wout := fun _ _ _ _ => False)
      (tb := fun WX0 D σ H' => tThk K T F0 H W fl tl WX0 σ H' fun _ H'' => D.nx σ H'')
      rfl rfl rfl S.nd rfl ln rfl (.inl ly) (.inl rfl) ⟨gc, dc, .inl mc⟩ tk0 (fun a' pn => pe_var (i := 2) rfl (.inl ln) dn dn2) (sw2 _) (fun W0 pn xe tk ps => ?_)) (pss_one (ps_ret (pe_var (i := 1) rfl (.inl ly) dy dy2)))), ?_⟩
  · exact pss_one (ps_expr (pe_thk (X := (cxOf (L2.CX P w) P w K mg base [a, y, n] qual scope f cdv A outer s H E).tr pn xe) CA rfl rfl hr' (pe_var (i := 0) rfl (.inl la) da da2) tk) (sw3 _))
  · have base0 : ∀ {F' H' : Hp} {W' : DW} {v : V} {d : D}, P' d → Ret ⟨F0, H, W, T⟩ F' H' W' → Den K W' F' v d → Q v H' := fun {F' H' W' v d} a b c => k1 d v F' W' H' a b c
    refine ⟨liftX K ⟨F0, H, W, T⟩ _, F0, W, fun _ => P' .non, _, fun cls d σ' H' hx => ?_, rfl, Ret.refl gd, hw, fun d v F' W' H' hp rt dn => ⟨.non, rfl, base0 hp rt .non⟩, fun _ _ _ h => h⟩
    obtain ⟨F1, W1, e, rt, ed, hx⟩ := hx
    cases e with
    | exc z fs =>
      obtain ⟨hz, hp⟩ := hx
      refine ⟨true, by rw [ed.1]; exact hcs z hz, fun _ hl => ⟨He.ga K z, ed.1, fun b hb => ⟨.ref b, ?_, ?_⟩⟩, fun q => Bool.noConfusion q⟩
      · have hl : σ'.length = 3 := hl
        rw [List.getElem?_set_ne (by decide), List.getElem?_set_self (by rw [List.length_set, hl]; decide)]
      · obtain ⟨S2, _⟩ := rt.stt (K := K).alloc (n := 0) (p := b) (o := ExcO (He.ga K z) d b) hb
        rcases ed.2 with ⟨rfl, rfl⟩ | ⟨dd, gs, rfl, hd, hk, rs⟩
        · exact base0 hp S2.ret (.exc0 upd_same)
        · refine base0 hp S2.ret (.exc1 upd_same (dd := dd) ?_ hk (rs.up (up_upd (rt.stt (K := K).Fnone hb)) (WLe.refl _)))
          show upd F1 b _ dd = _
          rw [upd_ne (fun q => by
            have z := rt.sub _ _ hd
            rw [q, hb] at z; cases z)]
          exact hd
    | _ => exact hx.elim
end
end DL

namespace DL
open PySem PySem.Spec PySem.W PySem.Calls PyProof.Rows
section
variable {prog : Program} {w : World} {A : Around} {E : Value → Shared → Prop} {s : Shared} {K : Frag} {x D : Addr} {ox : Obj} {od : Option Obj}
/-- e.__class__ of an exception's object, whether it has a dict or not -/
theorem exc_class {Q : Option Value → Shared → Prop} (T : L2.ExcC K D) (X : K.In s.heap) (I : InstAt s.heap x ox D od) (h : Q (some (.ref D)) { s with toks := s.toks + 1 }) : wpAny (model prog w) A (getAttr? (.ref x) "__class__") Q E s := by
  have hcs : (clsIn K D).isSome = true := by
    obtain ⟨cd, hc, _⟩ := any_some T.hd
    rw [hc]; rfl
  have hf : findObj K D od "__class__" = some (.bind (.builtin "getset_descriptor.__get__") (.builtin "object.__class__")) := by
    cases od with
    | none => exact findObj_dataN hcs T.ha T.hn T.ht
    | some od => exact findObj_data hcs T.ha T.hn T.ht
  obtain ⟨hp, g, d, t, os⟩ := s
  have a0 := I.type (M := model prog w)
  have a1 := looks_findIn (M := model prog w) X T.hg
  have a2 := looks_findIn (M := model prog w) X T.hk
  have a3 := looks_find (M := model prog w) X I hf
  have isE : Looks (model prog w) hp (isInstance (.ref x) (.type "BaseException")) true := a0.andThen (looks_subIn X T.hs)
  have nob : (Value.builtin "BaseException.__getattribute__" == Value.builtin "object.__getattribute__") = false := by decide +kernel
  unfold getAttr? getAttrBy? getAttrBy
  refine wpAny_bind (wpAny_mkText (wpAny_bind (wpAny_attempt (wpAny_holding (wpAny_bind (a0.at (wpAny_bind (a1.at ?_))))))))
  show wpAny _ _ (if (onTheHeap (Value.ref D) && Value.builtin "BaseException.__getattribute__" == Value.builtin "object.__getattribute__") = true then _ else _) _ _ _
  rw [nob, Bool.and_false, if_neg Bool.false_ne_true]
  unfold getAttrByItsOwn hookBefore
  refine wpAny_bind ?_
  rw [if_pos (show onTheHeap (Value.ref D) = true from rfl)]
  refine a2.at ?_
  refine wpAny_bind (wpAny_attempt (wpAny_holding ?_))
  unfold callGetattribute
  rw [show (false && onTheHeap (Value.builtin "BaseException.__getattribute__")) = false from rfl, if_neg Bool.false_ne_true]
  unfold boundAndCalled
  rw [PySem.F.excAttr_ValueError.ga.bind (.ref x)]
  refine wpAny_bind (wpAny_pure ?_)
  show wpAny _ _ (call (.builtin "BaseException.__getattribute__") [.ref x, .str "__class__" t]) _ _ _
  refine wpAny_call (codeAny_call_builtin PySem.F.excAttr_ValueError.ga.plain PySem.F.entry_bexc_ga ?_)
  refine @check_slot (model prog w) _ _ ⟨hp, g, d, t + 1, os⟩ "BaseException.__getattribute__" "BaseException" "__getattribute__" (.ref x) [.str "__class__" t] [] _ (by decide +kernel) (by decide +kernel) isE (PySem.F.args_bexc_ga (.ref x) (.str "__class__" t)) ?_
  unfold Builtin.«object.__getattribute__»
  refine wpAny_bind (wpAny_of_eq (a := ((Value.ref x : Value), [Value.str "__class__" t])) (by first | rfl | (simp only [slotArgs]; rfl)) ?_)
  refine wpAny_bind (wpAny_pure (wpAny_bind (a0.at (wpAny_bind (a3.at ?_)))))
  show wpAny _ _ (holding [Value.builtin "object.__class__"] (call (.builtin "getset_descriptor.__get__") [.builtin "object.__class__", .ref x, .ref D]) >>= ret) _ _ _
  refine wpAny_bind (wpAny_holding (wpAny_call (class_get (s := ⟨hp, g, d, t + 1, os⟩) (ox := ox) (od := od) X I T.hm ?_)))
  refine wpAny_pure ?_
  show wpAny _ _ (handedOut (.ref D)) _ _ _
  rw [handedOut_of (v := .ref D) rfl]
  first
    | exact wpAny_pure (wpAny_pure h)
    | exact wpAny_pure h
    | exact wpAny_pure (wpAny_bind (wpAny_pure (wpAny_pure h)))
theorem kit_exc (T : L2.ExcC K D) : KitX K (.ref x) (.ref D) (fun h => InstAt h x ox D od) where
  ty := fun _ _ _ I => I.type
  it := fun _ _ X _ => by
    obtain ⟨cd, hc, _⟩ := any_some T.hd
    unfold clsIn at hc
    split at hc
    · rename_i c' d' cd' sl' ho
      intro A' Q' E' s' k q
      unfold isType loadHead
      exact wpAny_bind (wpAny_loadPart (k _ _ (X _ _ ho)) (wpAny_pure q))
    · cases hc
  ne := fun h tp dd its n sl X htp => by
    obtain ⟨cd, hc, _⟩ := any_some T.hd
    cases q : (Value.ref D == Value.ref tp) with
    | false => rfl
    | true =>
      rw [show D = tp from Value.ref.inj (beq_iff_eq.mp q)] at hc
      unfold clsIn at hc
      split at hc
      · rename_i c' d' cd' sl' ho
        have z := (X _ _ ho).symm.trans htp
        cases z
      · cases hc
  ca := fun X I k => exc_class T X I k
end
end DL
namespace DL
open PySem PySem.Spec L2
open PyProof.Rows hiding St
/-! ### isinstance -/
inductive Tq where
  | ty (n : String) | own (x : Str)
deriving DecidableEq
def Tq.v (K : PySem.W.Frag) : Tq → Value
  | .ty n => .type n
  | .own x => .ref (He.ga K x)
/-- the classes of a law, and what isinstance says of them -/
structure Isa where
  obs : List Str
  excs : List Str
  tab : List ((Tq × Tq) × Bool)
structure OwnC (K : PySem.W.Frag) (C : Addr) : Prop where
  cl : Cls K C
  ha : PySem.W.findIn K (.ref C) "__class__" = some (some (.builtin "object.__class__"))
  hn : PySem.W.specialIn K (.builtin "object.__class__") "__get__" = some (some (.builtin "getset_descriptor.__get__"))
  ht : PySem.W.takesIn K (.builtin "object.__class__") = some true
  hm : PySem.W.mroIn K C (.type "object") = some true
structure IsaOk (K : PySem.W.Frag) (J : Isa) : Prop where
  ob : ∀ c ∈ J.obs, OwnC K (He.ga K c)
  exc : ∀ c ∈ J.excs, ExcC K (He.ga K c)
  tab : ∀ e ∈ J.tab, PySem.W.kitOne K (e.1.1.v K) (e.1.2.v K) = some e.2
def Isa.ask (J : Isa) (a b : Tq) : Option Bool := J.tab.lookup (a, b)
theorem lookup_mem {α β : Type} [BEq α] [LawfulBEq α] {a : α} {b : β} : ∀ {l : List (α × β)}, l.lookup a = some b → (a, b) ∈ l
  | [], h => by cases h
  | (a', b') :: l, h => by
    rw [List.lookup_cons] at h
    cases q : a == a' with
    | true =>
      rw [q] at h
      cases h
      rw [beq_iff_eq.mp q]; exact List.mem_cons_self
    | false => rw [q] at h; exact List.mem_cons_of_mem _ (lookup_mem h)
theorem IsaOk.kit {K : PySem.W.Frag} {J : Isa} (T : IsaOk K J) {a b : Tq} {r : Bool} (h : J.ask a b = some r) : PySem.W.kitOne K (a.v K) (b.v K) = some r := T.tab _ (lookup_mem h)
def Isa.asks (J : Isa) (a : Tq) : List Tq → Option Bool
  | [] => some false
  | b :: bs => match J.ask a b with
    | some true => some true
    | some false => J.asks a bs
    | none => none
theorem IsaOk.kits {K : PySem.W.Frag} {J : Isa} (T : IsaOk K J) {a : Tq} : ∀ {bs : List Tq} {r : Bool}, J.asks a bs = some r → PySem.W.kitAny K (a.v K) (bs.map (Tq.v K)) = some r
  | [], r, h => h
  | b :: bs, r, h => by
    unfold Isa.asks at h
    show (match PySem.W.kitOne K (a.v K) (b.v K) with
      | some true => some true
      | some false => PySem.W.kitAny K (a.v K) (bs.map (Tq.v K))
      | none => none) = some r
    cases q : J.ask a b with
    | none => rw [q] at h; cases h
    | some c =>
      rw [q] at h
      rw [T.kit q]
      cases c with
      | true => exact h
      | false => exact T.kits h
def tyD (J : Isa) : D → Option Tq
  | .non => some (.ty "NoneType")
  | .bl _ => some (.ty "bool")
  | .int _ => some (.ty "int")
  | .str _ => some (.ty "str")
  | .lst _ => some (.ty "list")
  | .kls _ => some (.ty "list")
  | .tup _ => some (.ty "tuple")
  | .dct _ => some (.ty "dict")
  | .ob c _ => if c ∈ J.obs then some (.own c) else none
  | .exc c _ => if c ∈ J.excs then some (.own c) else none
  | _ => none
def clsD : D → Option Tq
  | .ty n => some (.ty n)
  | .glo x => some (.own x)
  | _ => none
def clsDs : List D → Option (List Tq)
  | [] => some []
  | d :: ds => match clsD d, clsDs ds with
    | some q, some qs => some (q :: qs)
    | _, _ => none
/-- what the library's isinstance asks of such a value -/
theorem kit_den {X : Cx} {pins : List (Addr × Obj)} {σ : L2.St} {H : Hp} {s : Shared} {J : Isa} {W : DW} {F : Hp} {v : V} {d : D} {u : Value} {q : Tq} (T : IsaOk X.K J) (I : Inv X pins σ H s) (up : Up F H) (r : RelV v u) (dn : Den X.K W F v d) (e : tyD J d = some q) :
    ∃ P : Heap → Prop, PySem.W.KitX X.K u (q.v X.K) P ∧ P s.heap ∧ u ≠ .builtin "__main__.__loader__#opaque" := by
  cases dn with
  | non => cases e; exact kit_of I r (.base .non)
  | bl b => cases e; exact kit_of I r (.base (.bl b))
  | int i => cases e; exact kit_of I r (.base (.int i))
  | str x => cases e; exact kit_of I r (.base (.str x))
  | lst h _ => cases e; exact kit_of I r (.base (.lst (up _ _ h)))
  | kls h _ =>
    cases e
    rcases SqL.up up h with (h | ⟨o, h⟩) | ⟨o, its, n, h1, h2, _⟩
    · exact kit_of I r (.base (.lst h))
    · exact kit_of I r (.base (.frz h))
    · exact kit_of I r (.kList h1 h2)
  | tup h _ =>
    cases e
    rcases SqT.up up h with (h | ⟨o, h⟩) | ⟨o, its, n, h1, h2, _⟩
    · exact kit_of I r (.base (.tup h))
    · exact kit_of I r (.fTuple h)
    · exact kit_of I r (.kTuple h1 h2)
  | dct h _ _ => cases e; exact kit_of I r (.base (.dK (up _ _ h)))
  | @ob a dx c gs fs h _ _ =>
    have e : (if c ∈ J.obs then some (Tq.own c) else none) = some q := e
    split at e
    · rename_i hc
      cases e
      have O := T.ob c hc
      exact kit_of I r (.base (.ins (up _ _ h) O.cl O.ha O.hn O.ht O.hm))
    · cases e
  | @exc0 a c h =>
    have e : (if c ∈ J.excs then some (Tq.own c) else none) = some q := e
    split at e
    · rename_i hc
      cases e
      obtain rfl : u = Value.ref a := r
      obtain ⟨⟨oe, vs, h1, h2, h3⟩, _, _⟩ := I.hok a _ (up _ _ h)
      obtain ⟨oc, od, dt, sl⟩ := oe
      obtain ⟨rfl, rfl⟩ := h2
      obtain rfl : dt = .fields vs := h3
      exact ⟨_, kit_exc (T.exc c hc), (⟨h1, rfl, rfl, trivial⟩ : PySem.W.InstAt s.heap a _ _ none), fun z => nomatch z⟩
    · cases e
  | @exc1 a dd c gs fs h hd _ _ =>
    have e : (if c ∈ J.excs then some (Tq.own c) else none) = some q := e
    split at e
    · rename_i hc
      cases e
      obtain rfl : u = Value.ref a := r
      obtain ⟨⟨oe, vs, h1, h2, h3⟩, _, _⟩ := I.hok a _ (up _ _ h)
      obtain ⟨mA, hns, hr⟩ := (show ObjOk X.prog X.w H s.heap dd (.xd gs) from I.hok dd _ (up _ _ hd))
      obtain ⟨od1, ho, hl⟩ := lookIn_ns hns
      obtain ⟨oc, od, dt, sl⟩ := oe
      obtain ⟨rfl, rfl⟩ := h2
      obtain rfl : dt = .fields vs := h3
      exact ⟨_, kit_exc (T.exc c hc), (⟨h1, rfl, rfl, ho⟩ : PySem.W.InstAt s.heap a _ _ (some od1)), fun z => nomatch z⟩
    · cases e
  | _ => cases e
theorem Den.cls {K : PySem.W.Frag} {W : DW} {F : Hp} {v : V} {d : D} {q : Tq} {u : Value} (r : Den K W F v d) (e : clsD d = some q) (rv : RelV v u) : u = q.v K := by
  cases r with
  | ty n => cases e; exact rv
  | glo x => cases e; exact rv
  | _ => cases e
theorem Dens.cls {K : PySem.W.Frag} {W : DW} {F : Hp} : ∀ {vs : List V} {ds : List D} {qs : List Tq} {us : List Value}, Dens K W F vs ds → clsDs ds = some qs → Vals vs us → us = qs.map (Tq.v K)
  | _, _, _, _, .nil, e, .nil => by cases e; rfl
  | _, _, _, _, .cons (d := d) (ds := ds) r t, e, .cons rv rt => by
    unfold clsDs at e
    cases q1 : clsD d with
    | none => rw [q1] at e; cases e
    | some q =>
      cases q2 : clsDs ds with
      | none => rw [q1, q2] at e; cases e
      | some qs =>
        rw [q1, q2] at e
        cases e
        rw [r.cls q1 rv, t.cls q2 rt]; rfl
def isaD (J : Isa) (ds : List D) (P : D → Prop) : Prop := match ds with
  | [x, .tup cs] => ∃ q qs b, tyD J x = some q ∧ clsDs cs = some qs ∧ J.asks q qs = some b ∧ P (.bl b)
  | [x, c] => ∃ q qc b, tyD J x = some q ∧ clsD c = some qc ∧ J.ask q qc = some b ∧ P (.bl b)
  | _ => False
/-- .. as a reading of values: the call gives b -/
def rIsa (X : Cx) : List V → Hp → VK → Prop := fun xs H Q => ∃ b, (∀ pins σ s us, Inv X pins σ H s → Vals xs us → ∀ (Q' : Value → Shared → Prop) (E : Value → Shared → Prop), (∀ tk, Q' (.bool b) { s with toks := tk }) → wpAny (model X.prog X.w) X.A (call (.builtin "isinstance") us) Q' E s) ∧ Q (.bl b) H
theorem call_isa {X : Cx} : CallR X (.builtin "isinstance") (rIsa X) := by
  intro pins s σ H xs us Q I r ⟨b, h, q⟩
  exact h pins σ s us I r _ _ fun tk => ⟨.bl b, H, I.tok tk, rfl, q⟩
theorem lc_isa {X : Cx} {J : Isa} (T : IsaOk X.K J) : LiftC X.K (rIsa X) (isaD J) := fun B n g H σ δ xs ds P Q S rs q k => by
  have fin : ∀ b, P (.bl b) → Q (.bl b) H := fun b hp => k _ g H _ hp (Step.refl _ _ _) S (.bl b)
  unfold isaD at q
  split at q
  · rename_i x cs
    obtain ⟨qx, qs, b, e1, e2, e3, hp⟩ := q
    cases rs with
    | @cons v _ _ _ r1 r2 =>
      cases r2 with
      | cons r2 r3 =>
        cases r3
        cases r2 with
        | @tup a ys _ hs rr =>
          refine ⟨b, fun pins σ s us I rv Q' E hq => ?_, fin b hp⟩
          obtain ⟨u1, u2, rfl, rv1, rv2⟩ := vals2 rv
          cases (show u2 = Value.ref a from rv2)
          obtain ⟨Pz, Z, p, hx⟩ := kit_den T I S.ret.sub rv1 r1 e1
          obtain ⟨its, ri, ⟨o, ho, hc, n, hd⟩, _⟩ := I.tuple (SqT.up S.ret.sub hs)
          have ei := rr.cls e2 ri
          subst ei
          obtain ⟨oc, od, dt, sl⟩ := o
          simp only at hc hd
          subst hc hd
          exact PySem.W.kia_tup Z I.kIn p ho (T.kits e3) hx hq
  · rename_i x c _
    obtain ⟨qx, qc, b, e1, e2, e3, hp⟩ := q
    cases rs with
    | cons r1 r2 =>
      cases r2 with
      | cons r2 r3 =>
        cases r3
        refine ⟨b, fun pins σ s us I rv Q' E hq => ?_, fin b hp⟩
        obtain ⟨u1, u2, rfl, rv1, rv2⟩ := vals2 rv
        obtain ⟨Pz, Z, p, hx⟩ := kit_den T I S.ret.sub rv1 r1 e1
        rw [r2.cls e2 rv2]
        exact PySem.W.kia_one Z I.kIn p (T.kit e3) hx hq
  · exact q.elim
/-! ### names of the module, of the built-ins -/
section
variable {X : Cx} {B : Base} {x : Str} {pos : Pos}
theorem de_glo (hg : Gl X x) (hm : X.mg x = some (.ref (He.ga X.K x))) (hdb : (x == ("__debug__" : Str)) = false := by decide) : DE X B (.Name x pos) (dC (.glo x)) := de_c (v := .ref (He.ga X.K x)) (pe_glob hg hm rfl hdb) fun _ _ => .glo x
theorem de_ty {T : String} (hg : Gl X x) (hm : X.mg x = none) (hv : bootBuiltins x = some (.type T)) (hn : x ≠ "__name__" := by decide) (hdb : (x == ("__debug__" : Str)) = false := by decide) : DE X B (.Name x pos) (dC (.ty T)) := de_c (v := .ty T) (pe_bltn hg hm hv rfl hn hdb) fun _ _ => .ty T
theorem de_gint {i : Int} (hg : Gl X x) (hm : ∃ t, X.mg x = some (.int i t)) (hdb : (x == ("__debug__" : Str)) = false := by decide) : DE X B (.Name x pos) (dC (.int i)) := by
  obtain ⟨t, hm⟩ := hm
  exact de_c (v := .int i) (pe_glob hg hm (show ∃ t', Value.int i t = Value.int i t' from ⟨t, rfl⟩) hdb) fun _ _ => .int i
theorem de_gstr {z : Str} (hg : Gl X x) (hm : ∃ t, X.mg x = some (.str z t)) (hdb : (x == ("__debug__" : Str)) = false := by decide) : DE X B (.Name x pos) (dC (.str z)) := by
  obtain ⟨t, hm⟩ := hm
  exact de_c (v := .str z) (pe_glob hg hm (show ∃ t', Value.str z t = Value.str z t' from ⟨t, rfl⟩) hdb) fun _ _ => .str z
end
end DL

namespace DL
open PySem PySem.Spec L2
open PyProof.Rows hiding St
/-! ### attributes -/
inductive Atk where
  | fld | exc | prop (g : Str)
abbrev AtTab := List ((Str × Str) × Atk)
/-- the getter of the class' property f gives self.g -/
structure GetK (K : PySem.W.Frag) (C : Addr) (f g : Str) : Prop where
  ex : ∃ (p gt : Addr) (name qual : Str) (params : Arguments) (scope : Scope) (dV kV doc pm cdv ct oc : Value) (an od : Option Addr) (osl : Array (Option Value)) (N : List Str) (p1 p2 p3 : Pos), PropOf K C f p gt ∧
    K.lookup gt = some ⟨oc, od, .func (PySem.W.fnOf name qual params [.Return (some (.Attribute (.Name "self" p1) g p2)) p3] scope dV kV doc pm an cdv ct), osl⟩ ∧ PySem.W.codeIn K cdv qual = true ∧ FnScope N ["self"] scope ∧ N[0]? = some ("self" : Str) ∧
    (∀ (s : Shared) (us : List Value), us.length = 1 → BindsTo s (PySem.W.fnOf name qual params [.Return (some (.Attribute (.Name "self" p1) g p2)) p3] scope dV kV doc pm an cdv ct) ⟨us, []⟩ ((["self"] : List Str).zip us))
structure AtOk (K : PySem.W.Frag) (tab : AtTab) : Prop where
  ok : ∀ e ∈ tab, match e.2 with
    | .fld => Cls K (He.ga K e.1.1) ∧ NoAttr K (He.ga K e.1.1) e.1.2
    | .exc => XfC K (He.ga K e.1.1) ∧ PySem.W.findIn K (.ref (He.ga K e.1.1)) e.1.2 = some none
    | .prop g => Cls K (He.ga K e.1.1) ∧ NoAttr K (He.ga K e.1.1) g ∧ GetK K (He.ga K e.1.1) e.1.2 g
def attrD (tab : AtTab) (f : Str) (d : D) (P : D → Prop) : Prop := match d with
  | .ob c fs => match tab.lookup (c, f) with
    | some .fld => ∃ v, fs.lookup f = some v ∧ P v
    | some (.prop g) => ∃ v, fs.lookup g = some v ∧ P v
    | _ => False
  | .exc c fs => match tab.lookup (c, f) with
    | some .exc => ∃ v, fs.lookup f = some v ∧ P v
    | _ => False
  | _ => False
theorem lookup_rel {K : PySem.W.Frag} {W : DW} {F : Hp} {f : Str} {d : D} : ∀ {gs : List (Str × V)} {fs : List (Str × D)}, gs.map (·.1) = fs.map (·.1) → Dens K W F (gs.map (·.2)) (fs.map (·.2)) → fs.lookup f = some d → ∃ v, gs.lookup f = some v ∧ Den K W F v d
  | [], [], _, _, h => by cases h
  | [], _ :: _, e, _, _ => by cases e
  | _ :: _, [], e, _, _ => by cases e
  | (k1, v1) :: gs, (k2, d2) :: fs, e, r, h => by
    simp only [List.map_cons, List.cons.injEq] at e r
    obtain ⟨e1, e2⟩ := e
    cases r with
    | cons r1 r2 =>
      subst e1
      rw [List.lookup_cons] at h ⊢
      cases q : f == k1 with
      | true => rw [q] at h; cases h; exact ⟨v1, rfl, r1⟩
      | false => rw [q] at h; exact lookup_rel e2 r2 h
section
variable {X : Cx} {B : Base} {e : Expr} {te : TDX} {f : Str} {pos : Pos} {tab : AtTab} {k : Nat}
def dAttr (tab : AtTab) (f : Str) (te : TDX) : TDX := fun rx δ P => te rx δ fun d δ1 => attrD tab f d fun v => P v δ1
theorem de_attr (T : AtOk X.K tab) (hr : Rm (k + 2) X.A) (he : DE X B e te) (hab : attributeBase e f X.env (eval e X.env) = eval e X.env := by rfl) : DE X B (.Attribute e f pos) (dAttr tab f te) := by
  refine ⟨fun rx tk => ⟨fun pins s σ H Q I ⟨g, δ, P, S, q, k1⟩ => ?_⟩⟩
  refine attr_of hab (thn ((he.run rx tk).run pins s σ H _ I ⟨g, δ, _, S, q, fun d δ1 g1 H1 v1 h1 st1 S1 D1 => (⟨δ1, g1, d, h1, st1, S1, D1⟩ : ∃ δ1 g1 d, attrD tab f d (fun v => P v δ1) ∧ Step X.N.length g H g1 H1 ∧ Stt X.K B g1 H1 σ δ1 ∧ Den X.K g1.W g1.F v1 d)⟩) fun u s1 hh => ?_)
  obtain ⟨v, H1, I1, rv, δ1, g1, d, h1, st1, S1, D1⟩ := hh
  have fin : ∀ {u' : V} {d' : D}, P d' δ1 → Den X.K g1.W g1.F u' d' → Q u' H1 := fun {u' d'} hp dn => k1 d' δ1 g1 H1 u' hp st1 S1 dn
  cases D1 with
  | @ob a dx c gs fs hF hk rs =>
    obtain rfl : u = Value.ref a := rv
    have ea := S1.ret.sub _ _ hF
    unfold attrD at h1
    cases q : tab.lookup (c, f) with
    | none => simp only [q] at h1
    | some kd =>
      have ok := T.ok _ (lookup_mem q)
      cases kd with
      | fld =>
        simp only [q] at h1 ok
        obtain ⟨d', e1, hp⟩ := h1
        obtain ⟨v', e2, rv'⟩ := lookup_rel hk rs e1
        exact getattr_ok I1 ea ok.1 ok.2 e2 fun u' s2 I2 ru => ⟨v', H1, I2, ru, fin hp rv'⟩
      | exc => simp only [q] at h1
      | prop g' =>
        simp only [q] at h1 ok
        obtain ⟨d', e1, hp⟩ := h1
        obtain ⟨v', e2, rv'⟩ := lookup_rel hk rs e1
        obtain ⟨cl, na, GK⟩ := ok
        obtain ⟨p, gt, name, qual, params, scope, dV, kV, doc, pm, cdv, ct, oc, an, od, osl, N, p1, p2, p3, hp', lk, hcd, SS, hN, hb⟩ := GK.ex
        refine getprop_ok (CX := CX0) (E := fun _ _ _ => False) (ds := []) (dvs := []) I1 ea cl hp' (fn_getter (CX := CX0) (P := X.prog) (w := X.w) (mg := X.mg) (base := X.base) (k := k) lk hcd SS hN rfl cl na) hr.room (fun s us _ hl => ?_) .nil pass0 ⟨a, dx, gs, v', rfl, ea, e2, fin hp rv'⟩
        rw [List.append_nil] at hl ⊢
        exact hb s us hl
  | @exc1 a dd c gs fs hF hd hk rs =>
    obtain rfl : u = Value.ref a := rv
    unfold attrD at h1
    cases q : tab.lookup (c, f) with
    | none => simp only [q] at h1
    | some kd =>
      have ok := T.ok _ (lookup_mem q)
      cases kd with
      | exc =>
        simp only [q] at h1 ok
        obtain ⟨d', e1, hp⟩ := h1
        obtain ⟨v', e2, rv'⟩ := lookup_rel hk rs e1
        obtain ⟨⟨oe, vs, ho, hz, hdt⟩, _, _⟩ := I1.hok a _ (S1.ret.sub _ _ hF)
        obtain ⟨mA, hns, hr'⟩ := (show ObjOk X.prog X.w H1 s1.heap dd (.xd gs) from I1.hok dd _ (S1.ret.sub _ _ hd))
        obtain ⟨od, ho', hl⟩ := lookIn_ns hns
        obtain ⟨u', hu, ru⟩ := RelO.some_of (v := v') (o := mA f) (by rw [← e2]; exact hr' f)
        have J : PySem.W.InstAt s1.heap a oe (He.ga X.K c) (some od) := ⟨ho, hz.1, by unfold PySem.W.notCls; rw [hdt] <;> rfl, by rw [hz.2]; exact ho'⟩
        exact HandSPX.exc_get I1.kIn J ok.1.ga ok.1.gg ok.1.exC (PySem.W.findObj_own ok.1.hdC ok.2 rfl (by rw [hl, hu])) (handed_of ru) ⟨v', H1, I1.tok _, ru, fin hp rv'⟩
      | fld => simp only [q] at h1
      | prop g' => simp only [q] at h1
  | @exc0 a c hF =>
    have h2 : match tab.lookup (c, f) with
      | some .exc => ∃ v, ([] : List (Str × D)).lookup f = some v ∧ P v δ1
      | _ => False := h1
    cases q : tab.lookup (c, f) with
    | none => simp only [q] at h2
    | some kd =>
      cases kd with
      | exc => simp only [q] at h2; obtain ⟨v', z, _⟩ := h2; cases z
      | fld => simp only [q] at h2
      | prop g' => simp only [q] at h2
  | _ => exact h1.elim
end
end DL

namespace DL
open PySem PySem.Spec L2
open PyProof.Rows hiding St
/-! ### a new instance of an own class -/
def putD (f : Str) (v : D) : List (Str × D) → List (Str × D)
  | [] => [(f, v)]
  | (g, x) :: r => if g = f then (g, v) :: r else (g, x) :: putD f v r
theorem putD_keys {f : Str} {v : V} {d : D} : ∀ {gs : List (Str × V)} {fs : List (Str × D)}, gs.map (·.1) = fs.map (·.1) → (putF f v gs).map (·.1) = (putD f d fs).map (·.1)
  | [], [], _ => rfl
  | [], _ :: _, e => by cases e
  | _ :: _, [], e => by cases e
  | (a, x) :: gs, (b, y) :: fs, e => by
    simp only [List.map_cons, List.cons.injEq] at e
    obtain ⟨rfl, e2⟩ := e
    unfold putF putD
    by_cases h : a = f
    · rw [if_pos h, if_pos h]; simp [e2]
    · rw [if_neg h, if_neg h, List.map_cons, List.map_cons, putD_keys e2]
theorem putD_rel {K : PySem.W.Frag} {W : DW} {F : Hp} {f : Str} {v : V} {d : D} (r : Den K W F v d) : ∀ {gs : List (Str × V)} {fs : List (Str × D)}, gs.map (·.1) = fs.map (·.1) → Dens K W F (gs.map (·.2)) (fs.map (·.2)) → Dens K W F ((putF f v gs).map (·.2)) ((putD f d fs).map (·.2))
  | [], [], _, _ => .cons r .nil
  | [], _ :: _, e, _ => by cases e
  | _ :: _, [], e, _ => by cases e
  | (a, x) :: gs, (b, y) :: fs, e, q => by
    simp only [List.map_cons, List.cons.injEq] at e q
    obtain ⟨rfl, e2⟩ := e
    unfold putF putD
    cases q with
    | cons q1 q2 =>
      by_cases h : a = f
      · rw [if_pos h, if_pos h]; exact .cons r q2
      · rw [if_neg h, if_neg h]; exact .cons q1 (putD_rel r e2 q2)
section
variable {K : PySem.W.Frag} {B : Base} {g : Gs} {H : Hp} {σ : L2.St} {δ : Env} {n : Nat} {X : Cx} {e : Expr} {te : TDX} {tab : AtTab}
/-- self.f = e, slot i has the object -/
def dSetF (tab : AtTab) (i : Nat) (f : Str) (te : TDX) : TDS := fun rx DE δ => te rx δ fun d δ1 => match δ1[i]? with
  | some (some (.oi m c fs)) => tab.lookup (c, f) = some .fld ∧ fs.length < 1000 ∧ DE.nx (δ1.set i (some (.oi m c (putD f d fs))))
  | _ => False
theorem ds_setF {i : Nat} {x f : Str} {pn pa pos : Pos} (T : AtOk X.K tab) (hi : i < X.N.length) (hn : PE X (.Name x pn) (tVar i)) (he : DE X B e te) (hs : swapsWith e (some (.Attribute (.Name x pn) f pa)) pos.line X.env = pure false := by rfl) : DS X B (.Assign [.Attribute (.Name x pn) f pa] e pos) (dSetF tab i f te) :=
  ⟨fun rx tk => PS.imp (ps_fld hn (he.run rx tk) hs) fun DD σ H hl ⟨g, δ, DE, S, q, k1, k2, k3, k4⟩ => ⟨g, δ, _, S, q, fun d δ1 g1 H1 v h1 st1 S1 D1 => by
    cases e1 : δ1[i]? with
    | none => simp only [e1] at h1
    | some o1 =>
      cases o1 with
      | none => simp only [e1] at h1
      | some s1 =>
        cases s1 with
        | oi m c fs =>
          simp only [e1] at h1
          obtain ⟨ht, hlen, hnx⟩ := h1
          have ok := T.ok _ (lookup_mem ht)
          obtain ⟨a, dx, gs, ea, eo, eh, ek, er⟩ := S1.env i _ e1
          have hgl : gs.length = fs.length := by have := congrArg List.length ek.1; simpa using this
          obtain ⟨S2, st2⟩ := S1.write (n := X.N.length) (o' := .ins (He.ga X.K c) dx (putF f v gs)) (s := .oi m c (putD f d fs)) eo hi eh trivial trivial ⟨a, dx, _, ea, eo, upd_same, ⟨putD_keys ek.1, ek.2⟩, putD_rel D1 ek.1 er⟩
          exact ⟨.ref a, ea, a, _, dx, gs, rfl, eh, ok.1, ok.2, by rw [hgl]; exact hlen, k1 _ _ g1 _ hnx (st1.trans st2) S2⟩
        | _ => simp only [e1] at h1⟩⟩
/-- an object that came to be meanwhile is owned from now on -/
theorem Stt.adopt {a : Addr} {k : Nat} (S : Stt K B g H σ δ) (h0 : B.H a = none) (hF : g.F a = none) (hO : g.O a = none) (hp : ∃ o, H a = some o ∧ plainO o) (nh : ¬ has g.W a) : Stt K B { g with O := fun b => if b = a then some k else g.O b } H σ δ := by
  have ne : ∀ b j, g.O b = some j → b ≠ a := fun b j e q => by rw [q, hO] at e; cases e
  refine ⟨S.ret, fun b j e => ?_, S.len, fun i s q => ?_⟩
  · by_cases q : b = a
    · subst q; exact ⟨h0, hF, hp, nh⟩
    · simp only [q, if_false] at e; exact S.own b j e
  · have z := S.env i s q
    have st : ∀ b j, g.O b = some j → (if b = a then some k else g.O b) = some j := fun b j e => by rw [if_neg (ne b j e)]; exact e
    cases s with
    | sh d => exact z
    | ol ds =>
      obtain ⟨b, xs, e1, e2, e3⟩ := z
      exact ⟨b, xs, e1, st b i e2, e3⟩
    | od kvs =>
      obtain ⟨b, xs, e1, e2, e3⟩ := z
      exact ⟨b, xs, e1, st b i e2, e3⟩
    | oi m c fs =>
      obtain ⟨b, dx, xs, e1, e2, e3⟩ := z
      exact ⟨b, dx, xs, e1, st b i e2, e3⟩
end
abbrev SpI := List D → (List (Str × D) → Prop) → (D → Prop) → Prop
def dInit (c : Str) (m : Nat) (t : TDS) : SpI := fun ds Q E => ∀ a, t E { nx := fun δ => ∃ fs, δ[0]? = some (some (.oi (some a) c fs)) ∧ Q fs, rt := fun _ => False } (some (.oi (some a) c []) :: (ds.map (fun d => some (.sh d)) ++ List.replicate (m - 1 - ds.length) none))
/-- how a class' __init__ behaves -/
structure FnI (P : Program) (w : World) (K : PySem.W.Frag) (mg : Str → Option Value) (base : Heap) (T : List (Addr × Str)) (c : Str) (k : Nat) (f : Addr) (fd : FuncData) (ps : List Str) (wpI : SpI) : Prop where
  go : ∀ (A : Around) (outer : List PySem.Env) (s : Shared) (H : Hp) (args : Args) (us : List Value) (vs : List V) (x dx : Addr) (F : Hp) (W : DW) (ds : List D) (P' : List (Str × D) → Prop) (RX : D → Prop) (Q : Hp → Prop) (E : XK), Rm k A →
    Env0 P w K mg base A outer s (upd (upd H dx (.own x)) x (.ins (He.ga K c) dx [])) → BindsTo s fd args (ps.zip us) → Vals (.ref x :: vs) us → H x = none → H dx = none → dx ≠ x → Gd T F H W → Dens K W F vs ds → ds.length + 1 = ps.length → wpI ds P' RX →
    (∀ fs F' H' W' dx' gs, P' fs → Ret ⟨F, H, W, T⟩ F' H' W' → F' x = none → ¬ has W' x → H' x = some (.ins (He.ga K c) dx' gs) → gs.map (·.1) = fs.map (·.1) → Dens K W' F' (gs.map (·.2)) (fs.map (·.2)) → Q H') → (∀ cls dd H', liftX K ⟨F, H, W, T⟩ RX cls dd H' → E cls dd H') →
    codeAny (model P w) A (.call (.ref f) args) (CR (L2.CX P w) outer P w (upd (upd H dx (.own x)) x (.ins (He.ga K c) dx [])) s (fun v H' => v = .non ∧ Q H') E) s
theorem stt_init {K : PySem.W.Frag} {F H : Hp} {W : DW} {T : List (Addr × Str)} {N : List Str} {vs : List V} {ds : List D} {x dx : Addr} {c : Str} (q : Gd T F H W) (r : Dens K W F vs ds) (hx : H x = none) (hd : H dx = none) (ne : dx ≠ x) (hN : ds.length + 1 ≤ N.length) :
    Stt K ⟨F, H, W, T⟩ ⟨F, fun a => if a = x then some 0 else none, W⟩ (upd (upd H dx (.own x)) x (.ins (He.ga K c) dx [])) (start N (.ref x :: vs)) (some (.oi (some x) c []) :: (ds.map (fun d => some (.sh d)) ++ List.replicate (N.length - 1 - ds.length) none)) := by
  have up1 := up_upd (o := .own x) hd
  have hx2 : upd H dx (.own x) x = none := by rw [upd_ne (Ne.symm ne)]; exact hx
  have up2 := up1.trans (up_upd (o := .ins (He.ga K c) dx []) hx2)
  have Fx : F x = none := by
    cases z : F x with
    | none => rfl
    | some o => rw [q.sub _ _ z] at hx; cases hx
  have nhx : ¬ has W x := fun h => (q.drw.has_ne h).1 hx
  refine ⟨⟨q.sub.trans up2, Up.refl _, fun a o e _ _ => up2 a o e, Up.ne up2, fun _ _ => rfl, WLe.refl _, q.drw.keep fun a h => ⟨?_, rfl⟩, q.tab.ext up2, fun a h1 h2 => absurd h1 h2, q.fnt⟩, fun a k e => ?_, ?_, fun i s e => ?_⟩
  · obtain ⟨o, z, _⟩ := has_plain q.drw h
    rw [z, up2 a o z]
  · have e : (if a = x then some 0 else none) = some k := e
    by_cases z : a = x
    · subst z
      exact ⟨hx, Fx, ⟨_, upd_same, trivial⟩, nhx⟩
    · rw [if_neg z] at e; cases e
  · unfold L2.start
    simp [r.length]
    omega
  · cases i with
    | zero =>
      simp at e
      subst e
      exact ⟨x, dx, [], by unfold L2.start; rfl, by simp, upd_same, ⟨rfl, fun b z => Option.some.inj z⟩, .nil⟩
    | succ i =>
      rw [List.getElem?_cons_succ] at e
      by_cases hi : i < ds.length
      · rw [List.getElem?_append_left (by simpa using hi), List.getElem?_map] at e
        cases qd : ds[i]? with
        | none => rw [qd] at e; cases e
        | some d =>
          rw [qd] at e
          cases e
          obtain ⟨v, e1, r1⟩ := r.get qd
          refine ⟨v, ?_, r1⟩
          unfold L2.start
          rw [List.map_cons, List.cons_append, List.getElem?_cons_succ, List.getElem?_append_left (by simpa [r.length] using hi), List.getElem?_map, e1]
          rfl
      · rw [List.getElem?_append_right (by simpa using hi)] at e
        obtain ⟨h1, h2⟩ := List.getElem?_eq_some_iff.mp e
        simp at h2
section
variable {P : Program} {w : World} {K : PySem.W.Frag} {mg : Str → Option Value} {base : Heap} {T : List (Addr × Str)}
theorem fnI_ok {x qual c : Str} {params : Arguments} {body : List Stmt} {scope : Scope} {f : Addr} {fd : FuncData} {N ps : List Str} {k : Nat} {t : TDS} (F : FunD K x qual params body scope [] [] f fd) (S : FnScope N ps scope) (hN : ps.length ≤ N.length)
    (hbody : ∀ (cdv : Value) (A : Around) (outer : List PySem.Env) (s : Shared) (H : Hp) (E : XK) (B : Base), B.T = T → Rm k (A.deeper (envOfC qual scope s.heap.objs.size f cdv)) →
      DSs (cxOf (L2.CX P w) P w K mg base N qual scope f cdv A outer s H E) B body t) : FnI P w K mg base T c (k + 1) f fd ps (dInit c N.length t) := by
  refine ⟨fun A outer s H args us vs x0 dx F0 W ds P' RX Q E hr e0 hb r hx hd ne gd rd hl hw k1 k2 => ?_⟩
  refine run_def (vs := .ref x0 :: vs) F S hr e0 hb r (by rw [List.length_cons, rd.length, hl]) fun cdv hcd hr' => ?_
  have tk := takes_of (X := cxOf (L2.CX P w) P w K mg base N qual scope f cdv A outer s (upd (upd H dx (.own x0)) x0 (.ins (He.ga K c) dx [])) E) (E := E) rfl rfl rfl rfl
  have bd := (hbody cdv A outer s _ E ⟨F0, H, W, T⟩ rfl hr').run RX (tk.imp fun c d σ H' hx => k2 c d H' hx)
  refine ⟨_, bd, _, _, { nx := fun δ => ∃ fs, δ[0]? = some (some (.oi (some x0) c fs)) ∧ P' fs, rt := fun _ => False }, stt_init gd rd hx hd ne (by omega), hw x0, fun σ' δ' g' H' hn st S' => ?_, fun _ _ _ _ _ h => h.elim, fun _ _ _ _ h => h.elim, fun _ _ _ _ h => h.elim⟩
  obtain ⟨fs, e, hp⟩ := hn
  obtain ⟨a, dx', gs, ea, eo, eh, ek, er⟩ := S'.env 0 _ e
  obtain rfl := ek.2 x0 rfl
  obtain ⟨_, c2, _, c4⟩ := S'.own _ _ eo
  exact ⟨rfl, k1 fs _ H' _ dx' gs hp S'.ret c2 c4 eh ek.1 er⟩
end
section
variable {X : Cx} {B : Base} {x : Str} {k : Nat} {wpI : SpI} {p pos : Pos} {t : TDA} {ps : List Str} {f : Addr} {fd : FuncData}
def fMake (c : Str) (wpI : SpI) (m : Nat) (t : TDA) : TDF := fun rx δ P => t rx δ fun ds δ1 => ds.length = m ∧ wpI ds (fun fs => P (.oi none c fs) δ1) rx
/-- C(..), run: behind the arguments -/
theorem run_new {g0 g : Gs} {H0 H : Hp} {δ0 δ : Env} {pins : List (Addr × Obj)} {σ : L2.St} {s : Shared} {us us2 : List Value} {kw : List (Str × Value)} {vs : List V} {ds : List D} {c : Str} {P' : List (Str × D) → Prop} {rx : D → Prop} {Q : VK} (M : Mk X.K (He.ga X.K c) f) (G : FnI X.prog X.w X.K X.mg X.base B.T c k f fd ps wpI) (hr : Rm (k + 1) X.A) (tk : Takes X (XW (liftX X.K B rx)))
    (hb : ∀ (s : Shared) (v : Value), BindsTo s fd ⟨v :: us, kw⟩ (ps.zip (v :: us2))) (I : Inv X pins σ H s) (S0 : Stt X.K B g0 H0 σ δ0) (st : Step X.N.length g0 H0 g H) (S : Stt X.K B g H σ δ) (rv : Vals vs us2) (rd : Dens X.K g.W g.F vs ds) (hl : ds.length + 1 = ps.length) (hw : wpI ds P' rx)
    (k1 : ∀ fs g' H' v, P' fs → Step X.N.length g0 H0 g' H' → Stt X.K B g' H' σ δ → ItOk X.K X.N.length g0 g' H' v (.oi none c fs) → Q v H') : wpAny (model X.prog X.w) X.A (call (.ref (He.ga X.K c)) us kw) (EP X pins σ Q) X.xe s := by
  have I2 := Inv.made (C := He.ga X.K c) I
  have hx : H (s.heap.objs.size + 1) = none := I.hok.fresh (Nat.le_succ _)
  have r2 : Vals (V.ref (s.heap.objs.size + 1) :: vs) (Value.ref (s.heap.objs.size + 1) :: us2) := .cons rfl rv
  refine wpAny_call (make_map (f := f) I.kIn M.makes M.init (beq_iff_eq.mp M.fn) (codeAny_mono (G.go _ X.stack _ H ⟨Value.ref (s.heap.objs.size + 1) :: us, kw⟩ (Value.ref (s.heap.objs.size + 1) :: us2) vs _ _ g.F g.W ds P' rx (fun H' => Q (.ref (s.heap.objs.size + 1)) H') (liftX X.K B rx) (hr.make (He.ga X.K c) us kw)
    (I2.env0.make (He.ga X.K c) us kw) (hb _ _) r2 hx (I.hok.fresh (Nat.le_refl _)) (Nat.ne_of_lt (Nat.lt_succ_self _)) S.ret.gd rd hl hw (fun fs F' H' W' dx' gs hp rt hF hnh eh ek er => ?_) fun cls dd H' hx => liftX.trans S.ret hx) fun r s' hq' => ?_))
  · obtain ⟨S1, st1⟩ := S.after (n := X.N.length) rt
    have h0 : B.H (s.heap.objs.size + 1) = none := by
      cases z : B.H (s.heap.objs.size + 1) with
      | none => rfl
      | some o => exact absurd hx (S.ret.there _ (by rw [z]; simp))
    have hO : g.O (s.heap.objs.size + 1) = none := own_none S hx
    have hO0 : g0.O (s.heap.objs.size + 1) = none := by
      refine own_none S0 ?_
      cases z : H0 (s.heap.objs.size + 1) with
      | none => rfl
      | some o => exact absurd hx (st.thr _ (by rw [z]; simp))
    have S2 := S1.adopt (k := X.N.length + (s.heap.objs.size + 1)) h0 hF hO ⟨_, eh, trivial⟩ hnh
    refine k1 fs (⟨F', fun b => if b = s.heap.objs.size + 1 then some (X.N.length + (s.heap.objs.size + 1)) else g.O b, W'⟩ : Gs) H' _ hp ⟨(st.trans st1).up, (st.trans st1).wle, (st.trans st1).thr, fun a j e hj => ?_⟩ S2 ⟨_, dx', gs, rfl, hO0, by simp, eh, ⟨ek, fun b z => nomatch z⟩, er⟩
    obtain ⟨z1, z2⟩ := (st.trans st1).ext a j e hj
    refine ⟨?_, z2⟩
    show (if a = s.heap.objs.size + 1 then some (X.N.length + (s.heap.objs.size + 1)) else g.O a) = some j
    rw [if_neg (fun q => by rw [q, hO0] at e; cases e)]; exact z1
  · have z := after_call I2 (passes_lift tk) hq'
    rcases r with e | fl
    · exact z
    · cases fl with
      | ret u =>
        obtain ⟨v, H', I3, rv', ev, q3⟩ := z
        subst ev
        exact ⟨rv', ⟨V.ref (s.heap.objs.size + 1), H', I3, rfl, q3⟩⟩
      | next => exact z
      | brk => exact z
      | cont => exact z
/-- an own class, as a thing to make -/
structure FnM (P : Program) (w : World) (K : PySem.W.Frag) (mg : Str → Option Value) (base : Heap) (T : List (Addr × Str)) (x : Str) (k : Nat) (ps : List Str) (wpI : SpI) : Prop where
  ex : ∃ (f : Addr) (fd : FuncData), mg x = some (.ref (He.ga K x)) ∧ Mk K (He.ga K x) f ∧ (∀ (s : Shared) (us : List Value), us.length = ps.length → BindsTo s fd ⟨us, []⟩ (ps.zip us)) ∧ FnI P w K mg base T x k f fd ps wpI
theorem df_make {e : Expr} {es : List Expr} (G : FnM X.prog X.w X.K X.mg X.base B.T x k ps wpI) (hr : Rm (k + 1) X.A) (hg : Gl X x) (ha : DA X B (e :: es) t) (hdb : (x == ("__debug__" : Str)) = false := by decide)
    (he : starEach (e :: es) X.env = (false, eval e X.env) :: starEach es X.env := by rfl) (hpl : (backTo pos (starEach es X.env)).any (·.1) = false := by rfl) (h1 : 1 ≤ ps.length := by decide) : DF X B (.Call (.Name x p) (e :: es) [] pos) (fMake x wpI (ps.length - 1) t) := by
  obtain ⟨f, fd, hm, M, hb, FI⟩ := G.ex
  refine ⟨fun rx tk => ⟨fun pins s σ H Q I ⟨g, δ, P, S, q, k1⟩ => ?_⟩⟩
  refine wpAny_Call_Name_kw (ld_glob I hg hm ?_ hdb)
  refine PySem.W.callWith_K (h₀ := X.base) I.ok.mod.kin M.kp (thn ((ha.run rx tk).run pos pins s σ H (fun vs H1 => ∃ ds δ1 g1, (ds.length = ps.length - 1 ∧ wpI ds (fun fs => P (.oi none x fs) δ1) rx) ∧ Step X.N.length g H g1 H1 ∧ Stt X.K B g1 H1 σ δ1 ∧ Dens X.K g1.W g1.F vs ds) I
    ⟨g, δ, _, S, q, fun ds δ1 g1 H1 vs h1 st1 S1 D1 => ⟨ds, δ1, g1, h1, st1, S1, D1⟩⟩) fun us s1 ⟨vs, H1, I1, r, ds, δ1, g1, h2, st1, S1, D1⟩ => ⟨I1.kIn, ?_⟩) he hpl
  have hl : ds.length + 1 = ps.length := by have := h2.1; omega
  exact run_new M FI hr tk (fun s v => hb s (v :: us) (by rw [List.length_cons, ← r.length, D1.length, hl])) I1 S st1 S1 r D1 hl h2.2 fun fs g' H' v hp st' S' it => k1 _ δ1 g' H' v hp st' S' it
end
end DL

namespace DL
open PySem PySem.Spec L2
open PyProof.Rows hiding St
/-! ### keywords -/
def pick {α : Type} (perm : List Nat) (l : List α) : List α := perm.filterMap fun i => l[i]?
theorem pick_dens {K : PySem.W.Frag} {W : DW} {F : Hp} {vs : List V} {ds : List D} (r : Dens K W F vs ds) : ∀ perm : List Nat, Dens K W F (pick perm vs) (pick perm ds)
  | [] => .nil
  | i :: perm => by
    unfold pick
    rw [List.filterMap_cons, List.filterMap_cons]
    cases e : ds[i]? with
    | none =>
      have e2 : vs[i]? = none := by rw [List.getElem?_eq_none_iff] at e ⊢; rw [r.length]; exact e
      rw [e2]; exact pick_dens r perm
    | some d =>
      obtain ⟨v, e2, rv⟩ := r.get e
      rw [e2]; exact .cons rv (pick_dens r perm)
theorem pick_vals {vs : List V} {us : List Value} (r : Vals vs us) : ∀ perm : List Nat, Vals (pick perm vs) (pick perm us)
  | [] => .nil
  | i :: perm => by
    unfold pick
    rw [List.filterMap_cons, List.filterMap_cons]
    cases e : vs[i]? with
    | none =>
      have e2 : us[i]? = none := by rw [List.getElem?_eq_none_iff] at e ⊢; rw [← r.length]; exact e
      rw [e2]; exact pick_vals r perm
    | some d =>
      obtain ⟨v, e2, rv⟩ := r.get e
      rw [e2]; exact .cons rv (pick_vals r perm)
structure DK (X : Cx) (B : Base) (kws : List Keyword) (t : TDA) : Prop where
  run : ∀ rx, Takes X (XW (liftX X.K B rx)) → PK X kws (liftA X.K B X.N.length (t rx))
theorem PK.imp {X : Cx} {e : List Keyword} {t t' : TA} (h : PK X e t) (i : ∀ σ H Q, σ.length = X.N.length → t' σ H Q → t σ H Q) : PK X e t' := ⟨fun pos pins s σ H Q I q => h.run pos pins s σ H Q I (i σ H Q I.len q)⟩
section
variable {X : Cx} {B : Base} {e : Expr} {es : List Expr} {kws : List Keyword} {te : TDX} {t tk : TDA} {nm : Option Str} {kpos p pos : Pos} {x : Str} {k n : Nat} {ps ks : List Str} {perm : List Nat} {wp : SpD} {wpI : SpI}
theorem dk_nil : DK X B [] dNil := ⟨fun rx tk => PK.imp pk_nil fun σ H Q _ ⟨g, δ, P, S, q, k⟩ => k _ _ g H [] q (Step.refl _ _ _) S .nil⟩
theorem dk_cons (he : DE X B e te) (hr : DK X B kws t) : DK X B (⟨nm, e, kpos⟩ :: kws) (dCons te t) := ⟨fun rx tk => PK.imp (pk_cons (he.run rx tk) (hr.run rx tk)) fun _ _ _ _ h => lift_cons h⟩
structure FnK (P : Program) (w : World) (K : PySem.W.Frag) (mg : Str → Option Value) (base : Heap) (T : List (Addr × Str)) (x : Str) (k : Nat) (ps : List Str) (wp : SpD) (n : Nat) (ks : List Str) (perm : List Nat) : Prop where
  ex : ∃ (f : Addr) (fd : FuncData), mg x = some (.ref f) ∧ PySem.W.keepIn K (.ref f) = true ∧ (∀ (s : Shared) (us ws : List Value), us.length = n → ws.length = ks.length → BindsTo s fd ⟨us, ks.zip ws⟩ (ps.zip (pick perm (us ++ ws)))) ∧ FnG P w K mg base k f fd ps (liftSp K T ps.length wp)
def dCallK (wp : SpD) (m n mk : Nat) (perm : List Nat) (t tk : TDA) : TDX := fun rx δ P => t rx δ fun ds δ1 => tk rx δ1 fun es δ2 => ds.length = n ∧ es.length = mk ∧ (pick perm (ds ++ es)).length = m ∧ wp (pick perm (ds ++ es)) (fun d => P d δ2) rx
theorem de_callK (G : FnK X.prog X.w X.K X.mg X.base B.T x k ps wp n ks perm) (hr : Rm k X.A) (hg : Gl X x) (ha : DA X B (e :: es) t) (hkw : DK X B kws tk) (hall : (backToKw pos (keywordEach kws X.env)).all (·.1.isSome) = true := by rfl) (hks : (backToKw pos (keywordEach kws X.env)).filterMap (·.1) = ks := by rfl)
    (hdb : (x == ("__debug__" : Str)) = false := by decide) (he : starEach (e :: es) X.env = (false, eval e X.env) :: starEach es X.env := by rfl)
    (hpl : ((backTo pos (starEach (e :: es) X.env)).any (·.1) || (backToKw pos (keywordEach kws X.env)).any (·.1.isNone)) = false := by rfl) : DE X B (.Call (.Name x p) (e :: es) kws pos) (dCallK wp ps.length n ks.length perm t tk) := by
  obtain ⟨f, fd, hm, hk, hb, F⟩ := G.ex
  refine ⟨fun rx tk0 => ⟨fun pins s σ H Q I ⟨g, δ, P, S, q, k1⟩ => ?_⟩⟩
  refine wpAny_Call_Name_kw (ld_glob I hg hm ?_ hdb)
  refine PySem.W.callWith_KW (h₀ := X.base) I.ok.mod.kin hk hall (thn ((ha.run rx tk0).run pos pins s σ H (fun vs H1 => ∃ ds δ1 g1, (tk rx δ1 fun es δ2 => ds.length = n ∧ es.length = ks.length ∧ (pick perm (ds ++ es)).length = ps.length ∧ wp (pick perm (ds ++ es)) (fun d => P d δ2) rx) ∧ Step X.N.length g H g1 H1 ∧ Stt X.K B g1 H1 σ δ1 ∧ Dens X.K g1.W g1.F vs ds) I
    ⟨g, δ, _, S, q, fun ds δ1 g1 H1 vs h1 st1 S1 D1 => ⟨ds, δ1, g1, h1, st1, S1, D1⟩⟩) fun us s1 ⟨vs, H1, I1, r1, ds, δ1, g1, h1, st1, S1, D1⟩ => ?_) hpl he
  refine thn ((hkw.run rx tk0).run pos pins s1 σ H1 (fun zs H2 => ∃ es δ2 g2, (ds.length = n ∧ es.length = ks.length ∧ (pick perm (ds ++ es)).length = ps.length ∧ wp (pick perm (ds ++ es)) (fun d => P d δ2) rx) ∧ Step X.N.length g1 H1 g2 H2 ∧ Stt X.K B g2 H2 σ δ2 ∧ Dens X.K g2.W g2.F zs es) I1
    ⟨g1, δ1, _, S1, h1, fun es δ2 g2 H2 zs h2 st2 S2 D2 => ⟨es, δ2, g2, h2, st2, S2, D2⟩⟩) fun ws s2 ⟨zs, H2, I2, r2, es', δ2, g2, ⟨l1, l2, l3, hw⟩, st2, S2, D2⟩ => ⟨I2.kIn, ?_⟩
  rw [hks]
  have DD := pick_dens ((D1.step st2).append D2) perm
  have z := sp_of (n := X.N.length) (rx := rx) (Q := Q) S2 DD hw fun d g' H' v hp st S' Dn => k1 d δ2 g' H' v hp ((st1.trans st2).trans st) S' Dn
  rw [l3] at z
  exact run_g F hr (hb s2 us ws (by rw [← r1.length, D1.length, l1]) (by rw [← r2.length, D2.length, l2])) (passes_lift tk0) I2 (pick_vals (r1.append r2) perm) z
theorem de_callK0 (G : FnK X.prog X.w X.K X.mg X.base B.T x k ps wp 0 ks perm) (hr : Rm k X.A) (hg : Gl X x) (hkw : DK X B kws tk) (hall : (backToKw pos (keywordEach kws X.env)).all (·.1.isSome) = true := by rfl) (hks : (backToKw pos (keywordEach kws X.env)).filterMap (·.1) = ks := by rfl)
    (hdb : (x == ("__debug__" : Str)) = false := by decide) (hpl : ((backTo pos (starEach [] X.env)).any (·.1) || (backToKw pos (keywordEach kws X.env)).any (·.1.isNone)) = false := by rfl) : DE X B (.Call (.Name x p) [] kws pos) (dCallK wp ps.length 0 ks.length perm dNil tk) := by
  obtain ⟨f, fd, hm, hk, hb, F⟩ := G.ex
  refine ⟨fun rx tk0 => ⟨fun pins s σ H Q I ⟨g, δ, P, S, q, k1⟩ => ?_⟩⟩
  refine wpAny_Call_Name_kw (ld_glob I hg hm ?_ hdb)
  refine PySem.W.callWith_KW0 (h₀ := X.base) I.ok.mod.kin hk hall ?_ hpl
  refine thn ((hkw.run rx tk0).run pos pins s σ H (fun zs H2 => ∃ es δ2 g2, (es.length = ks.length ∧ (pick perm ([] ++ es)).length = ps.length ∧ wp (pick perm ([] ++ es)) (fun d => P d δ2) rx) ∧ Step X.N.length g H g2 H2 ∧ Stt X.K B g2 H2 σ δ2 ∧ Dens X.K g2.W g2.F zs es) I
    ⟨g, δ, _, S, q, fun es δ2 g2 H2 zs h2 st2 S2 D2 => ⟨es, δ2, g2, h2.2, st2, S2, D2⟩⟩) fun ws s2 ⟨zs, H2, I2, r2, es', δ2, g2, ⟨l2, l3, hw⟩, st2, S2, D2⟩ => ⟨I2.kIn, ?_⟩
  rw [hks]
  have DD := pick_dens (Dens.append .nil D2) perm
  have z := sp_of (n := X.N.length) (rx := rx) (Q := Q) S2 DD hw fun d g' H' v hp st S' Dn => k1 d δ2 g' H' v hp (st2.trans st) S' Dn
  rw [l3] at z
  exact run_g F hr (hb s2 [] ws rfl (by rw [← r2.length, D2.length, l2])) (passes_lift tk0) I2 (pick_vals (show Vals ([] ++ zs) ([] ++ ws) from r2) perm) z
/-- C(.., k = v) -/
structure FnMK (P : Program) (w : World) (K : PySem.W.Frag) (mg : Str → Option Value) (base : Heap) (T : List (Addr × Str)) (x : Str) (k : Nat) (ps : List Str) (wpI : SpI) (n : Nat) (ks : List Str) (perm : List Nat) : Prop where
  ex : ∃ (f : Addr) (fd : FuncData), mg x = some (.ref (He.ga K x)) ∧ Mk K (He.ga K x) f ∧ (∀ (s : Shared) (v : Value) (us ws : List Value), us.length = n → ws.length = ks.length → BindsTo s fd ⟨v :: us, ks.zip ws⟩ (ps.zip (v :: pick perm (us ++ ws)))) ∧ FnI P w K mg base T x k f fd ps wpI
def fMakeK (c : Str) (wpI : SpI) (m n mk : Nat) (perm : List Nat) (t tk : TDA) : TDF := fun rx δ P => t rx δ fun ds δ1 => tk rx δ1 fun es δ2 => ds.length = n ∧ es.length = mk ∧ (pick perm (ds ++ es)).length = m ∧ wpI (pick perm (ds ++ es)) (fun fs => P (.oi none c fs) δ2) rx
theorem df_makeK (G : FnMK X.prog X.w X.K X.mg X.base B.T x k ps wpI n ks perm) (hr : Rm (k + 1) X.A) (hg : Gl X x) (ha : DA X B (e :: es) t) (hkw : DK X B kws tk) (hall : (backToKw pos (keywordEach kws X.env)).all (·.1.isSome) = true := by rfl) (hks : (backToKw pos (keywordEach kws X.env)).filterMap (·.1) = ks := by rfl)
    (hdb : (x == ("__debug__" : Str)) = false := by decide) (he : starEach (e :: es) X.env = (false, eval e X.env) :: starEach es X.env := by rfl)
    (hpl : ((backTo pos (starEach (e :: es) X.env)).any (·.1) || (backToKw pos (keywordEach kws X.env)).any (·.1.isNone)) = false := by rfl) (h1 : 1 ≤ ps.length := by decide) : DF X B (.Call (.Name x p) (e :: es) kws pos) (fMakeK x wpI (ps.length - 1) n ks.length perm t tk) := by
  obtain ⟨f, fd, hm, M, hb, FI⟩ := G.ex
  refine ⟨fun rx tk0 => ⟨fun pins s σ H Q I ⟨g, δ, P, S, q, k1⟩ => ?_⟩⟩
  refine wpAny_Call_Name_kw (ld_glob I hg hm ?_ hdb)
  refine PySem.W.callWith_KW (h₀ := X.base) I.ok.mod.kin M.kp hall (thn ((ha.run rx tk0).run pos pins s σ H (fun vs H1 => ∃ ds δ1 g1, (tk rx δ1 fun es δ2 => ds.length = n ∧ es.length = ks.length ∧ (pick perm (ds ++ es)).length = ps.length - 1 ∧ wpI (pick perm (ds ++ es)) (fun fs => P (.oi none x fs) δ2) rx) ∧ Step X.N.length g H g1 H1 ∧ Stt X.K B g1 H1 σ δ1 ∧ Dens X.K g1.W g1.F vs ds) I
    ⟨g, δ, _, S, q, fun ds δ1 g1 H1 vs h1 st1 S1 D1 => ⟨ds, δ1, g1, h1, st1, S1, D1⟩⟩) fun us s1 ⟨vs, H1, I1, r1, ds, δ1, g1, h1, st1, S1, D1⟩ => ?_) hpl he
  refine thn ((hkw.run rx tk0).run pos pins s1 σ H1 (fun zs H2 => ∃ es δ2 g2, (ds.length = n ∧ es.length = ks.length ∧ (pick perm (ds ++ es)).length = ps.length - 1 ∧ wpI (pick perm (ds ++ es)) (fun fs => P (.oi none x fs) δ2) rx) ∧ Step X.N.length g1 H1 g2 H2 ∧ Stt X.K B g2 H2 σ δ2 ∧ Dens X.K g2.W g2.F zs es) I1
    ⟨g1, δ1, _, S1, h1, fun es δ2 g2 H2 zs h2 st2 S2 D2 => ⟨es, δ2, g2, h2, st2, S2, D2⟩⟩) fun ws s2 ⟨zs, H2, I2, r2, es', δ2, g2, ⟨l1, l2, l3, hw⟩, st2, S2, D2⟩ => ⟨I2.kIn, ?_⟩
  rw [hks]
  have DD := pick_dens ((D1.step st2).append D2) perm
  exact run_new M FI hr tk0 (fun s v => hb s v us ws (by rw [← r1.length, D1.length, l1]) (by rw [← r2.length, D2.length, l2])) I2 S (st1.trans st2) S2 (pick_vals (r1.append r2) perm) DD (by omega) hw fun fs g' H' v hp st' S' it => k1 _ δ2 g' H' v hp st' S' it
theorem df_makeK0 (G : FnMK X.prog X.w X.K X.mg X.base B.T x k ps wpI 0 ks perm) (hr : Rm (k + 1) X.A) (hg : Gl X x) (hkw : DK X B kws tk) (hall : (backToKw pos (keywordEach kws X.env)).all (·.1.isSome) = true := by rfl) (hks : (backToKw pos (keywordEach kws X.env)).filterMap (·.1) = ks := by rfl)
    (hdb : (x == ("__debug__" : Str)) = false := by decide) (hpl : ((backTo pos (starEach [] X.env)).any (·.1) || (backToKw pos (keywordEach kws X.env)).any (·.1.isNone)) = false := by rfl) (h1 : 1 ≤ ps.length := by decide) : DF X B (.Call (.Name x p) [] kws pos) (fMakeK x wpI (ps.length - 1) 0 ks.length perm dNil tk) := by
  obtain ⟨f, fd, hm, M, hb, FI⟩ := G.ex
  refine ⟨fun rx tk0 => ⟨fun pins s σ H Q I ⟨g, δ, P, S, q, k1⟩ => ?_⟩⟩
  refine wpAny_Call_Name_kw (ld_glob I hg hm ?_ hdb)
  refine PySem.W.callWith_KW0 (h₀ := X.base) I.ok.mod.kin M.kp hall ?_ hpl
  refine thn ((hkw.run rx tk0).run pos pins s σ H (fun zs H2 => ∃ es δ2 g2, (es.length = ks.length ∧ (pick perm ([] ++ es)).length = ps.length - 1 ∧ wpI (pick perm ([] ++ es)) (fun fs => P (.oi none x fs) δ2) rx) ∧ Step X.N.length g H g2 H2 ∧ Stt X.K B g2 H2 σ δ2 ∧ Dens X.K g2.W g2.F zs es) I
    ⟨g, δ, _, S, q, fun es δ2 g2 H2 zs h2 st2 S2 D2 => ⟨es, δ2, g2, h2.2, st2, S2, D2⟩⟩) fun ws s2 ⟨zs, H2, I2, r2, es', δ2, g2, ⟨l2, l3, hw⟩, st2, S2, D2⟩ => ⟨I2.kIn, ?_⟩
  rw [hks]
  have DD := pick_dens (Dens.append .nil D2) perm
  exact run_new M FI hr tk0 (fun s v => hb s v [] ws rfl (by rw [← r2.length, D2.length, l2])) I2 S st2 S2 (pick_vals (show Vals ([] ++ zs) ([] ++ ws) from r2) perm) DD (by omega) hw fun fs g' H' v hp st' S' it => k1 _ δ2 g' H' v hp st' S' it
end
end DL

namespace DL
open PySem PySem.Spec L2
open PyProof.Rows hiding St
/-! ### t[::-1] of a tuple -/
section
open HT
variable {prog : Program} {w : World} {A : Around} {E : Value → Shared → Prop} {s : Shared}
theorem rev_places (n : Nat) : Builtin.Slice.slicePlaces ((n : Int) - 1) (-1) (-1) = n := by
  unfold Builtin.Slice.slicePlaces
  rw [if_neg (by decide), Int.neg_neg, Int.ediv_one]
  split <;> omega
theorem fm_congr {α β : Type} {f g : α → Option β} : ∀ {l : List α}, (∀ a ∈ l, f a = g a) → l.filterMap f = l.filterMap g
  | [], _ => rfl
  | a :: l, h => by rw [List.filterMap_cons, List.filterMap_cons, h a List.mem_cons_self, fm_congr fun b hb => h b (List.mem_cons_of_mem _ hb)]
theorem rev_pick (xs : Array Value) : ((List.range xs.size).filterMap fun (m : Nat) => xs[(((xs.size : Int) - 1) + (m : Int) * -1).toNat]?).toArray = xs.toList.reverse.toArray := by
  have e : ∀ m ∈ List.range xs.size, xs[(((xs.size : Int) - 1) + (m : Int) * -1).toNat]? = xs.toList.reverse[m]? := fun m hm => by
    have hm := List.mem_range.mp hm
    rw [List.getElem?_reverse (by simpa using hm)]
    have : (((xs.size : Int) - 1) + (m : Int) * -1).toNat = xs.toList.length - 1 - m := by simp; omega
    rw [this]; simp
  rw [fm_congr e]
  congr 1
  have key : ∀ l : List Value, (List.range l.length).filterMap (fun m => l[m]?) = l := by
    intro l
    induction l with
    | nil => rfl
    | cons a l ih =>
      rw [List.length_cons, List.range_succ_eq_map, List.filterMap_cons]
      simp only [List.getElem?_cons_zero, List.filterMap_map]
      congr 1
  have := key xs.toList.reverse
  rw [List.length_reverse, Array.length_toList] at this
  exact this
theorem tup_rev {t sl : Addr} {items : Array Value} {vl vu vs : Value} {Q : Value → Shared → Prop} (ht : IsTup s.heap t items) (hs : s.heap.IsSliceOf sl vl vu vs) (pl : IsPart vl none) (pu : IsPart vu none) (ps : IsPart vs (some (-1)))
    (h : Q (.ref s.heap.objs.size) { s with heap := s.heap.push { cls := .type "tuple", data := .seq items.toList.reverse.toArray } }) (hsz : items.size ≤ sizeLine) : wpAny (model prog w) A (getItem (.ref t) (.ref sl)) Q E s := by
  have fits : sizeOk (.seq items.toList.reverse.toArray) := by
    show items.toList.reverse.toArray.size ≤ sizeLine
    rw [List.size_toArray, List.length_reverse, Array.length_toList]; exact hsz
  obtain ⟨os, hos, hcs, hds⟩ := id hs
  have isSl : s.TypeIs (.ref sl) "slice" := ⟨os, hos, hcs⟩
  unfold getItem
  try with_reducible refine wpAny_holding ?_
  first | refine wpAny_bind (wpAny_pure ?_) | skip
  refine wpAny_bind (wpAny_sequenceKey ht.typeIs (by decide) ?_)
  refine wpAny_bind (wpAny_callSpecial?_slot (name := Str.ofString "__getitem__") ht.typeIs PyProof.Rows.slot_tuple_getitem
    (wpAny_call_entry PyProof.Rows.slot_tuple_getitem ht.typeIs entry_tuple_getitem ?_ (args_tuple_getitem _ _)))
  show wpAny _ _ (Builtin.Tuple.tupleItemsOf (.ref t) >>= _) _ _ s
  refine wpAny_bind (tupleItemsOf_ ht ?_)
  refine wpAny_bind (wpAny_typeOf isSl ?_)
  rw [if_pos (by decide)]
  have ap : ∀ {Q : Int × Int × Nat → Shared → Prop}, Q (((items.size : Int) - 1), -1, items.size) s → wpAny (model prog w) A.in1 (Builtin.Slice.sliceApplied (.ref sl) (pure (items.size : Int))) Q E s := fun {Q} q => by
    unfold Builtin.Slice.sliceApplied Builtin.Slice.sliceFields
    refine wpAny_bind (wpAny_bind (wpAny_field hos hds (x := vl) rfl (wpAny_bind (wpAny_field hos hds (x := vu) rfl (wpAny_bind (wpAny_field hos hds (x := vs) rfl (wpAny_pure ?_)))))))
    refine wpAny_bind (slicePart_ ps ?_)
    show wpAny _ _ (if ((-1 : Int) == 0) = true then _ else _) _ _ s
    rw [if_neg (by decide)]
    refine wpAny_bind (slicePart_ pl (wpAny_bind (slicePart_ pu (wpAny_bind (wpAny_pure ?_)))))
    show wpAny _ _ (pure (((items.size : Int) - 1), (-1 : Int), Builtin.Slice.slicePlaces ((items.size : Int) - 1) (-1) (-1))) _ _ s
    rw [rev_places]
    exact wpAny_pure q
  refine wpAny_bind (ap ?_)
  show wpAny _ _ (if (((items.size : Int) - 1) == 0 && (-1 : Int) == 1 && items.size == items.size) = true then _ else _) _ _ s
  rw [show ((-1 : Int) == 1) = false by decide, Bool.and_false, Bool.false_and, if_neg Bool.false_ne_true, rev_pick]
  first
    | exact wpAny_bind (m := Builtin.Tuple.tupleExact _) (wpAny_newObj_type (wpAny_pure ⟨_, rfl, wpAny_pure h⟩) fits)
    | exact wpAny_bind (m := Builtin.Tuple.tupleExact _) (wpAny_newObj_type (wpAny_bind (wpAny_pure (wpAny_pure ⟨_, rfl, wpAny_pure h⟩))) fits)
    | exact wpAny_bind (wpAny_bind (m := Builtin.Tuple.tupleExact _) (wpAny_newObj_type (wpAny_pure (wpAny_pure ⟨_, rfl, wpAny_pure h⟩)) fits))
    | exact wpAny_bind (wpAny_bind (m := Builtin.Tuple.tupleExact _) (wpAny_newObj_type (wpAny_pure ⟨_, rfl, wpAny_pure h⟩) fits))
end
section
variable {X : Cx} {B : Base} {e : Expr} {te : TE} {td : TDX} {k : Nat} {p1 p2 p3 pos : Pos}
def tRevA (K : PySem.W.Frag) (te : TE) : TE := fun σ H Q => te σ H fun x H1 => ∃ a xs, x = .ref a ∧ ((SqL K H1 a xs ∧ ∀ p, H1 p = none → Q (.ref p) (upd H1 p (.lst xs.reverse))) ∨ (SqT K H1 a xs ∧ ∀ p, H1 p = none → Q (.ref p) (upd H1 p (.tup xs.reverse))))
theorem pe_revA (he : PE X e te) : PE X (.Subscript e (.Slice none none (some (.UnaryOp .USub (.Constant (.int 1) k p1) p2)) p3) pos) (tRevA X.K te) := by
  refine ⟨fun pins s σ H Q I h => ?_⟩
  refine Subscript_ (thn (he.run pins s σ H _ I h) fun v s1 ⟨x, H1, I1, r1, q1⟩ => ?_)
  obtain ⟨a, xs, ex, q⟩ := q1
  subst ex
  cases r1
  have minus : PO X (some (.UnaryOp .USub (.Constant (.int 1) k p1) p2)) (tPart (tUn (rU fun i => .int (-i)) (tC (.int 1)))) := po_some (pe_un un_neg pe_int)
  refine wpAny_Slice (thn (po_none.run pins s1 σ H1 (fun o H2 => o = none ∧ H2 = H1) I1 ⟨rfl, rfl⟩) fun vl s2 ⟨l, H2, I2, pl, el, e2⟩ => ?_)
  subst el e2
  refine thn (po_none.run pins s2 σ H2 (fun o H3 => o = none ∧ H3 = H2) I2 ⟨rfl, rfl⟩) fun vu s3 ⟨u, H3, I3, pu, eu, e3⟩ => ?_
  subst eu e3
  refine thn (minus.run pins s3 σ H3 (fun o H4 => o = some (-1) ∧ H4 = H3) I3 ⟨1, rfl, -1, rfl, rfl, rfl⟩) fun vs s4 ⟨o, H4, I4, ps, eo, e4⟩ => ?_
  subst eo e4
  have I5 : Inv X pins σ H4 { s4 with heap := s4.heap.push { cls := .type "slice", data := .fields #[vl, vu, vs] } } := I4.kept (t' := s4.toks) fun b ob q => Heap.get?_push_of_some _ q
  show wpAny (model X.prog X.w) X.A (subscriptTail e (.Slice none none (some (.UnaryOp .USub (.Constant (.int 1) k p1) p2)) p3) (.ref a) (.ref s4.heap.objs.size)) (EP X pins σ Q) X.xe { s4 with heap := s4.heap.push { cls := .type "slice", data := .fields #[vl, vu, vs] } }
  rcases q with ⟨hx, q⟩ | ⟨hx, q⟩
  · obtain ⟨its, r, ht, hz⟩ := I5.list hx
    have hlen := r.length
    refine tail_any (ops := [.ref a, .ref s4.heap.objs.size]) ht.isList.typeIs (PySem.slot_list_getitem.lookup) ?_ (by with_unfolding_all rfl)
    refine wpAny_getItem_list_slice ht.isList (Heap.IsSliceOf.new _ vl vu vs) pl pu ps (by decide) ?_ (by rw [List.size_toArray]; omega)
    rw [PySem.W.krv_pick]
    exact ⟨.ref _, _, I5.laid (t' := s4.toks) (o := .lst xs.reverse) (fun b ob q => Heap.get?_push_of_some _ q) (Nat.le_refl _) ⟨by rw [List.length_reverse]; exact hz, _, 0, r.reverse, Heap.get?_push_size _ rfl⟩, rfl, q _ (I5.hok.fresh (Nat.le_refl _))⟩
  · obtain ⟨its, r, ht, hz⟩ := I5.tuple hx
    have hlen := r.length
    refine tail_any (ops := [.ref a, .ref s4.heap.objs.size]) ht.typeIs (PyProof.Rows.slot_tuple_getitem.lookup) ?_ (by with_unfolding_all rfl)
    refine tup_rev ht (Heap.IsSliceOf.new _ vl vu vs) pl pu ps ?_ (by rw [List.size_toArray]; omega)
    exact ⟨.ref _, _, I5.laid (t' := s4.toks) (o := .tup xs.reverse) (fun b ob q => Heap.get?_push_of_some _ q) (Nat.le_refl _) ⟨by rw [List.length_reverse]; exact hz, _, r.reverse, IsTup.new _ _⟩, rfl, q _ (I5.hok.fresh (Nat.le_refl _))⟩
def revF (x : D) (P : Sl → Prop) : Prop := match x with
  | .lst xs => P (.ol xs.reverse)
  | .kls xs => P (.ol xs.reverse)
  | .tup xs => P (.sh (.tup xs.reverse))
  | _ => False
def fRev (te : TDX) : TDF := fun rx δ P => te rx δ fun d δ1 => revF d fun s => P s δ1
theorem df_rev (he : DE X B e td) : DF X B (.Subscript e (.Slice none none (some (.UnaryOp .USub (.Constant (.int 1) k p1) p2)) p3) pos) (fRev td) :=
  ⟨fun rx tk => PE.imp (pe_revA (he.run rx tk)) fun σ H Q _ ⟨g, δ, P, S, q, k⟩ => ⟨g, δ, _, S, q, fun d δ1 g1 H1 v h1 st1 S1 D1 => by
    cases D1 with
    | @lst a vs ds h rs =>
      refine ⟨a, vs, rfl, .inl ⟨SqL.of (S1.ret.sub _ _ h), fun p hp => ?_⟩⟩
      obtain ⟨g4, st4, S4, it⟩ := S1.newL st1 S hp rs.reverse
      exact k _ δ1 g4 _ _ h1 st4 S4 it
    | @kls a vs ds h rs =>
      refine ⟨a, vs, rfl, .inl ⟨SqL.up S1.ret.sub h, fun p hp => ?_⟩⟩
      obtain ⟨g4, st4, S4, it⟩ := S1.newL st1 S hp rs.reverse
      exact k _ δ1 g4 _ _ h1 st4 S4 it
    | @tup a vs ds h rs =>
      refine ⟨a, vs, rfl, .inr ⟨SqT.up S1.ret.sub h, fun p hp => ?_⟩⟩
      obtain ⟨S4, st4⟩ := S1.alloc (n := X.N.length) (o := .tup vs.reverse) hp
      exact k _ δ1 _ _ _ h1 (st1.trans st4) S4 (.tup (.inl (.inl upd_same)) (rs.reverse.step st4))
    | _ => exact h1.elim⟩⟩
end
end DL

namespace DL
open PySem PySem.Spec L2
open PyProof.Rows hiding St
section
variable {X : Cx} {B : Base} {e i : Expr} {te ti : TDX} {pos pos' : Pos}
theorem PSet.or {t u : TSet} (h : PSet X t) (h' : PSet X u) : PSet X (fun o i v H Q => t o i v H Q ∨ u o i v H Q) := by
  intro pins s σ H o i v ov iv w Q I r1 r2 r3 q
  rcases q with q | q
  · exact h pins s σ H o i v ov iv w Q I r1 r2 r3 q
  · exact h' pins s σ H o i v ov iv w Q I r1 r2 r3 q
def putKD (kvs : List (Key × D)) (k : Key) (v : D) : List (Key × D) :=
  if (kvs.any fun kv => decide (kv.1 = k)) = true then kvs.map (fun kv => if kv.1 = k then (kv.1, v) else kv) else kvs ++ [(k, v)]
theorem any_keys {k : Key} : ∀ {ks : List (Key × V)} {kvs : List (Key × D)}, ks.map (·.1) = kvs.map (·.1) → (ks.any fun kv => decide (kv.1 = k)) = kvs.any fun kv => decide (kv.1 = k)
  | [], [], _ => rfl
  | [], _ :: _, e => by cases e
  | _ :: _, [], e => by cases e
  | (a, x) :: ks, (b, y) :: kvs, e => by
    simp only [List.map_cons, List.cons.injEq] at e
    rw [List.any_cons, List.any_cons, any_keys e.2, e.1]
theorem put_map {K : PySem.W.Frag} {W : DW} {F : Hp} {k : Key} {v : V} {d : D} (r : Den K W F v d) : ∀ {ks : List (Key × V)} {kvs : List (Key × D)}, ks.map (·.1) = kvs.map (·.1) → Dens K W F (ks.map (·.2)) (kvs.map (·.2)) →
    (ks.map fun kv => if kv.1 = k then (kv.1, v) else kv).map (·.1) = (kvs.map fun kv => if kv.1 = k then (kv.1, d) else kv).map (·.1) ∧ Dens K W F ((ks.map fun kv => if kv.1 = k then (kv.1, v) else kv).map (·.2)) ((kvs.map fun kv => if kv.1 = k then (kv.1, d) else kv).map (·.2))
  | [], [], _, _ => ⟨rfl, .nil⟩
  | [], _ :: _, e, _ => by cases e
  | _ :: _, [], e, _ => by cases e
  | (a, x) :: ks, (b, y) :: kvs, e, q => by
    simp only [List.map_cons, List.cons.injEq] at e q
    obtain ⟨rfl, e2⟩ := e
    cases q with
    | cons q1 q2 =>
      obtain ⟨h1, h2⟩ := put_map (k := k) r e2 q2
      simp only [List.map_cons]
      by_cases h : a = k
      · simp only [h, if_true, List.map_cons]
        refine ⟨?_, .cons r ?_⟩
        · rw [h1]
        · exact h2
      · simp only [h, if_false, List.map_cons]
        refine ⟨?_, .cons q1 ?_⟩
        · rw [h1]
        · exact h2
theorem put_rel {K : PySem.W.Frag} {W : DW} {F : Hp} {k : Key} {v : V} {d : D} {ks : List (Key × V)} {kvs : List (Key × D)} (r : Den K W F v d) (e : ks.map (·.1) = kvs.map (·.1)) (q : Dens K W F (ks.map (·.2)) (kvs.map (·.2))) :
    (putK ks k v).map (·.1) = (putKD kvs k d).map (·.1) ∧ Dens K W F ((putK ks k v).map (·.2)) ((putKD kvs k d).map (·.2)) := by
  unfold putK putKD
  rw [any_keys e]
  split
  · exact put_map r e q
  · rw [List.map_append, List.map_append, List.map_append, List.map_append]
    exact ⟨by rw [e]; rfl, q.append (.cons r .nil)⟩
/-- x[i] = e, slot j owns x -/
def dSetI (j : Nat) (te ti : TDX) : TDS := fun rx DE δ => te rx δ fun d δ1 => (match δ1[j]? with
    | some (some s) => ownSl s ≠ ""
    | _ => False) ∧ ti rx δ1 fun ix δ2 => match δ2[j]? with
  | some (some (.ol xs)) => ∃ k m, ix = .int k ∧ ixN xs.length k = some m ∧ DE.nx (δ2.set j (some (.ol (xs.set m d))))
  | some (some (.od kvs)) => ∃ k, keyD ix = some k ∧ kvs.length < sizeLine ∧ DE.nx (δ2.set j (some (.od (putKD kvs k d))))
  | _ => False
theorem ds_setI {x : Str} {pn ps : Pos} {j : Nat} (hu : X.A.units + 1 < cLine) (hj : j < X.N.length) (hn : PE X (.Name x pn) (tVar j)) (he : DE X B e te) (hi : DE X B i ti)
    (ha : ∀ v, assign (.Subscript (.Name x pn) i ps) X.env v = (do
      let ov ← holding [v] (eval (.Name x pn) X.env)
      let iv ← holding [v, ov] (eval i X.env)
      standAt ps
      holding [v, ov, iv] (setItem ov iv v)
      release [v, ov, iv] []) := by intro _; rfl)
    (hs : swapsWithSole [.Subscript (.Name x pn) i ps] e pos.line X.env = pure false := by rfl) (hw : swappedStores [.Subscript (.Name x pn) i ps] e X.env = pure none := by rfl)
    (h1 : (assignEach [.Subscript (.Name x pn) i ps] X.env).map (·.2) = [assign (.Subscript (.Name x pn) i ps) X.env] := by rfl) : DS X B (.Assign [.Subscript (.Name x pn) i ps] e pos) (dSetI j te ti) :=
  ⟨fun rx tk => PS.imp (ps_asg (he.run rx tk) (pg_sub hn (hi.run rx tk) (PSet.or set_list (set_dict hu)) ha) hs hw h1) fun DD σ H hl ⟨g, δ, DE, S, q, k1, k2, k3, k4⟩ => ⟨g, δ, _, S, q, fun d δ1 g1 H1 v h1 st1 S1 D1 => by
    obtain ⟨h0, h1⟩ := h1
    have hjl : j < σ.length := by rw [hl]; exact hj
    -- slot j's address
    have adr : ∃ a, σ[j]? = some (some (.ref a)) := by
      cases e0 : δ1[j]? with
      | none => simp only [e0] at h0
      | some o0 =>
        cases o0 with
        | none => simp only [e0] at h0
        | some s0 =>
          have z := S1.env j s0 e0
          cases s0 with
          | sh d => simp only [e0] at h0; exact absurd rfl h0
          | ol ds => obtain ⟨a, _, z, _⟩ := z; exact ⟨a, z⟩
          | od ds => obtain ⟨a, _, z, _⟩ := z; exact ⟨a, z⟩
          | oi m c fs => simp only [e0] at h0; exact absurd rfl h0
    obtain ⟨a, ea⟩ := adr
    refine ⟨.ref a, ea, g1, δ1, _, S1, h1, fun ix δ2 g2 H2 y h2 st2 S2 D2 => ?_⟩
    have D1' := D1.step st2
    cases e2 : δ2[j]? with
    | none => simp only [e2] at h2
    | some o2 =>
      cases o2 with
      | none => simp only [e2] at h2
      | some s2 =>
        have z := S2.env j s2 e2
        cases s2 with
        | sh d => simp only [e2] at h2
        | oi m c fs => simp only [e2] at h2
        | ol xs =>
          simp only [e2] at h2
          obtain ⟨k, m, rfl, em, hnx⟩ := h2
          obtain ⟨a', vs, z1, z2, z3, rv⟩ := z
          rw [ea] at z1
          cases z1
          cases D2
          obtain ⟨S3, st3⟩ := S2.write (n := X.N.length) (o' := .lst (vs.set m v)) (s := .ol (xs.set m d)) z2 hj z3 trivial trivial ⟨a, _, ea, z2, upd_same, Dens.set D1' m rv⟩
          exact .inl ⟨a, vs, k, m, rfl, rfl, z3, by rw [rv.length]; exact em, k1 _ _ g2 _ hnx ((st1.trans st2).trans st3) S3⟩
        | od kvs =>
          simp only [e2] at h2
          obtain ⟨k, ek, hlt, hnx⟩ := h2
          obtain ⟨a', vs, z1, z2, z3, z4, rv⟩ := z
          rw [ea] at z1
          cases z1
          have hlen : vs.length = kvs.length := by have := congrArg List.length z4; simpa using this
          obtain ⟨p1, p2⟩ := put_rel (k := k) D1' z4 rv
          obtain ⟨S3, st3⟩ := S2.write (n := X.N.length) (o' := .dK (putK vs k v)) (s := .od (putKD kvs k d)) z2 hj z3 trivial trivial ⟨a, _, ea, z2, upd_same, p1, p2⟩
          exact .inr ⟨a, _, rfl, .inl ⟨vs, k, z3, D2.key ek, by rw [hlen]; exact hlt, rfl⟩, k1 _ _ g2 _ hnx ((st1.trans st2).trans st3) S3⟩⟩⟩
/-! ### dict displays -/
def fDict0 : TDF := fun _ δ P => P (.od []) δ
theorem df_dict0 : DF X B (.Dict [] [] pos) fDict0 := ⟨fun rx tk => PE.imp pe_dnewK fun σ H Q _ ⟨g, δ, P, S, q, k⟩ p hp => by
  obtain ⟨g2, st2, S2, it⟩ := S.newK (ks := []) (kvs := []) (Step.refl X.N.length g H) S hp rfl .nil
  exact k _ δ g2 _ _ q st2 S2 it⟩
def mergeD (kvs : List (Key × D)) : List (Key × D) := kvs.foldl (fun acc kv => putKD acc kv.1 kv.2) []
def dPairsL : List (TDX × TDX) → (D → Prop) → Env → (List (Key × D) → Env → Prop) → Prop
  | [], _, δ, P => P [] δ
  | (tk, tv) :: r, rx, δ, P => tk rx δ fun k δ1 => tv rx δ1 fun v δ2 => ∃ key, keyD k = some key ∧ dPairsL r rx δ2 fun kvs δ3 => P ((key, v) :: kvs) δ3
def fDict (trs : List (TDX × TDX)) : TDF := fun rx δ P => dPairsL trs rx δ fun kvs δ1 => P (.od (mergeD kvs)) δ1
structure DPs (X : Cx) (B : Base) (pos : Pos) (keys : List (Option Expr)) (values : List Expr) (trs : List (TDX × TDX)) : Prop where
  run : ∀ rx, Takes X (XW (liftX X.K B rx)) → PPs X pos keys values (trs.map fun t => (liftE X.K B X.N.length (t.1 rx), liftE X.K B X.N.length (t.2 rx)))
theorem dps_nil : DPs X B pos [] [] [] := ⟨fun rx tk => pps_nil⟩
theorem dps_cons {k v : Expr} {ks : List (Option Expr)} {vs : List Expr} {tk tv : TDX} {trs : List (TDX × TDX)} (hk : DE X B k tk) (hv : DE X B v tv) (hr : DPs X B pos ks vs trs) : DPs X B pos (some k :: ks) (v :: vs) ((tk, tv) :: trs) :=
  ⟨fun rx t => pps_cons (hk.run rx t) (hv.run rx t) (hr.run rx t)⟩
theorem merge_rel {K : PySem.W.Frag} {W : DW} {F : Hp} : ∀ {more : List (Key × V)} {moreD : List (Key × D)} {ks : List (Key × V)} {kvs : List (Key × D)}, more.map (·.1) = moreD.map (·.1) → Dens K W F (more.map (·.2)) (moreD.map (·.2)) → ks.map (·.1) = kvs.map (·.1) → Dens K W F (ks.map (·.2)) (kvs.map (·.2)) →
    (mergeK ks more).map (·.1) = (moreD.foldl (fun acc kv => putKD acc kv.1 kv.2) kvs).map (·.1) ∧ Dens K W F ((mergeK ks more).map (·.2)) ((moreD.foldl (fun acc kv => putKD acc kv.1 kv.2) kvs).map (·.2))
  | [], [], _, _, _, _, e, r => ⟨e, r⟩
  | [], _ :: _, _, _, e, _, _, _ => by cases e
  | _ :: _, [], _, _, e, _, _, _ => by cases e
  | (a, x) :: more, (b, y) :: moreD, ks, kvs, e, r, e2, r2 => by
    simp only [List.map_cons, List.cons.injEq] at e r
    obtain ⟨rfl, e3⟩ := e
    cases r with
    | cons r1 r3 =>
      obtain ⟨p1, p2⟩ := put_rel (k := a) r1 e2 r2
      exact merge_rel (more := more) (moreD := moreD) (ks := putK ks a x) (kvs := putKD kvs a y) e3 r3 p1 p2
/-- the pairs, from a state -/
theorem pairs_run {K : PySem.W.Frag} {rx : D → Prop} {σ : L2.St} {n : Nat} : ∀ (trs : List (TDX × TDX)) (g : Gs) (H : Hp) (δ : Env) (P : List (Key × D) → Env → Prop) (Q : List (V × V) → Hp → Prop), Stt K B g H σ δ → dPairsL trs rx δ P →
    (∀ kvs δ' g' H' (ks : List (Key × V)), P kvs δ' → Step n g H g' H' → Stt K B g' H' σ δ' → ks.map (·.1) = kvs.map (·.1) → Dens K g'.W g'.F (ks.map (·.2)) (kvs.map (·.2)) → kvs.length = trs.length → Q (ks.map fun kv => (kV kv.1, kv.2)) H') →
    tPairs (trs.map fun t => (liftE K B n (t.1 rx), liftE K B n (t.2 rx))) σ H Q
  | [], g, H, δ, P, Q, S, q, k => k [] δ g H [] q (Step.refl _ _ _) S rfl .nil rfl
  | (tk, tv) :: r, g, H, δ, P, Q, S, q, k => ⟨g, δ, _, S, q, fun kd δ1 g1 H1 x h1 st1 S1 D1 => ⟨g1, δ1, _, S1, h1, fun v δ2 g2 H2 y h2 st2 S2 D2 => by
    obtain ⟨key, ek, h2⟩ := h2
    have ex : x = kV key := D1.key ek
    subst ex
    exact pairs_run r g2 H2 δ2 _ _ S2 h2 fun kvs δ' g' H' ks hp st S' e rr hl => k _ δ' g' H' ((key, y) :: ks) hp ((st1.trans st2).trans st) S' (by simp [e]) (.cons (D2.step st) rr) (by simp [hl])⟩⟩
theorem df_dict {keys : List (Option Expr)} {values : List Expr} {trs : List (TDX × TDX)} (h : DPs X B pos keys values trs) (hall : keys.all (·.isSome) = true) (hl : keys.length = values.length) (h0 : keys ≠ []) (h15 : keys.length ≤ 15) (ht : trs.length ≤ 15) : DF X B (.Dict keys values pos) (fDict trs) :=
  ⟨fun rx tk => PE.imp (pe_disp (h.run rx tk) hall hl h0 h15) fun σ H Q hσ ⟨g, δ, P, S, q, k⟩ p hp => by
    obtain ⟨S2, st2⟩ := S.allocOwn (n := X.N.length) (k := X.N.length + p) hp (o := .dK []) trivial
    have hO : g.O p = none := own_none S hp
    refine pairs_run trs _ _ δ _ _ S2 q fun kvs δ' g' H' ks hpp st S' ek er hlen => ?_
    obtain ⟨o1, o2⟩ := st.ext p (X.N.length + p) (by simp) (Nat.le_add_right _ _)
    have eD : H' p = some (.dK []) := by rw [o2, upd_same]
    refine ⟨eD, ks, rfl, ?_, ?_⟩
    · have : ks.length = kvs.length := by have := congrArg List.length ek; simpa using this
      omega
    · obtain ⟨m1, m2⟩ := merge_rel (ks := []) (kvs := []) ek er rfl .nil
      obtain ⟨S3, k3⟩ := S'.writeX (n := X.N.length) (o' := .dK (mergeK [] ks)) hσ o1 (Nat.le_add_right _ _) eD trivial trivial
      have sA := st2.trans st
      refine k _ δ' g' _ _ hpp ⟨sA.up, sA.wle, fun a h => upd_thr a (sA.thr a h), fun a k' z1 z2 => ?_⟩ S3 ⟨p, _, rfl, hO, o1, upd_same, m1, m2⟩
      obtain ⟨y1, y2⟩ := sA.ext a k' z1 z2
      exact ⟨y1, (k3 a (fun z => by rw [z, hO] at z1; cases z1)).trans y2⟩⟩
end
end DL

namespace DL
open PySem PySem.Spec PySem.W PySem.Calls PyProof.Rows
section
variable {prog : Program} {w : World} {A : Around} {E : Value → Shared → Prop} {s : Shared} {K : Frag} {x C L f : Addr} {h₀ : Heap} {m : Str → Option Value} {ox : Obj} {od : Option Obj} {b tb : Value}
theorem ne_plain : plainId "object.__ne__" = true := by decide +kernel
theorem ne_bind (x : Value) : bindSpecial (.builtin "object.__ne__") x = pure (.builtin "object.__ne__", [x]) := by first | rfl | kernel_rfl
/-- x != b where the class has its own == alone -/
theorem ne_own {Q : Value → Shared → Prop} (hu : A.units + 1 < cLine) (X : K.In s.heap) (I : InstAt s.heap x ox C od) (hb : Looks (model prog w) s.heap (typeOf b) tb) (hn : notFirst K C tb = true)
    (hs : findIn K (.ref C) "__eq__" = some (some (.ref f))) (hf : isFn K (.ref f) = true) (hne : findIn K (.ref C) "__ne__" = some (some (.builtin "object.__ne__"))) (hm : mroIn K C (.type "object") = some true)
    (h : wpAny (model prog w) A.in1 (call (.ref f) [.ref x, b]) (fun v s' => ∃ r, v = .bool r ∧ Q (.bool (!r)) s') E s) : wpAny (model prog w) A (richCompare .NotEq (.ref x) b) Q E s := by
  have body : ∀ {R : Fin → Shared → Prop}, (∀ r s', Q (.bool r) s' → R (.done (.ret (.bool r))) s') → wpAny (model prog w) A.in1 (Builtin.«object.__ne__» ⟨[.ref x, b], []⟩) R E s := fun {R} hR => by
    unfold Builtin.«object.__ne__»
    refine wpAny_bind (wpAny_of_eq (a := (Value.ref x, [b])) (by first | rfl | (simp only [slotArgs]; rfl)) ?_)
    refine wpAny_bind (wpAny_cRoomFor (show A.in1.units < cLine from hu) ?_)
    refine wpAny_bind (m := callSpecialIfBound? (.ref x) (Str.ofString "__eq__") [b]) (ifBound_K X I hs hf (wpAny_mono h (fun v s' hv => ?_) fun _ _ e => e))
    obtain ⟨r, rfl, hq⟩ := hv
    exact wpAny_bind (wpAny_truthy_bool (wpAny_pure (hR _ _ hq)))
  have sub : Looks (model prog w) s.heap (isInstance (.ref x) (.type "object")) true := I.type.andThen (looks_mroIn X hm)
  have called : wpAny (model prog w) A (call (.builtin "object.__ne__") [.ref x, b]) (fun v s' => ∃ r, v = .bool r ∧ Q (.bool r) s') E s :=
    wpAny_call (codeAny_call_builtin ne_plain F.cmpEntry_ne (@check_slot (model prog w) _ _ s "object.__ne__" "object" "__ne__" (.ref x) [b] [] _ F.cmpKind_ne F.cmpSplit_ne sub (F.cmpArgs_ne _ _) (body fun r s' q => ⟨r, rfl, q⟩)))
  have one : wpAny (model prog w) A (tryCompare (.ref x) "__ne__" b) (fun r s' => ∃ v, r = some v ∧ Q v s') E s := by
    unfold tryCompare callSpecialIfBound? bindSpecialIfBound?
    refine wpAny_bind (wpAny_holding (wpAny_bind (wpAny_bind (wpAny_bind (I.type.here ((looks_findIn X hne).here ?_))))))
    refine wpAny_bind (wpAny_askSetting (wpAny_ite ?_))
    have fin : wpAny (model prog w) A (call (.builtin "object.__ne__") ([.ref x] ++ [b]) >>= fun v => pure (some v)) (fun r s' => wpAny (model prog w) A (match r with | some .notImplemented | none => pure none | some v => pure (some v)) (fun r s' => ∃ v, r = some v ∧ Q v s') E s') E s := by
      refine wpAny_bind (wpAny_mono called (fun v s' hv => ?_) fun _ _ e => e)
      obtain ⟨r, rfl, hq⟩ := hv
      exact wpAny_pure (wpAny_pure ⟨_, rfl, hq⟩)
    split
    · exact wpAny_bind (wpAny_of_eq (ne_bind _) (wpAny_pure (by exact fin)))
    · exact wpAny_tryCatch (wpAny_bind (wpAny_of_eq (ne_bind _) (wpAny_pure (by exact fin))))
  unfold richCompare
  simp only [oneThing_ref]
  refine wpAny_holding (wpAny_bind (wpAny_cRoomFor (Nat.lt_of_succ_lt hu) ?_))
  refine wpAny_bind (I.type.here (wpAny_bind (hb.here ?_)))
  have e2 : (tb == Value.ref C) = true ∨ subIn K tb (.ref C) = some false := by
    rcases Bool.or_eq_true_iff.mp hn with e | e
    · exact .inl e
    · exact .inr (beq_iff_eq.mp e)
  split
  · rename_i q
    have e : subIn K tb (.ref C) = some false := by
      rcases e2 with e | e
      · rw [beq_iff_eq.mp e] at q; simp at q
      · exact e
    refine wpAny_bind ((looks_subIn X e).here ?_)
    simp only [Bool.false_eq_true, if_false]
    refine wpAny_bind (wpAny_mono one (fun r s' z => ?_) fun _ _ e => e)
    obtain ⟨v, rfl, hq⟩ := z
    exact wpAny_pure hq
  · refine wpAny_bind (wpAny_pure ?_)
    simp only [Bool.false_eq_true, if_false]
    refine wpAny_bind (wpAny_mono one (fun r s' z => ?_) fun _ _ e => e)
    obtain ⟨v, rfl, hq⟩ := z
    exact wpAny_pure hq
end
end DL
namespace DL
open PySem PySem.Spec L2
open PyProof.Rows hiding St
/-! ### == and != of own objects, by their class' own __eq__ -/
structure EqK (P : Program) (w : World) (K : PySem.W.Frag) (mg : Str → Option Value) (base : Heap) (T : List (Addr × Str)) (c : Str) (k : Nat) (wp : SpD) : Prop where
  ex : ∃ (f : Addr) (fd : FuncData) (ps : List Str), PySem.W.findIn K (.ref (He.ga K c)) "__eq__" = some (some (.ref f)) ∧ PySem.W.isFn K (.ref f) = true ∧ PySem.W.findIn K (.ref (He.ga K c)) "__ne__" = some (some (.builtin "object.__ne__")) ∧ PySem.W.mroIn K (He.ga K c) (.type "object") = some true ∧
    (∀ (s : Shared) (u v : Value), BindsTo s fd ⟨[u, v], []⟩ (ps.zip [u, v])) ∧ FnG P w K mg base k f fd ps (liftSp K T 2 wp)
/-- such a value is not asked first -/
def TyF (X : Cx) (c : Str) (y : V) (H : Hp) : Prop := ∀ (pins : List (Addr × Obj)) (σ : L2.St) (s : Shared) (v : Value), Inv X pins σ H s → RelV y v → ∃ tb, PySem.W.Looks (model X.prog X.w) s.heap (typeOf v) tb ∧ PySem.W.notFirst X.K (He.ga X.K c) tb = true
def rEqO (X : Cx) (B : Base) (rx : D → Prop) (neg : Bool) : R2 := fun x y H Q => ∃ a dx gs c k wp, x = .ref a ∧ H a = some (.ins (He.ga X.K c) dx gs) ∧ EqK X.prog X.w X.K X.mg X.base B.T c k wp ∧ Rm (k + 1) X.A ∧ TyF X c y H ∧ liftSp X.K B.T 2 wp [x, y] H (fun v H' => ∃ b, v = .bl b ∧ Q (.bl (xor b neg)) H') (liftX X.K B rx)
section
variable {X : Cx} {B : Base} {rx : D → Prop}
theorem op_eqO (tk : Takes X (XW (liftX X.K B rx))) : OpR X (compareOp .Eq) (rEqO X B rx false) := by
  intro pins s σ H x y u v Q I ru rv q
  obtain ⟨a, dx, gs, c, k, wp, rfl, ea, ek, hr, ty, hs⟩ := q
  obtain ⟨f, fd, ps, h1, h2, h3, h4, h5, F⟩ := ek.ex
  obtain rfl : u = Value.ref a := ru
  obtain ⟨mA, O, _⟩ := ins_get I.hok ea
  obtain ⟨od, J, _⟩ := O.look
  obtain ⟨tb, lt, nf⟩ := ty pins σ s v I rv
  obtain ⟨m, hF⟩ := I.fr
  show wpAny (model X.prog X.w) X.A (richCompare .Eq (.ref a) v) (EP X pins σ Q) X.xe s
  refine PySem.W.cmp_K (op := .Eq) hr.room.units0 hF I.ok.mod.kin J lt nf h1 h2 ?_
  refine wpAny_mono (run_g F (hr.mono (Nat.le_succ _)) (h5 s (.ref a) v) (passes_lift tk) I (.cons (show RelV (.ref a) (.ref a) from rfl) (.cons rv .nil)) hs) (fun r s' hq => ?_) fun _ _ e => e
  obtain ⟨z, H', I', rz, b, rfl, hq⟩ := hq
  obtain rfl : r = Value.bool b := rz
  exact ⟨.bl b, H', I', rfl, by rw [Bool.xor_false] at hq; exact hq⟩
theorem op_neO (tk : Takes X (XW (liftX X.K B rx))) : OpR X (compareOp .NotEq) (rEqO X B rx true) := by
  intro pins s σ H x y u v Q I ru rv q
  obtain ⟨a, dx, gs, c, k, wp, rfl, ea, ek, hr, ty, hs⟩ := q
  obtain ⟨f, fd, ps, h1, h2, h3, h4, h5, F⟩ := ek.ex
  obtain rfl : u = Value.ref a := ru
  obtain ⟨mA, O, _⟩ := ins_get I.hok ea
  obtain ⟨od, J, _⟩ := O.look
  obtain ⟨tb, lt, nf⟩ := ty pins σ s v I rv
  show wpAny (model X.prog X.w) X.A (richCompare .NotEq (.ref a) v) (EP X pins σ Q) X.xe s
  refine ne_own hr.u1 I.kIn J lt nf h1 h2 h3 h4 ?_
  refine wpAny_call (codeAny_mono (F.go X.A.in1 X.stack s H ⟨[.ref a, v], []⟩ [.ref a, v] [.ref a, y] _ (liftX X.K B rx) hr.in1 I.env0.in1 (h5 s (.ref a) v) (.cons (show RelV (.ref a) (.ref a) from rfl) (.cons rv .nil)) hs) fun r s' hq => ?_)
  have z := after_call I (passes_lift tk) hq
  rcases r with e | fl
  · exact z
  · cases fl with
    | ret r =>
      obtain ⟨z, H', I', rz, b, rfl, hq2⟩ := z
      obtain rfl : r = Value.bool b := rz
      exact ⟨b, rfl, .bl (!b), H', I', rfl, by rw [Bool.xor_true] at hq2; exact hq2⟩
    | next => exact z
    | brk => exact z
    | cont => exact z
end
/-- a == b | a != b: own objects on the left by their class, others as data -/
def dEqA (J : Isa) (eqs : List (Str × SpD)) (neg : Bool) (ta tb : TDX) : TDX := fun rx δ P => ta rx δ fun x δ1 => tb rx δ1 fun y δ2 => match x with
  | .ob c fs => ∃ wp, eqs.lookup c = some wp ∧ (∃ q, tyD J y = some q ∧ (q = .own c ∨ J.ask q (.own c) = some false)) ∧ wp [x, y] (fun r => ∃ b, r = .bl b ∧ P (.bl (xor b neg)) δ2) rx
  | _ => if neg = true then neD x y fun z => P z δ2 else eqD x y fun z => P z δ2
structure EqsOk (P : Program) (w : World) (K : PySem.W.Frag) (mg : Str → Option Value) (base : Heap) (T : List (Addr × Str)) (J : Isa) (eqs : List (Str × SpD)) (k : Nat) : Prop where
  isa : IsaOk K J
  ok : ∀ e ∈ eqs, EqK P w K mg base T e.1 k e.2
section
variable {X : Cx} {B : Base} {a b : Expr} {ta tb : TDX} {pos : Pos} {J : Isa} {eqs : List (Str × SpD)} {k : Nat}
theorem tyF_of {rx : D → Prop} {g : Gs} {H : Hp} {σ : L2.St} {δ : Env} {y : V} {d : D} {c : Str} {q : Tq} (T : IsaOk X.K J) (S : Stt X.K B g H σ δ) (r : Den X.K g.W g.F y d) (e : tyD J d = some q) (h : q = .own c ∨ J.ask q (.own c) = some false) : TyF X c y H := fun pins σ' s v I rv => by
  obtain ⟨P, Z, p, _⟩ := kit_den T I S.ret.sub rv r e
  refine ⟨q.v X.K, Z.ty _ _ I.kIn p, ?_⟩
  rcases h with rfl | h
  · unfold PySem.W.notFirst
    rw [show (Tq.own c).v X.K = Value.ref (He.ga X.K c) from rfl, beq_self_eq_true, Bool.true_or]
  · have z := T.kit h
    unfold PySem.W.notFirst
    unfold PySem.W.kitOne at z
    split at z
    · cases z
    · have z2 : (if ((PySem.W.clsIn X.K (He.ga X.K c)).isSome && PySem.W.typeIn X.K (.ref (He.ga X.K c)) == some (.type "type")) = true then PySem.W.subIn X.K (q.v X.K) (.ref (He.ga X.K c)) else none) = some false := z
      split at z2
      · rw [z2]; simp
      · cases z2
theorem lift_eqA {neg : Bool} {rx : D → Prop} {r : R2} (E : EqsOk X.prog X.w X.K X.mg X.base B.T J eqs k) (hr : Rm (k + 1) X.A) (L : Lift2 X.K r (fun x y P => if neg = true then neD x y P else eqD x y P)) {σ : L2.St} {H : Hp} {Q : VK} (h : liftE X.K B X.N.length (dEqA J eqs neg ta tb rx) σ H Q) :
    tOp (fun x y H Q => r x y H Q ∨ rEqO X B rx neg x y H Q) (liftE X.K B X.N.length (ta rx)) (liftE X.K B X.N.length (tb rx)) σ H Q := by
  obtain ⟨g, δ, P, S, q, k1⟩ := h
  refine ⟨g, δ, _, S, q, fun d1 δ1 g1 H1 v1 h1 st1 S1 D1 => ⟨g1, δ1, _, S1, h1, fun d2 δ2 g2 H2 v2 h2 st2 S2 D2 => ?_⟩⟩
  have D1' := D1.step st2
  by_cases ho : ∃ c fs, d1 = .ob c fs
  · obtain ⟨c, fs, rfl⟩ := ho
    obtain ⟨wp, ew, ⟨qt, et, ht⟩, hw⟩ := h2
    refine .inr ?_
    cases D1' with
    | @ob a dx _ gs _ hF hk rs =>
      refine ⟨a, dx, gs, c, k, wp, rfl, S2.ret.sub _ _ hF, E.ok _ (lookup_mem ew), hr, tyF_of (rx := rx) E.isa S2 D2 et ht, ?_⟩
      exact sp_of (n := X.N.length) (ds := [.ob c fs, d2]) S2 (.cons (.ob hF hk rs) (.cons D2 .nil)) hw fun d g' H' v hp st S' Dn => by
        obtain ⟨b', rfl, hp⟩ := hp
        cases Dn
        exact ⟨b', rfl, k1 _ δ2 g' H' _ hp ((st1.trans st2).trans st) S' (.bl _)⟩
  · refine .inl (L B X.N.length g2 H2 σ δ2 v1 v2 d1 d2 (fun z => P z δ2) Q S2 D1' D2 ?_ fun d g' H' v hp st S' Dn => k1 d δ2 g' H' v hp ((st1.trans st2).trans st) S' Dn)
    cases d1 with
    | ob c fs => exact absurd ⟨c, fs, rfl⟩ ho
    | _ => exact h2
theorem de_eqA (E : EqsOk X.prog X.w X.K X.mg X.base B.T J eqs k) (hr : Rm (k + 1) X.A) (ha : DE X B a ta) (hb : DE X B b tb) (hm : behindInMarks .Eq b = false := by rfl) : DE X B (.Compare a [.Eq] [b] pos) (dEqA J eqs false ta tb) :=
  ⟨fun rx tk => PE.imp (pe_cmpR ((op_eqD hr.u64).or (op_eqO tk)) (ha.run rx tk) (hb.run rx tk) hm) fun _ _ _ _ h => lift_eqA E hr (neg := false) (by simpa using l_eq) h⟩
theorem de_neA (E : EqsOk X.prog X.w X.K X.mg X.base B.T J eqs k) (hr : Rm (k + 1) X.A) (ha : DE X B a ta) (hb : DE X B b tb) (hm : behindInMarks .NotEq b = false := by rfl) : DE X B (.Compare a [.NotEq] [b] pos) (dEqA J eqs true ta tb) :=
  ⟨fun rx tk => PE.imp (pe_cmpR ((op_neD hr.u64).or (op_neO tk)) (ha.run rx tk) (hb.run rx tk) hm) fun _ _ _ _ h => lift_eqA E hr (neg := true) (by simpa using l_ne) h⟩
end
end DL

namespace DL
open PySem PySem.Spec L2
open PyProof.Rows hiding St
/-! ### repr of data -/
mutual
theorem toPD_plain : ∀ {d : D} {p : PyData}, toPD d = some p → p.hasDict = false
  | .non, _, e => by cases e; rfl
  | .bl b, _, e => by cases e; rfl
  | .int i, _, e => by cases e; rfl
  | .str x, _, e => by cases e; rfl
  | .lst ds, _, e => by
    unfold toPD at e
    cases q : toPDs ds with
    | none => rw [q] at e; cases e
    | some ps => rw [q] at e; cases e; exact toPDs_plain q
  | .kls ds, _, e => by
    unfold toPD at e
    cases q : toPDs ds with
    | none => rw [q] at e; cases e
    | some ps => rw [q] at e; cases e; exact toPDs_plain q
  | .tup ds, _, e => by
    unfold toPD at e
    cases q : toPDs ds with
    | none => rw [q] at e; cases e
    | some ps => rw [q] at e; cases e; exact toPDs_plain q
  | .ty n, _, e => by cases e
  | .glo n, _, e => by cases e
  | .dct n, _, e => by cases e
  | .ob _ n, _, e => by cases e
  | .exc _ n, _, e => by cases e
  | .drw, _, e => by cases e
  | .adr _, _, e => by cases e
theorem toPDs_plain : ∀ {ds : List D} {ps : List PyData}, toPDs ds = some ps → PyData.hasDictAll ps = false
  | [], _, e => by cases e; rfl
  | d :: ds, _, e => by
    unfold toPDs at e
    cases q : toPD d with
    | none => rw [q] at e; cases e
    | some p =>
      cases q2 : toPDs ds with
      | none => rw [q, q2] at e; cases e
      | some ps =>
        rw [q, q2] at e
        cases e
        show (p.hasDict || PyData.hasDictAll ps) = false
        rw [toPD_plain q, toPDs_plain q2]; rfl
end
def rReprD (K : PySem.W.Frag) : List V → Hp → VK → Prop := fun xs H Q => ∃ v p, xs = [v] ∧ Dp K H v p ∧ p.showable = true ∧ p.hasDict = false ∧ p.depth ≤ 60 ∧ p.shown.length ≤ sizeLine ∧ Q (.str p.shown) H
theorem call_reprD {X : Cx} {k : Nat} (hr : Rm k X.A) : CallR X (.builtin "repr") (rReprD X.K) := by
  intro pins s σ H xs us Q I r h
  obtain ⟨v, p, rfl, dp, hs, hd, hz, hl, q⟩ := h
  obtain ⟨u, rfl, ru⟩ := vals1 r
  obtain ⟨as, rd⟩ := Dp.reads I p v u dp ru
  cases rd with
  | none => exact PySem.P.repr_of_none ⟨.str _, H, I.tok _, ⟨_, rfl⟩, q⟩
  | bool b => exact PySem.P.repr_of_bool ⟨.str _, H, I.tok _, ⟨_, rfl⟩, by cases b <;> exact q⟩
  | int i t => exact PySem.P.repr_of_int (of_decide_eq_true hs) ⟨.str _, H, I.tok _, ⟨_, rfl⟩, q⟩
  | str x t => exact PySem.P.repr_of_str ⟨.str _, H, I.tok _, ⟨_, rfl⟩, q⟩ hl
  | list h1 h2 h3 h4 =>
    have hu := hr.u64
    exact repr_of_reads' (.list h1 h2 h3 h4) hs (fun z => by rw [hd] at z; cases z) hr.gd (by omega) (fun _ _ e => e) (fun h' u' tk k => ⟨.str _, H, I.kept (t' := tk) k, ⟨_, rfl⟩, q⟩) hl
  | tuple h1 h2 h3 h4 =>
    have hu := hr.u64
    exact repr_of_reads' (.tuple h1 h2 h3 h4) hs (fun z => by rw [hd] at z; cases z) hr.gd (by omega) (fun _ _ e => e) (fun h' u' tk k => ⟨.str _, H, I.kept (t' := tk) k, ⟨_, rfl⟩, q⟩) hl
  | dict _ _ _ _ _ => cases hd
def reprD (ds : List D) (P : D → Prop) : Prop := match ds with
  | [d] => ∃ p, toPD d = some p ∧ p.showable = true ∧ p.depth ≤ 60 ∧ p.shown.length ≤ sizeLine ∧ P (.str p.shown)
  | _ => False
theorem lc_repr {K : PySem.W.Frag} : LiftC K (rReprD K) reprD := fun B n g H σ δ xs ds P Q S rs q k => by
  cases rs with
  | nil => exact q.elim
  | cons r1 r2 =>
    cases r2 with
    | cons _ _ => cases r1 <;> exact q.elim
    | nil =>
      obtain ⟨p, e, h1, h2, h3, hp⟩ := q
      exact ⟨_, p, rfl, r1.dp S.ret.sub e, h1, toPD_plain e, h2, h3, k _ g H _ hp (Step.refl _ _ _) S (.str _)⟩
/-! ### a name that holds a def, called -/
structure FnsOk (P : Program) (w : World) (K : PySem.W.Frag) (mg : Str → Option Value) (base : Heap) (T : List (Addr × Str)) (fns : List (Str × SpD)) (k : Nat) (m : Nat) : Prop where
  ok : ∀ e ∈ fns, ∃ ps, ps.length = m ∧ FnD P w K mg base T e.1 k ps e.2
  at_ : ∀ e ∈ fns, mg e.1 = some (.ref (He.ga K e.1))
section
variable {X : Cx} {B : Base} {e : Expr} {es : List Expr} {t : TDA} {tf : TDX} {x : Str} {p pos : Pos} {fns : List (Str × SpD)} {k m : Nat}
def dCallV (fns : List (Str × SpD)) (m : Nat) (tf : TDX) (t : TDA) : TDX := fun rx δ P => tf rx δ fun f δ1 => match f with
  | .glo z => ∃ wp, fns.lookup z = some wp ∧ t rx δ1 fun ds δ2 => ds.length = m ∧ wp ds (fun d => P d δ2) rx
  | _ => False
theorem de_callV (FO : FnsOk X.prog X.w X.K X.mg X.base B.T fns k m) (hr : Rm k X.A) (hf : DE X B (.Name x p) tf) (ha : DA X B (e :: es) t)
    (he : starEach (e :: es) X.env = (false, eval e X.env) :: starEach es X.env := by rfl) (hpl : (backTo pos (starEach es X.env)).any (·.1) = false := by rfl) : DE X B (.Call (.Name x p) (e :: es) [] pos) (dCallV fns m tf t) := by
  refine ⟨fun rx tk => ⟨fun pins s σ H Q I ⟨g, δ, P, S, q, k1⟩ => ?_⟩⟩
  refine wpAny_Call_Name_kw (thn ((hf.run rx tk).run pins s σ H (fun v H1 => ∃ d δ1 g1, (match d with
    | .glo z => ∃ wp, fns.lookup z = some wp ∧ t rx δ1 fun ds δ2 => ds.length = m ∧ wp ds (fun d => P d δ2) rx
    | _ => False) ∧ Step X.N.length g H g1 H1 ∧ Stt X.K B g1 H1 σ δ1 ∧ Den X.K g1.W g1.F v d) I ⟨g, δ, _, S, q, fun d δ1 g1 H1 v h1 st1 S1 D1 => ⟨d, δ1, g1, h1, st1, S1, D1⟩⟩) fun u s1 ⟨v, H1, I1, rv, d, δ1, g1, h1, st1, S1, D1⟩ => ?_)
  cases D1 with
  | glo z =>
    obtain ⟨wp, ew, h1⟩ := h1
    obtain ⟨ps, hps, G⟩ := FO.ok _ (lookup_mem ew)
    have hat := FO.at_ _ (lookup_mem ew)
    obtain ⟨f, fd, hm, hk, hb, F⟩ := G.ex
    have ef : f = He.ga X.K z := by
      have z2 : some (Value.ref f) = some (.ref (He.ga X.K z)) := hm.symm.trans hat
      cases z2; rfl
    obtain rfl : u = Value.ref f := by rw [ef]; exact rv
    refine PySem.W.callWith_K (h₀ := X.base) I.ok.mod.kin hk (thn ((ha.run rx tk).run pos pins s1 σ H1 (fun vs H2 => ∃ ds δ2 g2, (ds.length = m ∧ wp ds (fun d => P d δ2) rx) ∧ Step X.N.length g1 H1 g2 H2 ∧ Stt X.K B g2 H2 σ δ2 ∧ Dens X.K g2.W g2.F vs ds) I1
      ⟨g1, δ1, _, S1, h1, fun ds δ2 g2 H2 vs h2 st2 S2 D2 => ⟨ds, δ2, g2, h2, st2, S2, D2⟩⟩) fun us s2 ⟨vs, H2, I2, r, ds, δ2, g2, ⟨hl, hw⟩, st2, S2, D2⟩ => ⟨I2.kIn, ?_⟩) he hpl
    have z := sp_of (n := X.N.length) (rx := rx) (Q := Q) S2 D2 hw fun d g' H' v hp st S' Dn => k1 d δ2 g' H' v hp ((st1.trans st2).trans st) S' Dn
    rw [hl, ← hps] at z
    exact run_g F hr (hb s2 us (by rw [← r.length, D2.length, hl, hps])) (passes_lift tk) I2 r z
  | _ => exact h1.elim
/-! ### e.append(x), e a new list that nobody keeps -/
def dAppF (tf : TDF) (t : TDX) : TDX := fun rx δ P => tf rx δ fun s δ1 => match s with
  | .ol xs => t rx δ1 fun d δ2 => xs.length < sizeLine ∧ P .non δ2
  | _ => False
end
end DL

namespace DL
open PySem PySem.Spec L2
open PyProof.Rows hiding St
/-! ### the draws' own state, read and written: what stands there is not told, but that no number is below 0 -/
section
variable {K : PySem.W.Frag} {B : Base} {g : Gs} {H : Hp} {σ : L2.St} {δ : Env} {n : Nat} {w : DrwA}
theorem Stt.drawPut {a : Addr} {o o' : HO} (S : Stt K B g H σ δ) (hw : g.W = some w) (ha : a = w.dr ∨ a = w.lg) (h : H a = some o) (hp : plainO o) (hd : DrawAt (upd H a o') w) : Stt K B g (upd H a o') σ δ ∧ Step n g H g (upd H a o') := by
  have hasA : has g.W a := ⟨w, hw, by rcases ha with h | h <;> simp [h]⟩
  obtain ⟨_, f1, f2, f3⟩ := S.ret.drw w hw
  have Fa : g.F a = none := by rcases ha with h | h <;> rw [h] <;> assumption
  have ow : ∀ b k, g.O b = some k → b ≠ a := fun b k e z => (S.own b k e).2.2.2 (by rw [z]; exact hasA)
  refine ⟨⟨⟨fun b u e => ?_, S.ret.up, fun b u e hh nt => ?_, fun b hb => upd_thr b (S.ret.there b hb), S.ret.froz, S.ret.wle, fun w' e => ?_, tabs_mut S.ret.tab h hp.tbl hp.ext, S.ret.dnew, S.ret.fnt⟩, fun b k e => ?_, S.len, fun i s e => ?_⟩, ⟨Up.refl _, WLe.refl _, fun b hb => upd_thr b hb, fun b k e _ => ⟨e, upd_ne (ow b k e)⟩⟩⟩
  · rw [upd_ne (fun q => by rw [q, Fa] at e; cases e)]; exact S.ret.sub _ _ e
  · rw [upd_ne (fun q => hh (by rw [q]; exact hasA))]; exact S.ret.old b u e hh nt
  · rw [hw] at e
    cases e
    exact ⟨hd, f1, f2, f3⟩
  · obtain ⟨c1, c2, c3, c4⟩ := S.own b k e
    exact ⟨c1, c2, by rw [upd_ne (ow b k e)]; exact c3, c4⟩
  · have z := S.env i s e
    cases s with
    | sh d => exact z
    | ol ds =>
      obtain ⟨b, xs, e1, e2, e3, r⟩ := z
      exact ⟨b, xs, e1, e2, by rw [upd_ne (ow b _ e2)]; exact e3, r⟩
    | od kvs =>
      obtain ⟨b, xs, e1, e2, e3, r⟩ := z
      exact ⟨b, xs, e1, e2, by rw [upd_ne (ow b _ e2)]; exact e3, r⟩
    | oi m c fs =>
      obtain ⟨b, dx, xs, e1, e2, e3, r⟩ := z
      exact ⟨b, dx, xs, e1, e2, by rw [upd_ne (ow b _ e2)]; exact e3, r⟩
variable {X : Cx} {e a b : Expr} {te : TDX} {pos p1 p2 p3 : Pos} {x : Str} {i j : Nat}
/-- draw['turn'], draw['rest']: some number that is not below 0 -/
def dDrw (i : Nat) : TDX := fun _ δ P => δ[i]? = some (some (.sh .drw)) ∧ ∀ t : Int, 0 ≤ t → P (.int t) δ
theorem slot_drw (S : Stt K B g H σ δ) (e : δ[i]? = some (some (.sh .drw))) : ∃ w, g.W = some w ∧ σ[i]? = some (some (.ref w.dr)) ∧ DrawAt H w := by
  obtain ⟨v, e1, r⟩ := S.env i _ e
  cases r with
  | drw hw => exact ⟨_, hw, e1, (S.ret.drw _ hw).1⟩
theorem de_drwT (hu : X.A.units + 1 < cLine) (hn : PE X (.Name x p1) (tVar i)) (hs : PlainIx (.Constant (.str "turn") j p2) := by intro _ _; rfl) : DE X B (.Subscript (.Name x p1) (.Constant (.str "turn") j p2) pos) (dDrw i) :=
  ⟨fun rx tk => PE.imp (pe_ix (ix_dict hu) hn (pe_str) hs) fun σ H Q _ ⟨g, δ, P, S, ⟨e, q⟩, k⟩ => by
    obtain ⟨w, hw, e1, D⟩ := slot_drw S e
    obtain ⟨ls, r, t, h1, h2, h3, h4, h5, h6, h7, h8, _⟩ := D
    refine ⟨.ref w.dr, e1, w.dr, .int t, rfl, .inl ⟨_, .inr "turn", .inl h1, rfl, ?_⟩, k _ δ g H _ (q t h8) (Step.refl _ _ _) S (.int t)⟩
    rfl⟩
theorem de_drwR (hu : X.A.units + 1 < cLine) (hn : PE X (.Name x p1) (tVar i)) (hs : PlainIx (.Constant (.str "rest") j p2) := by intro _ _; rfl) : DE X B (.Subscript (.Name x p1) (.Constant (.str "rest") j p2) pos) (dDrw i) :=
  ⟨fun rx tk => PE.imp (pe_ix (ix_dict hu) hn (pe_str) hs) fun σ H Q _ ⟨g, δ, P, S, ⟨e, q⟩, k⟩ => by
    obtain ⟨w, hw, e1, D⟩ := slot_drw S e
    obtain ⟨ls, r, t, h1, h2, h3, h4, h5, h6, h7, h8, _⟩ := D
    exact ⟨.ref w.dr, e1, w.dr, .int r, rfl, .inl ⟨_, .inr "rest", .inl h1, rfl, rfl⟩, k _ δ g H _ (q r h7) (Step.refl _ _ _) S (.int r)⟩⟩
/-- for .. in draw['cells'] -/
def dDrwI (i : Nat) : TDI := fun _ δ P => δ[i]? = some (some (.sh .drw)) ∧ ∀ cs : List Int, cs.length ≤ 63 → (∀ c ∈ cs, 0 ≤ c) → P (cs.map D.int) δ
theorem iter_cells {w : DrwA} {g1 : Gs} {H1 : Hp} (hw : g1.W = some w) : IterD K B n (Itl K w.cl) (w.cs.map D.int) g1 H1 := fun i g H σ δ st S => by
  have hw2 : g.W = some w := by
    rcases st.wle with z | z
    · rw [hw] at z; cases z
    · rw [z]; exact hw
  obtain ⟨ls, r, t, h1, h2, h3, _⟩ := (S.ret.drw w hw2).1
  have q : SqL K H w.cl (w.cs.map V.int) := SqL.of h3
  refine ⟨fun d e => ?_, fun hl => ⟨_, q, by simpa using hl⟩⟩
  rw [List.getElem?_map] at e
  cases z : w.cs[i]? with
  | none => rw [z] at e; cases e
  | some c =>
    rw [z] at e
    cases e
    have zv : (w.cs.map V.int)[i]? = some (.int c) := by rw [List.getElem?_map, z]; rfl
    exact ⟨⟨_, _, q, zv⟩, fun x H' ⟨e2, e3⟩ => by
      subst e2
      have e4 : x = .int c := Option.some.inj ((e3 _ q).symm.trans zv)
      subst e4
      exact ⟨g, Step.refl _ _ _, S, .int c⟩⟩
theorem di_drw {tg : Expr} (hu : X.A.units + 1 < cLine) (hn : PE X (.Name x p1) (tVar i)) (hs : PlainIx (.Constant (.str "cells") j p2) := by intro _ _; rfl) : DI X B tg (.Subscript (.Name x p1) (.Constant (.str "cells") j p2) pos) (dDrwI i) :=
  ⟨fun rx tk => PI.imp (pi_seq (pe_ix (ix_dict hu) hn (pe_str) hs)) fun σ H R _ ⟨g, δ, P, S, ⟨e, q⟩, k⟩ => by
    obtain ⟨w, hw, e1, D⟩ := slot_drw S e
    obtain ⟨ls, r, t, h1, h2, h3, h4, h5, h6, h7, h8, h9, h10⟩ := D
    exact ⟨.ref w.dr, e1, w.dr, .ref w.cl, rfl, .inl ⟨_, .inr "cells", .inl h1, rfl, rfl⟩, w.cl, rfl, .inl ⟨⟨_, SqL.of h3⟩, k _ δ g H _ (q w.cs h10 h6) (Step.refl _ _ _) S (iter_cells hw)⟩⟩⟩
/-- draw[key] = e, e not below 0 -/
def dDrwP (i : Nat) (te : TDX) : TDS := fun rx DE δ => te rx δ fun d δ1 => δ1[i]? = some (some (.sh .drw)) ∧ ∃ t : Int, d = .int t ∧ 0 ≤ t ∧ DE.nx δ1
theorem ds_drwT (hu : X.A.units + 1 < cLine) (hn : PE X (.Name x p1) (tVar i)) (he : DE X B e te) (hs : swapsWith e (some (.Subscript (.Name x p1) (.Constant (.str "turn") j p2) p3)) pos.line X.env = pure false := by rfl) : DS X B (.Assign [.Subscript (.Name x p1) (.Constant (.str "turn") j p2) p3] e pos) (dDrwP i te) :=
  ⟨fun rx tk => PS.imp (ps_dput hu hn pe_str (he.run rx tk) hs) fun DD σ H hl ⟨g, δ, DE, S, q, k1, k2, k3, k4⟩ => ⟨g, δ, _, S, q, fun d δ1 g1 H1 v h1 st1 S1 D1 => by
    obtain ⟨e1, t', rfl, ht, hnx⟩ := h1
    obtain ⟨w, hw, ea, D⟩ := slot_drw S1 e1
    obtain ⟨ls, r, t, h1, h2, h3, h4, h5, h6, h7, h8, h9, h10⟩ := D
    cases D1
    have n1 : w.lg ≠ w.dr := fun z => by rw [z, h1] at h2; cases h2
    have n2 : w.cl ≠ w.dr := fun z => by rw [z, h1] at h3; cases h3
    obtain ⟨S2, st2⟩ := S1.drawPut (n := X.N.length) (o' := .dK [(.inr "large", .ref w.lg), (.inr "rest", .int r), (.inr "cells", .ref w.cl), (.inr "turn", .int t')]) hw (.inl rfl) h1 trivial ⟨ls, r, t', upd_same, by rw [upd_ne n1]; exact h2, by rw [upd_ne n2]; exact h3, h4, h5, h6, h7, ht, h9, h10⟩
    exact ⟨.ref w.dr, ea, w.dr, _, rfl, .inl ⟨_, .inr "turn", h1, rfl, by rw [sizeLine_eq]; show 4 < 16777216; decide, rfl⟩, k1 _ _ g1 _ hnx (st1.trans st2) S2⟩⟩⟩
theorem ds_drwR (hu : X.A.units + 1 < cLine) (hn : PE X (.Name x p1) (tVar i)) (he : DE X B e te) (hs : swapsWith e (some (.Subscript (.Name x p1) (.Constant (.str "rest") j p2) p3)) pos.line X.env = pure false := by rfl) : DS X B (.Assign [.Subscript (.Name x p1) (.Constant (.str "rest") j p2) p3] e pos) (dDrwP i te) :=
  ⟨fun rx tk => PS.imp (ps_dput hu hn pe_str (he.run rx tk) hs) fun DD σ H hl ⟨g, δ, DE, S, q, k1, k2, k3, k4⟩ => ⟨g, δ, _, S, q, fun d δ1 g1 H1 v h1 st1 S1 D1 => by
    obtain ⟨e1, t', rfl, ht, hnx⟩ := h1
    obtain ⟨w, hw, ea, D⟩ := slot_drw S1 e1
    obtain ⟨ls, r, t, h1, h2, h3, h4, h5, h6, h7, h8, h9, h10⟩ := D
    cases D1
    have n1 : w.lg ≠ w.dr := fun z => by rw [z, h1] at h2; cases h2
    have n2 : w.cl ≠ w.dr := fun z => by rw [z, h1] at h3; cases h3
    obtain ⟨S2, st2⟩ := S1.drawPut (n := X.N.length) (o' := .dK [(.inr "large", .ref w.lg), (.inr "rest", .int t'), (.inr "cells", .ref w.cl), (.inr "turn", .int t)]) hw (.inl rfl) h1 trivial ⟨ls, t', t, upd_same, by rw [upd_ne n1]; exact h2, by rw [upd_ne n2]; exact h3, h4, h5, h6, ht, h8, h9, h10⟩
    exact ⟨.ref w.dr, ea, w.dr, _, rfl, .inl ⟨_, .inr "rest", h1, rfl, by rw [sizeLine_eq]; show 4 < 16777216; decide, rfl⟩, k1 _ _ g1 _ hnx (st1.trans st2) S2⟩⟩⟩
/-- draw['large'].pop(0) if draw['large'] != [] else .. -/
def dDrwPop (i : Nat) (to : TDX) : TDX := fun rx δ P => δ[i]? = some (some (.sh .drw)) ∧ (∀ t : Int, 0 ≤ t → P (.int t) δ) ∧ to rx δ P
theorem dpAll_ints {K : PySem.W.Frag} {H : Hp} : ∀ ls : List Int, DpAll K H (ls.map V.int) (ls.map PyData.int)
  | [] => .nil
  | l :: ls => .cons (.int l) (dpAll_ints ls)
theorem ints_plain : ∀ ls : List Int, PyData.canLayAll0 (ls.map PyData.int) = true ∧ PyData.depthAll (ls.map PyData.int) = 0
  | [] => ⟨rfl, rfl⟩
  | l :: ls => by
    obtain ⟨h1, h2⟩ := ints_plain ls
    refine ⟨?_, ?_⟩
    · show (PyData.canLay0 (.int l) && PyData.canLayAll0 (ls.map PyData.int)) = true
      rw [h1]; rfl
    · show max (PyData.depth (.int l)) (PyData.depthAll (ls.map PyData.int)) = 0
      rw [h2]; rfl
theorem shaped_ints (ls : List Int) : SeqAt.shaped (.list (ls.map PyData.int)) = true := by
  obtain ⟨h1, h2⟩ := ints_plain ls
  show (PyData.canLayAll0 (ls.map PyData.int) && decide (PyData.depthAll (ls.map PyData.int) + 1 ≤ 64)) = true
  rw [h1, h2]; rfl
theorem de_drwPop {k0 j3 : Nat} {q1 q2 q3 q4 q5 q6 q7 q8 q9 : Pos} {o : Expr} {to : TDX} (hr : Rm k0 X.A) (hn1 : PE X (.Name x q1) (tVar i)) (hn2 : PE X (.Name x q2) (tVar i)) (ho : DE X B o to)
    (hs1 : PlainIx (.Constant (.str "large") j q3) := by intro _ _; rfl) (hs2 : PlainIx (.Constant (.str "large") j q4) := by intro _ _; rfl) (hm : behindInMarks .NotEq (.List [] q5) = false := by rfl)
    (hbase : attributeBase (.Subscript (.Name x q2) (.Constant (.str "large") j q4) q7) "pop" X.env (eval (.Subscript (.Name x q2) (.Constant (.str "large") j q4) q7) X.env) = eval (.Subscript (.Name x q2) (.Constant (.str "large") j q4) q7) X.env := by rfl)
    (hfew : ((backTo pos (starEach [.Constant (.int 0) j3 q9] X.env)).all (fun x => !x.1) && (backToKw pos (keywordEach [] X.env)).all (fun x => x.1.isSome) && decide (([.Constant (.int 0) j3 q9] : List Expr).length + ([] : List Keyword).length + (if ([] : List Keyword).isEmpty then 0 else 1) < 30)) = true := by rfl)
    (hline : (q8.endLine == pos.line) = true := by rfl) :
    DE X B (.IfExp (.Compare (.Subscript (.Name x q1) (.Constant (.str "large") j q3) p1) [.NotEq] [.List [] q5] p2) (.Call (.Attribute (.Subscript (.Name x q2) (.Constant (.str "large") j q4) q7) "pop" q8) [.Constant (.int 0) j3 q9] [] pos) o p3) (dDrwPop i to) := by
  have hu := hr.u1
  refine ⟨fun rx tk => PE.imp (pe_ifExp (pt_cmpR (op_neD hr.u64) (pe_ix (ix_dict hu) hn1 pe_str hs1) (pe_lst pa_nil) hm)
    (pe_bm PySem.F.plainAttrs_list PySem.F.slot_list_pop PySem.F.type_list_pop mt_popAt (pe_ix (ix_dict hu) hn2 pe_str hs2) (pa_cons pe_int pa_nil) hbase hfew hline) (ho.run rx tk)) fun σ H Q hl ⟨g, δ, P, S, ⟨e, q1, q2⟩, k⟩ => ?_⟩
  obtain ⟨w, hw, e1, D⟩ := slot_drw S e
  obtain ⟨ls, r, t, h1, h2, h3, h4, h5, h6, h7, h8, h9, h10⟩ := D
  refine ⟨.ref w.dr, e1, w.dr, .ref w.lg, rfl, .inl ⟨_, .inr "large", .inl h1, rfl, rfl⟩, by decide, fun p hp => ?_⟩
  obtain ⟨S1, st1⟩ := S.alloc (n := X.N.length) (o := .lst []) hp
  have n2 : w.lg ≠ p := fun z => by rw [z, hp] at h2; cases h2
  have n1 : w.dr ≠ p := fun z => by rw [z, hp] at h1; cases h1
  have n3 : w.cl ≠ p := fun z => by rw [z, hp] at h3; cases h3
  refine ⟨.list (ls.map PyData.int), .list [], .lst (SqL.of (by rw [upd_ne n2]; exact h2)) (dpAll_ints ls), .lst (SqL.of upd_same) .nil, shaped_ints ls, rfl, _, rfl, ?_⟩
  cases ls with
  | nil => exact ⟨_, _, _, S1, q2, fun d δ' g' H' v hp st S' r => k d δ' g' H' v hp (st1.trans st) S' r⟩
  | cons l ls =>
    have n4 : w.lg ≠ w.dr := fun z => by rw [z, h1] at h2; cases h2
    refine ⟨.ref w.dr, e1, w.dr, .ref w.lg, rfl, .inl ⟨_, .inr "large", .inl (by rw [upd_ne n1]; exact h1), rfl, rfl⟩, .inl ⟨rfl, _, SqL.of (by rw [upd_ne n2]; exact h2)⟩, w.lg, _, 0, 0, .int l, rfl, rfl, by rw [upd_ne n2]; exact h2, by decide, by decide, ?_, rfl, ?_⟩
    · unfold seqIndex?; simp <;> omega
    · obtain ⟨S2, st2⟩ := S1.drawPut (n := X.N.length) (o := .lst ((l :: ls).map V.int)) (o' := .lst (ls.map V.int)) hw (.inr rfl) (by rw [upd_ne n2]; exact h2) trivial
        ⟨ls, r, t, by rw [upd_ne (Ne.symm n4), upd_ne n1]; exact h1, upd_same, by rw [upd_ne (Ne.symm h4), upd_ne n3]; exact h3, h4, fun x hx => h5 x (List.mem_cons_of_mem _ hx), h6, h7, h8, by simp at h9; omega, h10⟩
      exact k _ δ _ _ _ (q1 l (h5 l List.mem_cons_self)) (st1.trans st2) S2 (.int l)
end
end DL

namespace DL
open PySem PySem.Spec L2
open PyProof.Rows hiding St
/-! ### the draws begun -/
def bgAbs : TDX := dCB absD (dCons (dVar 2) dNil)
def bgC1 : TDF := dComp (dSeqI (dVar 0)) (gN 2) (dTest (d2 geD bgAbs (d2 powD (dC (.int 10)) (dC (.int 18))))) (d2 subD bgAbs (d2 powD (dC (.int 10)) (dC (.int 18)))) [2]
def bgC2 : TDF := dComp (dSeqI (dVar 0)) (gN 2) dYes bgAbs [2]
def bgE (ns : List Int) (s : Option Sl) : Env := [some (.sh (.kls (ns.map D.int))), s, none]
theorem bg_l1 {P : List D → Env → Prop} {s0 : Option Sl} {all : List Int} (h : ∀ ls : List Int, ls.length ≤ 63 → (∀ l ∈ ls, 0 ≤ l) → P (ls.map D.int) (bgE all s0)) : ∀ (ns ls : List Int), ls.length + ns.length ≤ 63 → (∀ l ∈ ls, 0 ≤ l) →
    dCompL (gN 2) (dTest (d2 geD bgAbs (d2 powD (dC (.int 10)) (dC (.int 18))))) (d2 subD bgAbs (d2 powD (dC (.int 10)) (dC (.int 18)))) [2] P (ns.map D.int) (ls.map D.int) (bgE all s0)
  | [], ls, hl, hp => h ls (by simpa using hl) hp
  | n :: ns, ls, hl, hp => by
    simp only [List.length_cons] at hl
    have pw : CPow 10 18 := ⟨by decide, by decide, by decide⟩
    by_cases hge : (10 : Int) ^ 18 ≤ (if n < 0 then -n else n)
    · have e : decide ((10 : Int) ^ 18 ≤ (if n < 0 then -n else n)) = true := decide_eq_true hge
      have ih := bg_l1 h ns (ls ++ [(if n < 0 then -n else n) - 10 ^ 18]) (by simp; omega) (fun l hm => by
        rcases List.mem_append.mp hm with z | z
        · exact hp l z
        · rw [List.mem_singleton.mp z]; omega)
      rw [List.map_append] at ih
      refine ⟨pw, ?_⟩
      show (if decide ((10 : Int) ^ 18 ≤ (if n < 0 then -n else n)) = true then _ else _)
      rw [e, if_pos rfl]
      exact ⟨pw, by rw [List.length_map, sizeLine_eq]; omega, ih⟩
    · have e : decide ((10 : Int) ^ 18 ≤ (if n < 0 then -n else n)) = false := decide_eq_false hge
      refine ⟨pw, ?_⟩
      show (if decide ((10 : Int) ^ 18 ≤ (if n < 0 then -n else n)) = true then _ else _)
      rw [e, if_neg Bool.false_ne_true]
      exact bg_l1 h ns ls (by omega) hp
theorem bg_l2 {P : List D → Env → Prop} {s0 : Option Sl} {all : List Int} (h : ∀ ls : List Int, ls.length ≤ 63 → (∀ l ∈ ls, 0 ≤ l) → P (ls.map D.int) (bgE all s0)) : ∀ (ns ls : List Int), ls.length + ns.length ≤ 63 → (∀ l ∈ ls, 0 ≤ l) →
    dCompL (gN 2) dYes bgAbs [2] P (ns.map D.int) (ls.map D.int) (bgE all s0)
  | [], ls, hl, hp => h ls (by simpa using hl) hp
  | n :: ns, ls, hl, hp => by
    simp only [List.length_cons] at hl
    have ih := bg_l2 h ns (ls ++ [if n < 0 then -n else n]) (by simp; omega) (fun l hm => by
      rcases List.mem_append.mp hm with z | z
      · exact hp l z
      · rw [List.mem_singleton.mp z]; split <;> omega)
    rw [List.map_append] at ih
    exact ⟨by rw [List.length_map, sizeLine_eq]; omega, ih⟩
/-- its promise -/
def spBegun (K : PySem.W.Frag) (T : List (Addr × Str)) : Sp := fun vs H Q _ => ∃ (a : Addr) (ns : List Int) (F : Hp), vs = [.ref a] ∧ SqL K F a (ns.map V.int) ∧ ns.length ≤ 63 ∧ Gd T F H none ∧ ∀ w H', Ret ⟨F, H, none, T⟩ F H' (some w) → Q (.ref w.dr) H'
theorem dens_ints {K : PySem.W.Frag} {W : DW} {F : Hp} : ∀ ns : List Int, Dens K W F (ns.map V.int) (ns.map D.int)
  | [] => .nil
  | n :: ns => .cons (.int n) (dens_ints ns)
theorem ints_of {K : PySem.W.Frag} {W : DW} {F : Hp} : ∀ {vs : List V} {ns : List Int}, Dens K W F vs (ns.map D.int) → vs = ns.map V.int
  | _, [], .nil => rfl
  | _, n :: ns, .cons r t => by
    cases r
    rw [ints_of t]; rfl
section
variable {P : Program} {w : World} {K : PySem.W.Frag} {mg : Str → Option Value} {base : Heap} {T : List (Addr × Str)}
theorem begun_ok {x qual : Str} {params : Arguments} {st1 : Stmt} {e2 : Expr} {scope : Scope} {f : Addr} {fd : FuncData} {k j1 j2 j3 j4 j5 j6 : Nat} {n0 n1 n2 : Str} {p1 p2 p3 p4 p5 p6 p7 p8 p9 : Pos}
    (F : FunD K x qual params [st1, .Return (some (.Dict [some (.Constant (.str "large") j1 p1), some (.Constant (.str "rest") j2 p2), some (.Constant (.str "cells") j3 p3), some (.Constant (.str "turn") j4 p4)] [.Name n1 p5, .Constant (.int 0) j5 p6, e2, .Constant (.int 0) j6 p7] p8)) p9] scope [] [] f fd) (S : FnScope [n0, n1, n2] [n0] scope)
    (l1 : scope.names.lookup n1 = some .local) (d1 : (n1 == ("__debug__" : Str)) = false) (d2 : (n1 == ("__classdict__" : Str)) = false)
    (h1 : ∀ (cdv : Value) (A : Around) (outer : List PySem.Env) (s : Shared) (H : Hp) (E : XK) (B : Base), B.T = T → Rm k (A.deeper (envOfC qual scope s.heap.objs.size f cdv)) → DS (cxOf (L2.CX P w) P w K mg base [n0, n1, n2] qual scope f cdv A outer s H E) B st1 (dSetX 1 bgC1))
    (h2 : ∀ (cdv : Value) (A : Around) (outer : List PySem.Env) (s : Shared) (H : Hp) (E : XK) (B : Base), B.T = T → Rm k (A.deeper (envOfC qual scope s.heap.objs.size f cdv)) → DF (cxOf (L2.CX P w) P w K mg base [n0, n1, n2] qual scope f cdv A outer s H E) B e2 bgC2) :
    FnG P w K mg base (k + 1) f fd [n0] (spBegun K T) := by
  refine ⟨fun vs H Q E ⟨a, ns, F0, e, _⟩ => by rw [e]; rfl, fun A outer s H args us vs Q E hr e0 hb r h => ?_⟩
  obtain ⟨a, ns, F0, rfl, hS, hl, gd, hQ⟩ := h
  refine run_def F S hr e0 hb r rfl fun cdv hcd hr' => ?_
  have tk : Takes (cxOf (L2.CX P w) P w K mg base [n0, n1, n2] qual scope f cdv A outer s H E) (XW (liftX K ⟨F0, H, none, T⟩ fun _ => False)) := takes_never
  have q1 := (h1 cdv A outer s H E ⟨F0, H, none, T⟩ rfl hr').run (fun _ => False) tk
  have q2 := (h2 cdv A outer s H E ⟨F0, H, none, T⟩ rfl hr').run (fun _ => False) tk
  refine ⟨_, pss_cons q1 (pss_one (ps_ret (pe_disp (pps_cons pe_str (pe_var (i := 1) rfl (.inl l1) d1 d2) (pps_cons pe_str pe_int (pps_cons pe_str q2 (pps_cons pe_str pe_int pps_nil)))) rfl rfl (by simp) (by show 4 ≤ 15; decide)))), ?_⟩
  have S0 := stt_start (N := [n0, n1, n2]) (vs := [.ref a]) (ds := [.kls (ns.map D.int)]) gd (.cons (.kls hS (dens_ints ns)) .nil)
  refine ⟨_, _, { nx := fun δ => ∃ ls : List Int, ls.length ≤ 63 ∧ (∀ l ∈ ls, 0 ≤ l) ∧ δ = bgE ns (some (.ol (ls.map D.int))), rt := fun _ => False }, S0, ?_, fun σ1 δ1 g1 H1 hn st1 S1 => ?_, fun _ _ _ _ _ h => h.elim, fun _ _ _ _ h => h.elim, fun _ _ _ _ h => h.elim⟩
  · exact bg_l1 (P := fun acc δ2 => ∃ ls : List Int, ls.length ≤ 63 ∧ (∀ l ∈ ls, 0 ≤ l) ∧ (backD (bgE ns none) δ2 [2]).set 1 (some (.ol acc)) = bgE ns (some (.ol (ls.map D.int)))) (s0 := none) (all := ns) (fun ls a b => ⟨ls, a, b, rfl⟩) ns [] (by simpa using hl) (fun l h => nomatch h)
  · obtain ⟨ls, ll, lp, rfl⟩ := hn
    obtain ⟨a1, xs, ea1, eo1, eh1, rr1⟩ := S1.env 1 _ rfl
    have ex := ints_of rr1
    subst ex
    intro p hp
    obtain ⟨S2, st2⟩ := S1.allocOwn (n := 3) (k := 3 + p) hp (o := .dK []) trivial
    refine ⟨.ref a1, ea1, _, _, fun s2 δ2 => ∃ cs : List Int, cs.length ≤ 63 ∧ (∀ c ∈ cs, 0 ≤ c) ∧ s2 = .ol (cs.map D.int) ∧ δ2 = bgE ns (some (.ol (ls.map D.int))), S2, ?_, fun s2 δ2 g2 H2 v2 hs2 st3 S3 it => ?_⟩
    · exact bg_l2 (P := fun acc δ2 => ∃ cs : List Int, cs.length ≤ 63 ∧ (∀ c ∈ cs, 0 ≤ c) ∧ (Sl.ol acc) = .ol (cs.map D.int) ∧ backD (bgE ns (some (.ol (ls.map D.int)))) δ2 [2] = bgE ns (some (.ol (ls.map D.int)))) (s0 := some (.ol (ls.map D.int))) (all := ns) (fun ls a b => ⟨ls, a, b, rfl, rfl⟩) ns [] (by simpa using hl) (fun l h => nomatch h)
    · obtain ⟨cs, cl, cp, rfl, rfl⟩ := hs2
      obtain ⟨a2, xs, rfl, gO, o2, e2, rr2⟩ := it
      have ex := ints_of rr2
      subst ex
      obtain ⟨a1', ys, z1, z2, z3, rr3⟩ := S3.env 1 _ rfl
      have ey := ints_of rr3
      subst ey
      rw [ea1] at z1
      cases z1
      have n1p : a1 ≠ p := fun z => by rw [z, hp] at eh1; cases eh1
      have n12 : a1 ≠ a2 := fun z => by
        have : (if a1 = p then some (3 + p) else g1.O a1) = some 1 := by rw [if_neg n1p]; exact eo1
        rw [z] at this
        rw [show (if a2 = p then some (3 + p) else g1.O a2) = none from gO] at this
        cases this
      have gp : (if p = p then some (3 + p) else g1.O p) = some (3 + p) := if_pos rfl
      obtain ⟨op, ep⟩ := st3.ext p (3 + p) gp (Nat.le_add_right _ _)
      have ep2 : H2 p = some (.dK []) := by rw [ep, upd_same]
      have n2p : a2 ≠ p := fun z => by rw [z] at e2; rw [ep2] at e2; cases e2
      refine ⟨ep2, [(.inr "large", .ref a1), (.inr "rest", .int 0), (.inr "cells", .ref a2), (.inr "turn", .int 0)], rfl, by show 4 ≤ 15; decide, ?_⟩
      have mk : mergeK [] [((.inr "large" : Key), V.ref a1), (.inr "rest", .int 0), (.inr "cells", .ref a2), (.inr "turn", .int 0)] = [(.inr "large", .ref a1), (.inr "rest", .int 0), (.inr "cells", .ref a2), (.inr "turn", .int 0)] := rfl
      rw [mk]
      have nh : ∀ b, H b ≠ none → ¬ has g2.W b := fun b hb q => hb (S3.ret.dnew b q (fun z => by obtain ⟨w0, z, _⟩ := z; cases z))
      have Hn : ∀ b, H1 b = none → H b = none := fun b hb => by
        cases z : H b with
        | none => rfl
        | some o => exact absurd hb (S1.ret.there b (by show H b ≠ none; rw [z]; simp))
      have keep : ∀ b o, H b = some o → notTbl o → upd H2 p (.dK [(.inr "large", .ref a1), (.inr "rest", .int 0), (.inr "cells", .ref a2), (.inr "turn", .int 0)]) b = some o := fun b o e nt => by
        rw [upd_ne (fun z => by rw [z, Hn p hp] at e; cases e)]
        exact S3.ret.old b o e (nh b (by rw [e]; simp)) nt
      have Fn : ∀ b, H b = none → F0 b = none := fun b hb => by
        cases z : F0 b with
        | none => rfl
        | some o => rw [gd.sub b o z] at hb; cases hb
      have h1n : H a1 = none := (S3.own a1 _ z2).1
      have h2n : H a2 = none := (S3.own a2 _ o2).1
      refine hQ ⟨p, a1, a2, cs⟩ _ ⟨fun b o e => keep b o (gd.sub b o e) (gd.fnt b o e), Up.refl _, fun b o e _ nt => keep b o e nt, fun b hb => upd_thr b (S3.ret.there b hb), fun _ _ => rfl, .inl rfl, fun w' e => ?_, tabs_mut S3.ret.tab ep2 (fun _ z => by cases z) (fun _ z => by cases z), fun b hb _ => ?_, gd.fnt⟩
      · cases e
        exact ⟨⟨ls, 0, 0, upd_same, by show upd H2 p _ a1 = _; rw [upd_ne n1p]; exact z3, by show upd H2 p _ a2 = _; rw [upd_ne n2p]; exact e2, n12, lp, cp, Int.le_refl _, Int.le_refl _, ll, cl⟩, Fn p (Hn p hp), Fn a1 h1n, Fn a2 h2n⟩
      · obtain ⟨w', e, h⟩ := hb
        cases e
        rcases h with h | h | h
        · rw [h]; exact Hn p hp
        · rw [h]; exact h1n
        · rw [h]; exact h2n
end
end DL

namespace DL
open PySem PySem.Spec L2 He
open PyProof.Rows hiding St
/-! ### what the head tells of the module -/
/-- where a function stands: a global | a class' attribute | a class' property's getter -/
inductive Wh where
  | glo (x : Str) | meth (c m : Str) | get (c f : Str)
def Wh.ad (K : PySem.W.Frag) : Wh → Addr
  | .glo x => ga K x
  | .meth c m => ma K (ga K c) m
  | .get c f => match PySem.W.recIn K (ma K (ga K c) f) "property" with
    | some (.ref g :: _) => g
    | _ => 0
structure FnA where
  at_ : Wh
  name : Str
  qual : Str
  params : Arguments
  body : List Stmt
  scope : Scope
  clo : List Str := []
abbrev FnO : Type := Option (Str × Str × Arguments × FuncBody × Scope × Addr × List Str × Addr)
def fnO (K : PySem.W.Frag) (a : Addr) : FnO := match K.lookup a with
  | some ⟨_, _, .func fd, _⟩ => some (fd.name, fd.qualname, fd.params, fd.body, fd.scope, fd.globals, fd.closure.map (·.1), fd.builtins)
  | _ => none
def FnA.val (d : FnA) : FnO := some (d.name, d.qual, d.params, .stmts d.body, d.scope, mainGlobals, d.clo, builtinsNs)
def FnA.ok (K : PySem.W.Frag) (d : FnA) : Bool := PySem.W.keepIn K (.ref (d.at_.ad K)) && (match K.lookup (d.at_.ad K) with
  | some ⟨_, _, .func fd, _⟩ => PySem.W.codeIn K fd.code d.qual && dflB K fd.defaults []
  | _ => false)
/-- the function's object -/
theorem FnA.obj {K : PySem.W.Frag} {d : FnA} (e : fnO K (d.at_.ad K) = d.val) (c : d.ok K = true) : PySem.W.keepIn K (.ref (d.at_.ad K)) = true ∧ ∃ (oc : Value) (od : Option Addr) (cl : List (Str × Addr)) (kV doc pm cdv ct : Value) (an : Option Addr) (osl : Array (Option Value)),
    K.lookup (d.at_.ad K) = some ⟨oc, od, .func (PySem.W.fnX d.name d.qual d.params d.body d.scope cl .none kV doc pm an cdv ct), osl⟩ ∧ PySem.W.codeIn K cdv d.qual = true ∧ cl.map (·.1) = d.clo := by
  obtain ⟨kp, c2⟩ := He.ba c
  refine ⟨kp, ?_⟩
  unfold fnO at e
  cases q : K.lookup (d.at_.ad K) with
  | none => rw [q] at c2; cases c2
  | some o =>
    obtain ⟨oc, od, dt, osl⟩ := o
    rw [q] at c2 e
    cases dt with
    | func fd =>
      obtain ⟨n1, n2, n3, n4, n5, n6, n7, n8, n9, n10, n11, n12, n13, n14, n15⟩ := fd
      have e2 : (some (n1, n2, n3, n4, n5, n6, n7.map (·.1), n15) : FnO) = some (d.name, d.qual, d.params, .stmts d.body, d.scope, mainGlobals, d.clo, builtinsNs) := e
      simp only [Option.some.injEq, Prod.mk.injEq] at e2
      obtain ⟨h1, h2, h3, h4, h5, h6, h7, h8⟩ := e2
      subst h1 h2 h3 h4 h5 h6 h8
      have c3 : (PySem.W.codeIn K n13 d.qual && dflB K n8 []) = true := c2
      obtain ⟨k1, k2⟩ := He.ba c3
      have k3 : n8 = .none := by
        rcases dflB_ok k2 with ⟨_, z⟩ | ⟨z, _⟩
        · exact z
        · exact absurd rfl z
      subst k3
      exact ⟨oc, od, n7, n9, n10, n11, n13, n14, n12, osl, rfl, k1, h7⟩
    | _ => cases c2
theorem FnA.funD {K : PySem.W.Frag} {d : FnA} (e : fnO K (d.at_.ad K) = d.val) (c : d.ok K = true) (hc : d.clo = []) : ∃ fd, FunD K d.name d.qual d.params d.body d.scope [] [] (d.at_.ad K) fd := by
  obtain ⟨kp, oc, od, cl, kV, doc, pm, cdv, ct, an, osl, lk, hcd, hcl⟩ := FnA.obj e c
  rw [hc] at hcl
  have : cl = [] := List.map_eq_nil_iff.mp hcl
  subst this
  exact ⟨_, ⟨oc, od, .none, kV, doc, pm, an, cdv, ct, osl, rfl, lk, hcd, .inl ⟨rfl, rfl⟩, .inl rfl⟩, kp⟩
/-! the Hook -/
def asY0 (g : Addr → Option Obj) : Nat → List Addr
  | 0 => [mainGlobals, cStatics]
  | n + 1 => growD g (asY0 g n)
def asY (g : Addr → Option Obj) (n : Nat) : List Addr := sysModules :: asY0 g n
/-- a lambda-making def's code object and table -/
def cTY (K : PySem.W.Frag) (p : Wh) : Addr × Addr := (codeAt K (p.ad K), tabOf K (codeAt K (p.ad K)))
def tabsY (g : Addr → Option Obj) (tf : List Wh) (K : PySem.W.Frag) : Bool := tf.all fun p => PySem.W.codeHdIn K (cTY K p).1 (cTY K p).2 && (match g (cTY K p).2 with
  | some o => emptyTab o
  | none => false)
abbrev AlY : Type := Bool × List FnO
def obsY (n : Nat) (fns : List FnA) (tf : List Wh) (chk : List (PySem.W.Frag → Bool)) (g : Addr → Option Obj) : AlY :=
  (((chk.all fun f => f (frT g (asY g n))) && (fns.all fun d => d.ok (frT g (asY g n)))) && tabsY g tf (frT g (asY g n)), fns.map fun d => fnO (frT g (asY g n)) (d.at_.ad (frT g (asY g n))))
def valY (fns : List FnA) : AlY := (true, fns.map FnA.val)
structure SaysY (fns : List FnA) (tf : List Wh) (chk : List (PySem.W.Frag → Bool)) (h : Heap) (K : PySem.W.Frag) : Prop where
  chk : ∀ f ∈ chk, f K = true
  fns : ∀ d ∈ fns, fnO K (d.at_.ad K) = d.val ∧ d.ok K = true
  hd : ∀ p ∈ tf, PySem.W.codeHdIn K (cTY K p).1 (cTY K p).2 = true
  out : ∀ p ∈ tf, K.lookup (cTY K p).2 = none
  empty : ∀ p ∈ tf, h.get? (cTY K p).2 = some { cls := .none, data := .fields #[] }
theorem map_at {α β : Type} {f g : α → β} : ∀ {l : List α}, l.map f = l.map g → ∀ a ∈ l, f a = g a
  | [], _, a, h => nomatch h
  | b :: l, e, a, h => by
    simp only [List.map_cons, List.cons.injEq] at e
    rcases List.mem_cons.mp h with rfl | h
    · exact e.1
    · exact map_at e.2 a h
theorem saysY_of {n : Nat} {fns : List FnA} {tf : List Wh} {chk : List (PySem.W.Frag → Bool)} {h : Heap} (e : obsY n fns tf chk h.get? = valY fns) : SaysY fns tf chk h (frT h.get? (asY h.get? n)) := by
  have e1 : (((chk.all fun f => f (frT h.get? (asY h.get? n))) && (fns.all fun d => d.ok (frT h.get? (asY h.get? n)))) && tabsY h.get? tf (frT h.get? (asY h.get? n))) = true := congrArg (fun z : AlY => z.1) e
  have e2 : (fns.map fun d => fnO (frT h.get? (asY h.get? n)) (d.at_.ad (frT h.get? (asY h.get? n)))) = fns.map FnA.val := congrArg (fun z : AlY => z.2) e
  obtain ⟨h12, h3⟩ := He.ba e1
  obtain ⟨h1, h2⟩ := He.ba h12
  have key : ∀ p ∈ tf, PySem.W.codeHdIn (frT h.get? (asY h.get? n)) (cTY (frT h.get? (asY h.get? n)) p).1 (cTY (frT h.get? (asY h.get? n)) p).2 = true ∧ ∃ o, h.get? (cTY (frT h.get? (asY h.get? n)) p).2 = some o ∧ emptyTab o = true := fun p hp => by
    obtain ⟨a, b⟩ := He.ba (List.all_eq_true.mp h3 p hp)
    refine ⟨a, ?_⟩
    cases q : h.get? (cTY (frT h.get? (asY h.get? n)) p).2 with
    | none => rw [q] at b; cases b
    | some o => rw [q] at b; exact ⟨o, rfl, b⟩
  exact ⟨List.all_eq_true.mp h1, fun d hd => ⟨map_at e2 d hd, List.all_eq_true.mp h2 d hd⟩, fun p hp => (key p hp).1, fun p hp => by
    obtain ⟨_, o, q, z⟩ := key p hp
    exact frT_none q z, fun p hp => by
    obtain ⟨_, o, q, z⟩ := key p hp
    rw [q, emptyTab_eq z]⟩
def hookY (n : Nat) (fns : List FnA) (tf : List Wh) (chk : List (PySem.W.Frag → Bool)) : PySem.W.Hook where
  α := AlY
  obs := fun s => obsY n fns tf chk s.heap.get?
  val := fun _ => valY fns
  says := fun _ h => ∃ K : PySem.W.Frag, K.In h ∧ SaysY fns tf chk h K
  of := fun _ _ e => ⟨_, frT_in, saysY_of e⟩
  keeps := fun _ _ _ ⟨K, hK, c⟩ k => ⟨K, PySem.W.Frag.In.keeps hK k, ⟨c.chk, c.fns, c.hd, c.out, fun p hp => k _ _ (c.empty p hp)⟩⟩
theorem obsY_eq {n : Nat} {fns : List FnA} {tf : List Wh} {chk : List (PySem.W.Frag → Bool)} {g : Addr → Option Obj} {s : Shared} (h : ∀ a, g a = s.heap.get? a) : obsY n fns tf chk g = (hookY n fns tf chk).obs s := by
  have e : g = s.heap.get? := funext h
  rw [e] <;> rfl
/-! ### the law's def -/
def spLaw (K : PySem.W.Frag) (T : List (Addr × Str)) : Sp := fun vs H Q _ => ∃ (a : Addr) (ns : List Int) (F : Hp), vs = [.ref a] ∧ SqL K F a (ns.map V.int) ∧ ns.length ≤ 63 ∧ Gd T F H none ∧ ∀ H', Q (.bl true) H'
section
variable {P : Program} {w : World} {K : PySem.W.Frag} {mg : Str → Option Value} {base : Heap} {T : List (Addr × Str)}
theorem law_ok {x qual b : Str} {params : Arguments} {rest : List Stmt} {scope : Scope} {f fb : Addr} {fd fdb : FuncData} {k : Nat} {n0 n1 : Str} {ns : List Str} {p1 p2 p3 p4 p5 : Pos} {t : TDS}
    (F : FunD K x qual params (.Assign [.Name n1 p1] (.Call (.Name b p2) [.Name n0 p3] [] p4) p5 :: rest) scope [] [] f fd) (S : FnScope (n0 :: n1 :: ns) [n0] scope) (GB : FnG P w K mg base k fb fdb [n0] (spBegun K T)) (mB : mg b = some (.ref fb)) (kB : PySem.W.keepIn K (.ref fb) = true)
    (bB : ∀ (s : Shared) (u : Value), BindsTo s fdb ⟨[u], []⟩ [(n0, u)]) (gB : scope.names.lookup b = some .globalImplicit) (l0 : Vis scope n0) (l1 : Loc scope n1) (d0 : (n0 == ("__debug__" : Str)) = false) (d1 : (n0 == ("__classdict__" : Str)) = false) (dB : (b == ("__debug__" : Str)) = false)
    (sw : ∀ env, swapsWith (.Call (.Name b p2) [.Name n0 p3] [] p4) (some (.Name n1 p1)) p5.line env = pure false)
    (hrest : ∀ (cdv : Value) (A : Around) (outer : List PySem.Env) (s : Shared) (H : Hp) (E : XK) (B : Base), cdv = .ref (codeAt K f) → B.T = T → Rm k (A.deeper (envOfC qual scope s.heap.objs.size f cdv)) → DSs (cxOf (L2.CX P w) P w K mg base (n0 :: n1 :: ns) qual scope f cdv A outer s H E) B rest t)
    (hwp : ∀ ms : List Int, ms.length ≤ 63 → t (fun _ => False) { nx := fun _ => False, rt := fun d => d = .bl true } (some (.sh (.kls (ms.map D.int))) :: some (.sh .drw) :: List.replicate ns.length none)) :
    FnG P w K mg base (k + 1) f fd [n0] (spLaw K T) := by
  refine ⟨fun vs H Q E ⟨a, ms, F0, e, _⟩ => by rw [e]; rfl, fun A outer s H args us vs Q E hr e0 hb r h => ?_⟩
  obtain ⟨a, ms, F0, rfl, hS, hl, gd, hQ⟩ := h
  refine run_def F S hr e0 hb r rfl fun cdv hcd hr' => ?_
  have tk : Takes (cxOf (L2.CX P w) P w K mg base (n0 :: n1 :: ns) qual scope f cdv A outer s H E) (XW (liftX K ⟨F0, H, none, T⟩ fun _ => False)) := takes_never
  have q2 := (hrest cdv A outer s H E ⟨F0, H, none, T⟩ hcd rfl hr').run (fun _ => False) tk
  have pb : PE (cxOf (L2.CX P w) P w K mg base (n0 :: n1 :: ns) qual scope f cdv A outer s H E) (.Call (.Name b p2) [.Name n0 p3] [] p4) (fun σ H1 Q1 => ∃ v, σ[0]? = some (some v) ∧ spBegun K T [v] H1 Q1 fun _ _ _ => False) := by
    refine ⟨fun pins s1 σ H1 Q1 I ⟨v, e, hsp⟩ => ?_⟩
    refine wpAny_Call_Name_kw (ld_glob I gB mB ?_ dB)
    refine PySem.W.callWith_K (h₀ := base) I.ok.mod.kin kB ?_ (by rfl) (by rfl)
    show wpAny _ _ (spliced ((false, eval (.Name n0 p3) _) :: backTo p4 (starEach [] _))) _ _ s1
    refine Calls.spliced_cons (thn ((pe_var (X := cxOf (L2.CX P w) P w K mg base (n0 :: n1 :: ns) qual scope f cdv A outer s H E) (pos := p3) (i := 0) rfl l0 d0 d1).run pins s1 σ H1 (fun v' H2 => v' = v ∧ H2 = H1) I ⟨v, e, rfl, rfl⟩) fun u s2 ⟨v', H2, I2, rv, q⟩ => Calls.spliced_nil ⟨I2.kIn, ?_⟩)
    obtain ⟨rfl, rfl⟩ := q
    have noX : Passes (L2.CX P w) (cxOf (L2.CX P w) P w K mg base (n0 :: n1 :: ns) qual scope f cdv A outer s H E) (fun _ _ _ => False) := fun pins σ H s e s' I c => by
      obtain ⟨a, B', H', cls, d, e1, e2, e3, e4, e5, e6, e7, e8⟩ := c
      exact e8.elim
    exact run_g (X := cxOf (L2.CX P w) P w K mg base (n0 :: n1 :: ns) qual scope f cdv A outer s H E) (us := [u]) (vals := [u]) (kw := []) GB hr' (bB s2 u) noX I2 (.cons rv .nil) hsp
  refine ⟨_, pss_cons (ps_set (i := 1) S.nd rfl l1 pb (sw _) (.inl rfl)) q2, ?_⟩
  refine ⟨.ref a, rfl, a, ms, F0, rfl, hS, hl, gd, fun w0 H' rt => ?_⟩
  have S1 : Stt K ⟨F0, H, none, T⟩ ⟨F0, fun _ => none, some w0⟩ H' ((L2.start (n0 :: n1 :: ns) [.ref a]).set 1 (some (.ref w0.dr))) (some (.sh (.kls (ms.map D.int))) :: some (.sh .drw) :: List.replicate ns.length none) := by
    refine ⟨rt, fun a k e => (nomatch e), ?_, fun i s e => ?_⟩
    · unfold L2.start; simp
    · match i, e with
      | 0, e =>
        cases e
        exact ⟨.ref a, rfl, .kls hS (dens_ints ms)⟩
      | 1, e =>
        cases e
        exact ⟨.ref w0.dr, rfl, .drw rfl⟩
      | i + 2, e =>
        rw [List.getElem?_cons_succ, List.getElem?_cons_succ] at e
        obtain ⟨z1, z2⟩ := List.getElem?_eq_some_iff.mp e
        simp at z2
  exact ⟨_, _, { nx := fun _ => False, rt := fun d => d = .bl true }, S1, hwp ms hl, fun _ _ _ _ h => h.elim, fun d v F' W' H' hd _ dn => by
    subst hd
    cases dn
    exact hQ H', fun _ _ _ _ h => h.elim, fun _ _ _ _ h => h.elim⟩
end
end DL

namespace DL
open PySem PySem.Spec L2 LamX
open PyProof.Rows hiding St
/-! ### the end: the law's call behind the head -/
/-- what is not tracked, at the base -/
theorem base_ns {h : Heap} {H : Hp} {b : Addr} {m : Str → Option Value} (hn : ∀ b o es ep, h.get? b = some o → o.data = .dict es ep → H b = none) (x : h.Ns b m) : (hidT h H).Ns b m := by
  obtain ⟨o, es, ep, e, d, r⟩ := x
  exact ⟨o, es, ep, hidT_get e (hn b o es ep e d), d, r⟩
theorem law_run {P : Program} {w : World} {K : PySem.W.Frag} {mg mb : Str → Option Value} {k : Nat} {fa a : Addr} {cs : List (Addr × Addr)} {T : List (Addr × Str)} {fd : FuncData} {x : Str} {s₁ : Shared} {vs : List Value} {ns : List Int}
    (KX : K.In s₁.heap) (hns : s₁.heap.Ns mainGlobals mg) (hb : s₁.heap.Ns builtinsNs mb) (hbb : ∀ x : Str, x ≠ "__name__" → mb x = bootBuiltins x) (hlim : s₁.heap.NoLimit) (hg : s₁.gens = #[])
    (hT : ∀ p ∈ cs, s₁.heap.get? p.2 = some { cls := .none, data := .fields #[] }) (nT : ∀ p ∈ cs, K.lookup p.2 = none) (C : ∀ p ∈ cs, PySem.W.CodeHd s₁.heap p.1 p.2) (hTc : ∀ q ∈ T, ∃ p ∈ cs, p.2 = q.1)
    (hbm : ∃ (bm : Addr) (ob : Obj), mg "__builtins__" = some (.ref bm) ∧ bm ≠ builtinsNs ∧ s₁.heap.get? bm = some ob ∧ ob.cls = .type "module" ∧ ob.dict = some builtinsNs ∧ ob.data = .plain)
    (ha : s₁.heap.get? a = some { cls := .type "list", data := .seq vs.toArray }) (hi : IntsAre vs ns) (hl : ns.length ≤ 63) (hr : Rm k callerA)
    (F : ∀ base : Heap, K.In base → base.Ns mainGlobals mg → (∀ p ∈ cs, TabB base mg p.1 p.2) → FnG P w K mg base k fa fd [x] (spLaw K T)) (hbind : ∀ (s : Shared) (u : Value), BindsTo s fd ⟨[u], []⟩ [(x, u)]) :
    codeAny (model P w) callerA (.call (.ref fa) ⟨[.ref a], []⟩) (fun r s' => r = .ok (.ret (.bool true)) ∧ OldK s₁.heap s'.heap ∧ s'.os = s₁.os ∧ AllBare s'.gens) s₁ := by
  have rv := vals_ints hi
  have lenV := hi.length
  have hl2 : ns.length ≤ sizeLine := by rw [sizeLine_eq]; omega
  have tabAt : ∀ b : Addr, b ∈ cs.map (·.2) → s₁.heap.get? b = some { cls := .none, data := .fields #[] } := fun b hb => by
    obtain ⟨p, hp, e⟩ := List.mem_map.mp hb
    rw [← e]; exact hT p hp
  have aT : a ∉ cs.map (·.2) := fun z => by
    have q := tabAt a z
    rw [ha] at q
    exact nomatch (show Data.seq vs.toArray _ = Data.fields #[] from congrArg Obj.data (Option.some.inj q))
  have memT : ∀ p ∈ cs, p.2 ∈ cs.map (·.2) := fun p hp => List.mem_map.mpr ⟨p, hp, rfl⟩
  have core : ∀ H : Hp, (∀ p ∈ cs, H p.2 = some (.tbl #[])) → (∀ b, H b = none ∨ b ∈ cs.map (·.2) ∨ ∃ o xs, H b = some (.frz o (.lst xs))) → SqL K H a (ns.map V.int) → HOk P w H s₁.heap → (∀ b, H b ≠ none → b = a ∨ b ∈ cs.map (·.2)) → (H a ≠ none → K.lookup a = none) →
      codeAny (model P w) callerA (.call (.ref fa) ⟨[.ref a], []⟩) (fun r s' => r = .ok (.ret (.bool true)) ∧ OldK s₁.heap s'.heap ∧ s'.os = s₁.os ∧ AllBare s'.gens) s₁ := by
    intro H hH hO hS hok hA hK
    have unT : ∀ {b : Addr} {o : Obj}, s₁.heap.get? b = some o → (∀ vs n, o.data ≠ .seq vs n) → o.data ≠ .fields #[] → H b = none := fun {b o} e h1 h2 => by
      cases q : H b with
      | none => rfl
      | some u =>
        rcases hA b (by rw [q]; simp) with e' | e'
        · rw [e', ha] at e; cases e
          exact (h1 _ _ rfl).elim
        · rw [tabAt b e'] at e; cases e
          exact (h2 rfl).elim
    have unD : ∀ b o es ep, s₁.heap.get? b = some o → o.data = .dict es ep → H b = none := fun b o es ep e d => unT e (fun vs n z => by rw [d] at z; cases z) fun z => by rw [d] at z; cases z
    have hKb : K.In (hidT s₁.heap H) := fun b o e => hidT_get (KX b o e) (by
      cases q : H b with
      | none => rfl
      | some u =>
        rcases hA b (by rw [q]; simp) with e' | e'
        · rw [e'] at e q
          rw [hK (by rw [q]; simp)] at e
          cases e
        · obtain ⟨p, hp, ep⟩ := List.mem_map.mp e'
          rw [← ep, nT p hp] at e
          cases e)
    have hM : L2.Mod K mg (hidT s₁.heap H) := ⟨hKb, base_ns unD hns, ⟨mb, base_ns unD hb, hbb⟩, let ⟨mc, h1, h2⟩ := hlim; ⟨mc, base_ns unD h1, h2⟩⟩
    have TB : ∀ p ∈ cs, TabB (hidT s₁.heap H) mg p.1 p.2 := fun p hp => by
      have hTp := hT p hp
      refine ⟨?_, ?_, fun z => ?_⟩
      · obtain ⟨o, us, file, tf, flags, tg, inF, text, tt, e1, r1, r2, r3, rr⟩ := C p hp
        exact ⟨o, us, file, tf, flags, tg, inF, text, tt, hidT_get e1 (unT e1 (fun vs n z => by rw [r2] at z; cases z) fun z => by
          rw [r2] at z; cases z; simp at r3), r1, r2, r3, rr⟩
      · obtain ⟨bm, ob, b1, b2, b3, b4, b5, b6⟩ := hbm
        have nG : bm ≠ mainGlobals := fun q => by
          obtain ⟨o, es, ep, e, hd, _⟩ := hns
          rw [q, e] at b3; cases b3
          rw [hd] at b6; cases b6
        have nP : bm ≠ p.2 := fun q => by
          rw [q, hTp] at b3; cases b3; cases b6
        exact ⟨bm, ob, b1, b2, nG, nP, hidT_get b3 (unT b3 (fun vs n z => by rw [b6] at z; cases z) fun z => by rw [b6] at z; cases z), b4, b5, b6⟩
      · obtain ⟨o, es, ep, e, hd, _⟩ := hns
        rw [z, hTp] at e; cases e; cases hd
    have e0 : Env0 P w K mg (hidT s₁.heap H) callerA [] s₁ H := ⟨rfl, hM, fun b o e => of_hidT e, Nat.le_of_eq (hidT_size _ _), trivial, fun b hb => (nomatch (show b ∈ ([] : List Addr) from hb)), hok, .of_eq hg⟩
    -- what is frozen at the beginning: all but the tables
    have start : spLaw K T [.ref a] H (fun v _ => v = .bl true) fun _ _ _ => False := by
      refine ⟨a, ns, fun b => match H b with
        | some (.tbl _) => none
        | o => o, rfl, ?_, hl, ⟨fun b o e => ?_, fun w0 z => (nomatch z), fun q hq => ?_, fun b o e ps z => ?_⟩, fun _ => rfl⟩
      · rcases hS with (h | ⟨o, h⟩) | h
        · exact .inl (.inl (by show (match H a with | some (.tbl _) => none | o => o) = _; rw [h]))
        · exact .inl (.inr ⟨o, by show (match H a with | some (.tbl _) => none | o => o) = _; rw [h]⟩)
        · exact .inr h
      · have e : (match H b with | some (.tbl _) => none | o => o) = some o := e
        cases q : H b with
        | none => rw [q] at e; cases e
        | some u => rw [q] at e; cases u <;> first | exact e | cases e
      · obtain ⟨p, hp, e⟩ := hTc q hq
        rw [← e]; exact TabS.nil (hH p hp)
      · subst z
        have e : (match H b with | some (.tbl _) => none | o => o) = some (.tbl ps) := e
        cases q : H b with
        | none => rw [q] at e; cases e
        | some u => rw [q] at e; cases u <;> first | exact nomatch (Option.some.inj e) | cases e
    refine codeAny_mono ((F _ hKb (base_ns unD hns) TB).go callerA [] s₁ H ⟨[.ref a], []⟩ [.ref a] [.ref a] _ _ hr e0 (hbind s₁ (.ref a)) (.cons rfl .nil) start) fun r s' h => ?_
    cases r with
    | error e =>
      obtain ⟨_, _, _, _, _, _, _, _, _, _, _, _, z⟩ := h
      exact z.elim
    | ok fl =>
      cases fl with
      | next => exact False.elim h
      | brk => exact False.elim h
      | cont => exact False.elim h
      | ret u =>
        obtain ⟨v, H', os, bare, un, hok', r', q⟩ := h
        obtain rfl : v = .bl true := q
        obtain rfl : u = Value.bool true := r'
        have key : ∀ b o, b ∉ cs.map (·.2) → s₁.heap.get? b = some o → s'.heap.get? b = some o := fun b o nb e => by
          cases q : H b with
          | none => exact un.keep b o e q (fun z => (nomatch (show b ∈ ([] : List Addr) from z))) (fun z => (nomatch z))
          | some u =>
            rcases hO b with z | z | ⟨ob, xs, z⟩
            · rw [q] at z; cases z
            · exact absurd z nb
            · obtain ⟨e1, _⟩ := hok b _ z
              obtain ⟨e2, _⟩ := hok' b _ (un.frzs b ob _ z)
              rw [e] at e1; cases e1
              exact e2
        have grown : ∀ p ∈ cs, ∃ more : Array Value, s'.heap.get? p.2 = some { cls := .none, data := .fields more } := fun p hp => by
          obtain ⟨more, z⟩ := un.tbls p.2 #[] (hH p hp)
          exact ⟨_, hok' p.2 _ z⟩
        refine ⟨rfl, ⟨fun b o e => ?_, fun b o e => ?_⟩, os, bare⟩
        · by_cases hb : b ∈ cs.map (·.2)
          · obtain ⟨p, hp, ep⟩ := List.mem_map.mp hb
            obtain ⟨more, hm⟩ := grown p hp
            rw [← ep] at e ⊢
            rw [hT p hp] at e
            cases e
            exact .inr (.inl ⟨((C p hp).tab (hT p hp)).isCodeTable, rfl, #[], more, rfl, by rw [Array.empty_append]; exact hm⟩)
          · exact .inl (key b o hb e)
        · by_cases hb : b ∈ cs.map (·.2)
          · obtain ⟨p, hp, ep⟩ := List.mem_map.mp hb
            obtain ⟨more, hm⟩ := grown p hp
            rw [← ep]; exact ⟨_, hm⟩
          · exact ⟨o, key b o hb e⟩
  cases hk : K.lookup a with
  | some o =>
    have e := KX a o hk
    rw [ha] at e
    cases e
    refine core (fun b => if b ∈ cs.map (·.2) then some (.tbl #[]) else none) (fun p hp => if_pos (memT p hp)) (fun b => ?_) (.inr ⟨_, vs.toArray, _, hk, rfl, rfl, rfl, by rw [List.size_toArray, lenV]; exact hl2, by simpa using rv⟩) (fun b u z => ?_) (fun b z => ?_) fun z => absurd (show (if a ∈ cs.map (·.2) then some (HO.tbl #[]) else none) = none from if_neg aT) z
    · by_cases hb : b ∈ cs.map (·.2)
      · exact .inr (.inl hb)
      · exact .inl (if_neg hb)
    · by_cases hb : b ∈ cs.map (·.2)
      · cases (if_pos hb).symm.trans z
        exact tabAt b hb
      · cases (if_neg hb).symm.trans z
    · by_cases hb : b ∈ cs.map (·.2)
      · exact .inr hb
      · exact absurd (if_neg hb) z
  | none =>
    refine core (fun b => if b = a then some (.frz { cls := .type "list", data := .seq vs.toArray } (.lst (ns.map V.int))) else if b ∈ cs.map (·.2) then some (.tbl #[]) else none) (fun p hp => (if_neg (show ¬ p.2 = a from fun z => aT (by rw [← z]; exact memT p hp))).trans (if_pos (memT p hp))) (fun b => ?_)
      (.inl (.inr ⟨{ cls := .type "list", data := .seq vs.toArray }, if_pos rfl⟩)) (fun b u z => ?_) (fun b z => ?_) fun _ => hk
    · by_cases hb : b = a
      · exact .inr (.inr ⟨_, _, if_pos hb⟩)
      · by_cases hb2 : b ∈ cs.map (·.2)
        · exact .inr (.inl hb2)
        · exact .inl ((if_neg hb).trans (if_neg hb2))
    · by_cases hb : b = a
      · cases (if_pos hb).symm.trans z
        rw [hb]
        exact ⟨ha, by rw [List.length_map]; exact hl2, vs, _, rv, ha⟩
      · have z1 := (if_neg hb).symm.trans z
        by_cases hb2 : b ∈ cs.map (·.2)
        · cases (if_pos hb2).symm.trans z1
          exact tabAt b hb2
        · cases (if_neg hb2).symm.trans z1
    · by_cases hb : b = a
      · exact .inl hb
      · by_cases hb2 : b ∈ cs.map (·.2)
        · exact .inr hb2
        · exact absurd ((if_neg hb).trans (if_neg hb2)) z
/-- what the walk wants of the law -/
theorem walk_end {l : PySem.W.OpenLaw} {k : Nat} {q : Program} {loose : List Str} {XP : (Str → Option Value) → Heap → Prop} {YP : World → Heap → Prop} {d : DefRec} {x : Str} (hn : l.most = some 63) (hdf : d.params.defaults = []) (hr : Rm k callerA)
    (F : ∀ (w : World) (mg : Str → Option Value) (fa : Addr) (h : Heap), YP w h → h.Ns mainGlobals mg → mg d.name = some (.ref fa) →
      ∃ (K : PySem.W.Frag) (fd : FuncData) (cs : List (Addr × Addr)) (T : List (Addr × Str)), K.In h ∧ (∀ p ∈ cs, h.get? p.2 = some { cls := .none, data := .fields #[] }) ∧ (∀ p ∈ cs, K.lookup p.2 = none) ∧ (∀ p ∈ cs, PySem.W.CodeHd h p.1 p.2) ∧ (∀ q ∈ T, ∃ p ∈ cs, p.2 = q.1) ∧
        (∀ (s : Shared) (u : Value), BindsTo s fd ⟨[u], []⟩ [(x, u)]) ∧ ∀ base : Heap, K.In base → base.Ns mainGlobals mg → (∀ p ∈ cs, TabB base mg p.1 p.2) → FnG l.prog w K mg base k fa fd [x] (spLaw K T)) :
    PySem.W.WalkO q loose XP YP l.row.toRowW d [] (fun f vs => PySem.call f vs) := by
  refine Att.attach_call hn hdf fun w s₀ s₁ mg mb fa o pm cd doc a vs ns G Y ho hd hcd hmg hobj hints hlen hg => ?_
  obtain ⟨K, fd, cs, T, KX, hT, nT, C, hTc, hb, hF⟩ := F w mg fa _ Y G.T.g hmg
  exact law_run KX G.T.g G.T.b G.T.builtins G.T.nolimit hg hT nT C hTc G.T.bmain hobj hints hlen hr hF hb
end DL

namespace DL
open PySem PySem.Spec L2 He
open PyProof.Rows hiding St
/-! ### facts of the module, asked by the head -/
section
variable {K : PySem.W.Frag}
def ownB (x : Str) (K : PySem.W.Frag) : Bool := (Fa.cls x).ok K && (eqO (PySem.W.findIn K (.ref (ga K x)) "__class__") (some (some (.builtin "object.__class__"))) && (eqO (PySem.W.specialIn K (.builtin "object.__class__") "__get__") (some (some (.builtin "getset_descriptor.__get__"))) &&
  (decide (PySem.W.takesIn K (.builtin "object.__class__") = some true) && decide (PySem.W.mroIn K (ga K x) (.type "object") = some true))))
theorem ownB_ok {x : Str} (h : ownB x K = true) : OwnC K (ga K x) := by
  obtain ⟨h1, h⟩ := He.ba h
  obtain ⟨h2, h⟩ := He.ba h
  obtain ⟨h3, h⟩ := He.ba h
  obtain ⟨h4, h5⟩ := He.ba h
  exact ⟨cls_ok h1, eqO_ok h2, eqO_ok h3, of_decide_eq_true h4, of_decide_eq_true h5⟩
def excCB (x : Str) (K : PySem.W.Frag) : Bool := eqO (PySem.W.findIn K (.ref (ga K x)) "__getattribute__") (some (some (.builtin "BaseException.__getattribute__"))) && (eqO (PySem.W.findIn K (.ref (ga K x)) "__getattr__") (some none) && (decide (PySem.W.subIn K (.ref (ga K x)) (.type "BaseException") = some true) &&
  (PySem.W.hasDictIn K (ga K x) && (eqO (PySem.W.findIn K (.ref (ga K x)) "__class__") (some (some (.builtin "object.__class__"))) && (eqO (PySem.W.specialIn K (.builtin "object.__class__") "__get__") (some (some (.builtin "getset_descriptor.__get__"))) &&
  (decide (PySem.W.takesIn K (.builtin "object.__class__") = some true) && decide (PySem.W.mroIn K (ga K x) (.type "object") = some true)))))))
theorem excCB_ok {x : Str} (h : excCB x K = true) : ExcC K (ga K x) := by
  obtain ⟨h1, h⟩ := He.ba h
  obtain ⟨h2, h⟩ := He.ba h
  obtain ⟨h3, h⟩ := He.ba h
  obtain ⟨h4, h⟩ := He.ba h
  obtain ⟨h5, h⟩ := He.ba h
  obtain ⟨h6, h⟩ := He.ba h
  obtain ⟨h7, h8⟩ := He.ba h
  exact ⟨eqO_ok h1, eqO_ok h2, of_decide_eq_true h3, h4, eqO_ok h5, eqO_ok h6, of_decide_eq_true h7, of_decide_eq_true h8⟩
def kitB1 (a b : Tq) (r : Bool) (K : PySem.W.Frag) : Bool := decide (PySem.W.kitOne K (a.v K) (b.v K) = some r)
def isaB (J : Isa) (K : PySem.W.Frag) : Bool := (J.obs.all fun x => ownB x K) && ((J.excs.all fun x => excCB x K) && J.tab.all fun e => kitB1 e.1.1 e.1.2 e.2 K)
theorem isaB_ok {J : Isa} (h : isaB J K = true) : IsaOk K J := by
  obtain ⟨h1, h⟩ := He.ba h
  obtain ⟨h2, h3⟩ := He.ba h
  exact ⟨fun c hc => ownB_ok (List.all_eq_true.mp h1 c hc), fun c hc => excCB_ok (List.all_eq_true.mp h2 c hc), fun e he => of_decide_eq_true (List.all_eq_true.mp h3 e he)⟩
def fldB (x f : Str) (K : PySem.W.Frag) : Bool := (Fa.cls x).ok K && (Fa.noat x f).ok K
def xfldB (x f : Str) (K : PySem.W.Frag) : Bool := xfB K (ga K x) && (Fa.noat x f).ok K
def propB (x f : Str) (K : PySem.W.Frag) : Bool := eqO (PySem.W.findIn K (.ref (ga K x)) f) (some (some (.ref (ma K (ga K x) f)))) && (eqO (PySem.W.specialIn K (.ref (ma K (ga K x) f)) "__get__") (some (some (.builtin "property.__get__"))) && (decide (PySem.W.takesIn K (.ref (ma K (ga K x) f)) = some true) &&
  (match PySem.W.recIn K (ma K (ga K x) f) "property" with
    | some (.ref _ :: _) => true
    | _ => false)))
theorem propB_ok {x f : Str} (h : propB x f K = true) : PropOf K (ga K x) f (ma K (ga K x) f) ((Wh.get x f).ad K) := by
  obtain ⟨h1, h⟩ := He.ba h
  obtain ⟨h2, h⟩ := He.ba h
  obtain ⟨h3, h4⟩ := He.ba h
  refine ⟨eqO_ok h1, eqO_ok h2, of_decide_eq_true h3, ?_⟩
  cases q : PySem.W.recIn K (ma K (ga K x) f) "property" with
  | none => rw [q] at h4; cases h4
  | some l =>
    rw [q] at h4
    have e : (Wh.get x f).ad K = match (some l : Option (List Value)) with
      | some (.ref g :: _) => g
      | _ => 0 := by
      show (match PySem.W.recIn K (ma K (ga K x) f) "property" with
        | some (.ref g :: _) => g
        | _ => 0) = _
      rw [q]
    rw [e]
    cases l with
    | nil => cases h4
    | cons v r => cases v <;> first | exact ⟨r, rfl⟩ | cases h4
theorem getK_of {x f g : Str} {d : FnA} {N : List Str} {p1 p2 p3 : Pos} (h : propB x f K = true) (e : fnO K (d.at_.ad K) = d.val) (c : d.ok K = true) (ha : d.at_ = .get x f) (hc : d.clo = []) (hb : d.body = [.Return (some (.Attribute (.Name "self" p1) g p2)) p3]) (S : FnScope N ["self"] d.scope) (hN : N[0]? = some ("self" : Str))
    (bd : ∀ (dV kV doc pm : Value) (an : Option Addr) (cdv ct : Value) (u : Value), bindArgs (PySem.W.fnOf d.name d.qual d.params d.body d.scope .none kV doc pm an cdv ct) ⟨[u], []⟩ = pure [(("self" : Str), u)]) : GetK K (ga K x) f g := by
  obtain ⟨kp, oc, od, cl, kV, doc, pm, cdv, ct, an, osl, lk, hcd, hcl⟩ := FnA.obj e c
  rw [hc] at hcl
  have : cl = [] := List.map_eq_nil_iff.mp hcl
  subst this
  refine ⟨ma K (ga K x) f, d.at_.ad K, d.name, d.qual, d.params, d.scope, .none, kV, doc, pm, cdv, ct, oc, an, od, osl, N, p1, p2, p3, by rw [ha]; exact propB_ok h, by rw [← hb]; exact lk, hcd, S, hN, fun s us hl => ?_⟩
  match us, hl with
  | [u], _ => exact BindsTo.of_eq (by rw [← hb]; exact bd .none kV doc pm an cdv ct u)
def mkB (x : Str) (K : PySem.W.Frag) : Bool := (Fa.glo x).ok K && (Fa.mkr x).ok K
def eqB (x : Str) (K : PySem.W.Frag) : Bool := eqO (PySem.W.findIn K (.ref (ga K x)) "__eq__") (some (some (.ref ((Wh.meth x "__eq__").ad K)))) && (PySem.W.isFn K (.ref ((Wh.meth x "__eq__").ad K)) && (eqO (PySem.W.findIn K (.ref (ga K x)) "__ne__") (some (some (.builtin "object.__ne__"))) && decide (PySem.W.mroIn K (ga K x) (.type "object") = some true)))
/-- a class of exceptions with super().__init__(..) -/
def suB (fileS : Str) (x fld : Str) (K : PySem.W.Frag) : Bool :=
  (match K.lookup ((Wh.meth x "__init__").ad K) with
    | some ⟨_, _, .func fd, _⟩ => (match fd.closure with
      | [(_, cc)] => (match K.lookup cc with
        | some ⟨_, _, .cell (some (.ref C')), _⟩ => decide (C' = ga K x)
        | _ => false)
      | _ => false) && (match fd.code with
      | .ref cda => (match K.lookup cda with
        | some ⟨_, _, .fields vs, _⟩ => (match (vs[2]? : Option Value) with
          | some (.str fl _) => fileS == fl
          | _ => false)
        | _ => false)
      | _ => false)
    | _ => false) && ((match PySem.W.clsIn K (ga K x) with
    | some cd => HandSPX.refsVE cd.mro && cd.hasDict
    | none => false) && (decide (PySem.W.mroIn K (ga K x) (.ref (ga K x)) = some true) && (eqO (PySem.W.nsIn K cStatics "thirdparty.any") (some none) && (eqO (PySem.W.ks_superIn K (ga K x) (ga K x) "__init__") (some (some (.builtin "ValueError.__init__"))) &&
    (decide (PySem.W.subIn K (.ref (ga K x)) (.type "ValueError") = some true) && (PySem.W.excInitIn K (ga K x) [.type "ValueError", .type "Exception", .type "BaseException", .type "object"] "ValueError.__new__" && (eqO (PySem.W.findIn K (.ref (ga K x)) "__setattr__") (some (some (.builtin "object.__setattr__"))) &&
    (eqO (PySem.W.findIn K (.ref (ga K x)) fld) (some none) && (eqO (PySem.W.findIn K (.ref (ga K x)) "__init__") (some (some (.ref ((Wh.meth x "__init__").ad K)))) && (decide (PySem.W.typeIn K (.ref ((Wh.meth x "__init__").ad K)) = some (.type "function")) && (PySem.W.keepIn K (.ref (ga K x)) &&
    (decide (PySem.W.subIn K (.ref (ga K x)) (.type "BaseException") = some true) && decide (PySem.W.typeIn K (.ref (ga K x)) = some (.type "type"))))))))))))))
theorem suB_ok {P : Program} {b : SuB} {x : Str} {d : FnA} {ar : Arg} (h : suB P.main.file x b.fld K = true) (e : fnO K (d.at_.ad K) = d.val) (c : d.ok K = true) (ha : d.at_ = .meth x "__init__") (hc : d.clo = [("__class__" : Str)]) (hb : d.body = b.body)
    (s1 : ∀ y ∈ d.scope.names, y.2 ≠ .cell) (s2 : d.scope.isCoroutine = false) (s3 : d.scope.isGenerator = false) (s4 : d.scope.kind = .function) (s5 : d.scope.names.lookup ("super" : Str) = some .globalImplicit) (s6 : d.scope.names.lookup ("__class__" : Str) = some .free) (s7 : d.scope.names.lookup ("self" : Str) = some .local) (s8 : d.scope.names.lookup b.par = some .local)
    (a1 : (d.params.posonlyargs ++ d.params.args).head? = some ar) (a2 : ar.arg = "self") (ht : (P.main.scope.names.lookup ("super" : Str)).isSome = false) (pne : b.par ≠ "self") (hdb : (b.par == ("__debug__" : Str)) = false) (ev : ∃ pl, b.Ev pl)
    (bd : ∀ (cl : List (Str × Addr)) (kV doc pm : Value) (an : Option Addr) (cdv ct : Value) (u v : Value), bindArgs (PySem.W.fnX d.name d.qual d.params d.body d.scope cl .none kV doc pm an cdv ct) ⟨[u, v], []⟩ = pure [(("self" : Str), u), (b.par, v)]) : ∃ fd, SuK P K b (ga K x) (d.at_.ad K) fd := by
  obtain ⟨h0, h⟩ := He.ba h
  obtain ⟨h1, h⟩ := He.ba h
  obtain ⟨h2, h⟩ := He.ba h
  obtain ⟨h3, h⟩ := He.ba h
  obtain ⟨h4, h⟩ := He.ba h
  obtain ⟨h5, h⟩ := He.ba h
  obtain ⟨h6, h⟩ := He.ba h
  obtain ⟨h7, h⟩ := He.ba h
  obtain ⟨h8, h⟩ := He.ba h
  obtain ⟨h9, h⟩ := He.ba h
  obtain ⟨h10, h⟩ := He.ba h
  obtain ⟨h11, h⟩ := He.ba h
  obtain ⟨h12, h13⟩ := He.ba h
  obtain ⟨kp, oc, od, cl, kV, doc, pm, cdv, ct, an, osl, lk, hcd, hcl⟩ := FnA.obj e c
  rw [← ha, lk] at h0
  rw [hc] at hcl
  obtain ⟨cc, rfl⟩ : ∃ cc, cl = [(("__class__" : Str), cc)] := by
    cases cl with
    | nil => cases hcl
    | cons p r =>
      cases r with
      | cons _ _ => exact absurd (congrArg List.length hcl) (by simp)
      | nil =>
        obtain ⟨n, cc⟩ := p
        simp only [List.map_cons, List.map_nil, List.cons.injEq, and_true] at hcl
        exact ⟨cc, by rw [hcl]⟩
  obtain ⟨z1, z2⟩ := He.ba h0
  obtain ⟨cl0, cld, csl, hcel⟩ : ∃ cl0 cld csl, K.lookup cc = some ⟨cl0, cld, .cell (some (.ref (ga K x))), csl⟩ := by
    have z1 : (match K.lookup cc with
        | some ⟨_, _, .cell (some (.ref C')), _⟩ => decide (C' = ga K x)
        | _ => false) = true := z1
    split at z1
    · rename_i q
      rw [of_decide_eq_true z1] at q
      exact ⟨_, _, _, q⟩
    · cases z1
  obtain ⟨cda, rfl⟩ := codeIn_ref hcd
  obtain ⟨ccl, cdd, vs, ccs, file, tf, hcode, hvs, hfile⟩ : ∃ ccl cdd vs ccs file tf, K.lookup cda = some ⟨ccl, cdd, .fields vs, ccs⟩ ∧ vs[2]? = some (.str file tf) ∧ (P.main.file == file) = true := by
    have z2 : (match K.lookup cda with
        | some ⟨_, _, .fields vs, _⟩ => (match (vs[2]? : Option Value) with
          | some (.str fl _) => P.main.file == fl
          | _ => false)
        | _ => false) = true := z2
    split at z2
    · rename_i q
      split at z2
      · rename_i q2
        exact ⟨_, _, _, _, _, _, q, q2, z2⟩
      · cases z2
    · cases z2
  obtain ⟨cd, hC, hm, hd⟩ : ∃ cd, PySem.W.clsIn K (ga K x) = some cd ∧ HandSPX.refsVE cd.mro = true ∧ cd.hasDict = true := by
    cases q : PySem.W.clsIn K (ga K x) with
    | none => rw [q] at h1; cases h1
    | some cd => rw [q] at h1; obtain ⟨a, b⟩ := He.ba h1; exact ⟨cd, rfl, a, b⟩
  refine ⟨_, ⟨⟨d.name, d.qual, d.params, d.scope, .none, kV, doc, pm, ct, oc, ccl, cl0, an, od, cdd, cld, osl, ccs, csl, cc, cda, ar, vs, file, tf, cd, rfl, by rw [← hb]; exact lk, hcd, s1, s2, s3, s4, s5, s6, s7, s8, a1, a2, hcode, hvs, hfile, ht, hcel, hC, hm, hd, of_decide_eq_true h2, eqO_ok h3⟩,
    eqO_ok h4, of_decide_eq_true h5, h6, eqO_ok h7, eqO_ok h8, pne, eqO_ok (by rw [ha]; exact h9), of_decide_eq_true (by rw [ha]; exact h10), h11, of_decide_eq_true h12, of_decide_eq_true h13, hdb, ev, fun s us hl => ?_⟩⟩
  match us, hl with
  | [u, v], _ => exact BindsTo.of_eq (by rw [← hb]; exact bd _ kV doc pm an (.ref cda) ct u v)
end
end DL

namespace DL
open PySem PySem.Spec L2
open PyProof.Rows hiding St
section
variable {K : PySem.W.Frag} {B : Base} {n : Nat} {X : Cx} {a b c : Expr} {ta tb tc : TDX} {pos : Pos}
/-! ### a op b op c -/
def dChain (r1 r2 : D → D → (D → Prop) → Prop) (ta tb tc : TDX) : TDX := fun rx δ P => ta rx δ fun x δ1 => tb rx δ1 fun y δ2 => r1 x y fun z => match z with
  | .bl true => tc rx δ2 fun w δ3 => r2 y w fun u => P u δ3
  | .bl false => P (.bl false) δ2
  | _ => False
theorem lift_chain {r r' : R2} {rD rD' : D → D → (D → Prop) → Prop} (L : Lift2 K r rD) (L' : Lift2 K r' rD') {rx : D → Prop} {σ : L2.St} {H : Hp} {Q : VK} (h : liftE K B n (dChain rD rD' ta tb tc rx) σ H Q) :
    tChain r r' (liftE K B n (ta rx)) (liftE K B n (tb rx)) (liftE K B n (tc rx)) σ H Q := by
  obtain ⟨g, δ, P, S, q, k⟩ := h
  exact ⟨g, δ, _, S, q, fun d1 δ1 g1 H1 v1 h1 st1 S1 D1 => ⟨g1, δ1, _, S1, h1, fun d2 δ2 g2 H2 v2 h2 st2 S2 D2 =>
    L B n g2 H2 σ δ2 v1 v2 d1 d2 _ _ S2 (D1.step st2) D2 h2 fun d3 g3 H3 v3 h3 st3 S3 D3 => by
      cases D3 with
      | bl b => cases b with
        | false => exact ⟨false, rfl, iteF (k _ δ2 g3 H3 _ h3 ((st1.trans st2).trans st3) S3 (.bl false))⟩
        | true => exact ⟨true, rfl, iteT ⟨g3, δ2, _, S3, h3, fun d4 δ4 g4 H4 v4 h4 st4 S4 D4 => L' B n g4 H4 σ δ4 v2 v4 d2 d4 _ Q S4 ((D2.step st3).step st4) D4 h4 fun d5 g5 H5 v5 h5 st5 S5 D5 => k d5 δ4 g5 H5 v5 h5 ((((st1.trans st2).trans st3).trans st4).trans st5) S5 D5⟩⟩
      | _ => exact h3.elim⟩⟩
variable {op op' : CmpOp} {r r' : R2} {rD rD' : D → D → (D → Prop) → Prop}
theorem de_chain (ho : OpR X (compareOp op) r) (L : Lift2 X.K r rD) (ho' : OpR X (compareOp op') r') (L' : Lift2 X.K r' rD') (ha : DE X B a ta) (hb : DE X B b tb) (hc : DE X B c tc) (hm : lastMarks [op, op'] [b, c] = false := by with_unfolding_all rfl) :
    DE X B (.Compare a [op, op'] [b, c] pos) (dChain rD rD' ta tb tc) := ⟨fun rx tk => PE.imp (pe_chain ho ho' (ha.run rx tk) (hb.run rx tk) (hc.run rx tk) hm) fun _ _ _ _ h => lift_chain L L' h⟩
theorem dt_chain (ho : OpR X (compareOp op) r) (L : Lift2 X.K r rD) (ho' : OpR X (compareOp op') r') (L' : Lift2 X.K r' rD') (ha : DE X B a ta) (hb : DE X B b tb) (hc : DE X B c tc) (hm : lastMarks [op, op'] [b, c] = false := by with_unfolding_all rfl) :
    DT X B (.Compare a [op, op'] [b, c] pos) (dTest (dChain rD rD' ta tb tc)) := ⟨fun rx tk => PT.imp (pt_chain ho ho' (ha.run rx tk) (hb.run rx tk) (hc.run rx tk) hm) fun σ H Q _ h => lift_chain (Q := fun x H' => ∃ k, x = .bl k ∧ Q k H') L L' (lift_test (te := dChain rD rD' ta tb tc) h)⟩
/-! ### own == as a test -/
variable {J : Isa} {eqs : List (Str × SpD)} {k : Nat}
theorem dt_eqA (E : EqsOk X.prog X.w X.K X.mg X.base B.T J eqs k) (hr : Rm (k + 1) X.A) (ha : DE X B a ta) (hb : DE X B b tb) (hm : behindInMarks .Eq b = false := by rfl) : DT X B (.Compare a [.Eq] [b] pos) (dTest (dEqA J eqs false ta tb)) :=
  ⟨fun rx tk => PT.imp (pt_cmpR ((op_eqD hr.u64).or (op_eqO tk)) (ha.run rx tk) (hb.run rx tk) hm) fun σ H Q _ h => lift_eqA E hr (neg := false) (Q := fun x H' => ∃ k, x = .bl k ∧ Q k H') (by simpa using l_eq) (lift_test (te := dEqA J eqs false ta tb) h)⟩
theorem dt_neA (E : EqsOk X.prog X.w X.K X.mg X.base B.T J eqs k) (hr : Rm (k + 1) X.A) (ha : DE X B a ta) (hb : DE X B b tb) (hm : behindInMarks .NotEq b = false := by rfl) : DT X B (.Compare a [.NotEq] [b] pos) (dTest (dEqA J eqs true ta tb)) :=
  ⟨fun rx tk => PT.imp (pt_cmpR ((op_neD hr.u64).or (op_neO tk)) (ha.run rx tk) (hb.run rx tk) hm) fun σ H Q _ h => lift_eqA E hr (neg := true) (Q := fun x H' => ∃ k, x = .bl k ∧ Q k H') (by simpa using l_ne) (lift_test (te := dEqA J eqs true ta tb) h)⟩
/-! ### an own list read at a place that a name tells -/
def dIxO (i j : Nat) : TDX := fun _ δ P => match δ[i]?, δ[j]? with
  | some (some (.ol ds)), some (some (.sh (.int k))) => ∃ d, atI ds k = some d ∧ P d δ
  | _, _ => False
theorem de_ixO {x y : Str} {p1 p2 : Pos} {i j : Nat} (hu : X.A.units + 1 < cLine) (hx : PE X (.Name x p1) (tVar i)) (hy : PE X (.Name y p2) (tVar j)) (hs : PlainIx (.Name y p2) := by intro _ _; rfl) : DE X B (.Subscript (.Name x p1) (.Name y p2) pos) (dIxO i j) :=
  ⟨fun rx tk => PE.imp (pe_ix (ix_all hu) hx hy hs) fun σ H Q hl ⟨g, δ, P, S, q, k⟩ => by
    unfold dIxO at q
    cases e1 : δ[i]? with
    | none => rw [e1] at q; exact q.elim
    | some o1 =>
      cases o1 with
      | none => rw [e1] at q; exact q.elim
      | some s1 =>
        cases s1 with
        | ol ds =>
          cases e2 : δ[j]? with
          | none => rw [e1, e2] at q; exact q.elim
          | some o2 =>
            cases o2 with
            | none => rw [e1, e2] at q; exact q.elim
            | some s2 =>
              cases s2 with
              | sh d2 =>
                cases d2 with
                | int m =>
                  rw [e1, e2] at q
                  obtain ⟨d, h1, h2⟩ := q
                  obtain ⟨ad, xs, a1, a2, a3, rr⟩ := S.env i _ e1
                  obtain ⟨v2, b1, b2⟩ := S.env j _ e2
                  cases b2
                  obtain ⟨v, ev, dv⟩ := atI_rel rr h1
                  exact ⟨.ref ad, a1, .int m, b1, .inr (.inl ⟨ad, xs, m, v, rfl, rfl, .of a3, ev, k _ _ g H v h2 (Step.refl _ _ _) S dv⟩)⟩
                | _ => rw [e1, e2] at q; exact q.elim
              | _ => rw [e1, e2] at q; exact q.elim
        | _ => rw [e1] at q; exact q.elim⟩
end
/-! ### a def that hands over a new list -/
section
abbrev SpF := List D → (List D → Prop) → (D → Prop) → Prop
def FrOk (K : PySem.W.Frag) (H F' : Hp) (W' : DW) (H' : Hp) (v : V) (rs : List D) : Prop := ∃ a xs, v = .ref a ∧ H a = none ∧ F' a = none ∧ ¬ has W' a ∧ H' a = some (.lst xs) ∧ Dens K W' F' xs rs
def liftSpF (K : PySem.W.Frag) (T : List (Addr × Str)) (m : Nat) (wp : SpF) : Sp := fun vs H Q E => ∃ F W ds P RX, Gd T F H W ∧ Dens K W F vs ds ∧ ds.length = m ∧ wp ds P RX ∧
  (∀ rs v F' W' H', P rs → Ret ⟨F, H, W, T⟩ F' H' W' → FrOk K H F' W' H' v rs → Q v H') ∧ ∀ cls dd H', liftX K ⟨F, H, W, T⟩ RX cls dd H' → E cls dd H'
def onOl (Q : List D → Prop) : Sl → Prop
  | .ol rs => Q rs
  | _ => False
def dFresh (m : Nat) (t1 : TDS) (te : TDF) : SpF := fun ds Q E => t1 E { nx := fun δ => te E δ fun s _ => onOl Q s, rt := fun _ => False } (envOfArgs m ds)
variable {P : Program} {w : World} {K : PySem.W.Frag} {mg : Str → Option Value} {base : Heap} {T : List (Addr × Str)}
theorem fnF_ok {x qual : Str} {params : Arguments} {st1 : Stmt} {e : Expr} {p : Pos} {scope : Scope} {f : Addr} {fd : FuncData} {N ps : List Str} {k : Nat} {t1 : TDS} {te : TDF} (F : FunD K x qual params [st1, .Return (some e) p] scope [] [] f fd) (S : FnScope N ps scope)
    (h1 : ∀ (cdv : Value) (A : Around) (outer : List PySem.Env) (s : Shared) (H : Hp) (E : XK) (B : Base), B.T = T → Rm k (A.deeper (envOfC qual scope s.heap.objs.size f cdv)) → DS (cxOf (L2.CX P w) P w K mg base N qual scope f cdv A outer s H E) B st1 t1)
    (h2 : ∀ (cdv : Value) (A : Around) (outer : List PySem.Env) (s : Shared) (H : Hp) (E : XK) (B : Base), B.T = T → Rm k (A.deeper (envOfC qual scope s.heap.objs.size f cdv)) → DF (cxOf (L2.CX P w) P w K mg base N qual scope f cdv A outer s H E) B e te) :
    FnG P w K mg base (k + 1) f fd ps (liftSpF K T ps.length (dFresh N.length t1 te)) := by
  refine ⟨fun vs H Q E ⟨F, W, ds, P, RX, _, r, hl, _⟩ => r.length.trans hl, fun A outer s H args us vs Q E hr e0 hb r h => ?_⟩
  obtain ⟨F0, W, ds, P', RX, gd, rd, hl, hw, k1, k2⟩ := h
  refine run_def F S hr e0 hb r (rd.length.trans hl) fun cdv hcd hr' => ?_
  have tk := takes_of (X := cxOf (L2.CX P w) P w K mg base N qual scope f cdv A outer s H E) (E := E) rfl rfl rfl rfl
  have tk' := tk.imp fun c d σ H' hx => k2 c d H' hx
  have q1 := (h1 cdv A outer s H E ⟨F0, H, W, T⟩ rfl hr').run RX tk'
  have q2 := (h2 cdv A outer s H E ⟨F0, H, W, T⟩ rfl hr').run RX tk'
  refine ⟨_, pss_cons q1 (pss_one (ps_ret q2)), ?_⟩
  refine ⟨_, _, { nx := fun δ => te RX δ fun s _ => onOl P' s, rt := fun _ => False }, stt_start gd rd, hw, fun σ1 δ1 g1 H1 hn st1 S1 => ?_, fun _ _ _ _ _ h => h.elim, fun _ _ _ _ h => h.elim, fun _ _ _ _ h => h.elim⟩
  refine ⟨g1, δ1, _, S1, hn, fun s2 δ2 g2 H2 v hs st2 S2 it => ?_⟩
  cases s2 with
  | ol rs =>
    obtain ⟨a, xs, rfl, gO, o2, e2, rr⟩ := it
    obtain ⟨c1, c2, _, c4⟩ := S2.own a _ o2
    exact k1 rs _ _ _ _ hs S2.ret ⟨a, xs, rfl, c1, c2, c4, e2, rr⟩
  | _ => exact hs.elim
structure FnF (P : Program) (w : World) (K : PySem.W.Frag) (mg : Str → Option Value) (base : Heap) (T : List (Addr × Str)) (x : Str) (k : Nat) (ps : List Str) (wp : SpF) : Prop where
  ex : ∃ (f : Addr) (fd : FuncData), mg x = some (.ref f) ∧ PySem.W.keepIn K (.ref f) = true ∧ (∀ (s : Shared) (us : List Value), us.length = ps.length → BindsTo s fd ⟨us, []⟩ (ps.zip us)) ∧ FnG P w K mg base k f fd ps (liftSpF K T ps.length wp)
variable {X : Cx} {B : Base} {k j : Nat} {ps : List Str} {wp : SpF} {x : Str} {p pos apos cpos p2 : Pos} {e : Expr} {es : List Expr} {t : TDA}
theorem pe_freshC {rx : D → Prop} (G : FnF X.prog X.w X.K X.mg X.base B.T x k ps wp) (hr : Rm k X.A) (hg : Gl X x) (ha : DA X B (e :: es) t) (tk : Takes X (XW (liftX X.K B rx))) (hdb : (x == ("__debug__" : Str)) = false := by decide)
    (he : starEach (e :: es) X.env = (false, eval e X.env) :: starEach es X.env := by rfl) (hpl : (backTo pos (starEach es X.env)).any (·.1) = false := by rfl) :
    PE X (.Call (.Name x p) (e :: es) [] pos) (fun σ H Q => liftA X.K B X.N.length (t rx) σ H (fun vs H1 => vs.length = ps.length ∧ liftSpF X.K B.T ps.length wp vs H1 Q (liftX X.K B rx))) := by
  obtain ⟨f, fd, hm, hk, hb, F⟩ := G.ex
  refine ⟨fun pins s σ H Q I h2 => ?_⟩
  refine wpAny_Call_Name_kw (ld_glob I hg hm ?_ hdb)
  refine PySem.W.callWith_K (h₀ := X.base) I.ok.mod.kin hk (thn ((ha.run rx tk).run pos pins s σ H _ I h2) fun us s1 ⟨vs, H1, I1, r, q1, q2⟩ => ⟨I1.kIn, ?_⟩) he hpl
  exact run_g F hr (hb s1 us (by rw [← r.length, q1])) (passes_lift tk) I1 r q2
def dAppN (wp : SpF) (m : Nat) (t : TDA) : TDX := fun rx δ P => t rx δ fun ds δ1 => ds.length = m ∧ wp ds (fun rs => rs.length < sizeLine ∧ P .non δ1) rx
theorem de_appN (G : FnF X.prog X.w X.K X.mg X.base B.T x k ps wp) (hr : Rm k X.A) (hg : Gl X x) (ha : DA X B (e :: es) t) (hdb : (x == ("__debug__" : Str)) = false := by decide)
    (he : starEach (e :: es) X.env = (false, eval e X.env) :: starEach es X.env := by rfl) (hpl : (backTo pos (starEach es X.env)).any (·.1) = false := by rfl)
    (hbase : attributeBase (.Call (.Name x p) (e :: es) [] pos) "append" X.env (eval (.Call (.Name x p) (e :: es) [] pos) X.env) = eval (.Call (.Name x p) (e :: es) [] pos) X.env := by rfl)
    (hline : (apos.endLine == cpos.line) = true := by rfl) :
    DE X B (.Call (.Attribute (.Call (.Name x p) (e :: es) [] pos) "append" apos) [.Constant .none j p2] [] cpos) (dAppN wp ps.length t) :=
  ⟨fun rx tk => PE.imp (pe_bm PySem.F.plainAttrs_list PySem.F.slot_list_append PySem.F.type_list_append mt_append (pe_freshC G hr hg ha tk hdb he hpl) (pa_cons pe_non pa_nil) hbase (by rfl) hline) fun σ H Q hl ⟨g, δ, P, S, q, k⟩ => ⟨g, δ, _, S, q, fun ds δ1 g1 H1 vs h1 st1 S1 D1 => by
    obtain ⟨hl', hw⟩ := h1
    refine ⟨by rw [D1.length]; exact hl', g1.F, g1.W, ds, _, rx, S1.ret.gd, D1, hl', hw, fun rs v F' W' H' hzp rt fr => ?_, fun cls dd H' hx => liftX.trans S1.ret hx⟩
    obtain ⟨hz, hp⟩ := hzp
    obtain ⟨a, xs, rfl, a1, a2, a3, a4, rr⟩ := fr
    obtain ⟨S2, st2⟩ := S1.after (n := X.N.length) rt
    have h0 : B.H a = none := by
      cases z : B.H a with
      | none => rfl
      | some o => exact absurd a1 (S1.ret.there a (by rw [z]; simp))
    have hO : g1.O a = none := own_none S1 a1
    have S3 := S2.adopt (k := X.N.length + a) h0 a2 hO ⟨_, a4, trivial⟩ a3
    obtain ⟨S4, hne⟩ := S3.writeX (o' := .lst (xs ++ [.non])) hl (if_pos rfl) (Nat.le_add_right _ _) a4 trivial trivial
    refine ⟨?_, a, xs, .non, rfl, rfl, a4, by rw [rr.length]; exact hz, k _ δ1 { F := F', O := fun b => if b = a then some (X.N.length + a) else g1.O b, W := W' } _ _ hp (st1.trans ⟨st2.up, st2.wle, fun b hb => ?_, fun b k' e hk => ?_⟩) S4 .non⟩
    · exact .inl ⟨rfl, xs, .of a4⟩
    · by_cases q : b = a
      · rw [q, upd_same]; simp
      · rw [hne b q]; exact st2.thr b hb
    · have nb : b ≠ a := fun q => by rw [q, hO] at e; cases e
      obtain ⟨e1, e2⟩ := st2.ext b k' e hk
      exact ⟨by show (if b = a then _ else _) = _; rw [if_neg nb]; exact e1, by rw [hne b nb]; exact e2⟩⟩⟩
end
end DL

namespace DL
open PySem PySem.Spec L2
open PyProof.Rows hiding St
/-! ### what is known of a law's module -/
structure LawC : Type where
  fns : List FnA
  glos : List Str
  frees : List Str
  nums : List (Str × Int)
  isas : Isa
  tab : AtTab
  mks : List Str
structure Zk (C : LawC) (K : PySem.W.Frag) (mg : Str → Option Value) : Prop where
  fn : ∀ d ∈ C.fns, fnO K (d.at_.ad K) = d.val ∧ d.ok K = true
  glo : ∀ x ∈ C.glos, mg x = some (.ref (He.ga K x))
  free : ∀ x ∈ C.frees, mg x = none
  num : ∀ p ∈ C.nums, ∃ t, mg p.1 = some (.int p.2 t)
  isa : IsaOk K C.isas
  ats : AtOk K C.tab
  mkr : ∀ x ∈ C.mks, Mk K (He.ga K x) ((Wh.meth x "__init__").ad K)
section
variable {C : LawC} {P : Program} {w : World} {K : PySem.W.Frag} {mg : Str → Option Value} {base : Heap} {T : List (Addr × Str)} {d : FnA}
theorem Zk.fd (Z : Zk C K mg) (i : Nat) (h : C.fns[i]? = some d) (hc : d.clo = []) : ∃ fd, FunD K d.name d.qual d.params d.body d.scope [] [] (d.at_.ad K) fd :=
  FnA.funD (Z.fn d (List.mem_of_getElem? h)).1 (Z.fn d (List.mem_of_getElem? h)).2 hc
theorem Zk.g (Z : Zk C K mg) (i : Nat) {x : Str} (h : C.glos[i]? = some x) : mg x = some (.ref (He.ga K x)) := Z.glo x (List.mem_of_getElem? h)
theorem Zk.f (Z : Zk C K mg) (i : Nat) {x : Str} (h : C.frees[i]? = some x) : mg x = none := Z.free x (List.mem_of_getElem? h)
theorem Zk.n (Z : Zk C K mg) (i : Nat) {x : Str} {v : Int} (h : C.nums[i]? = some (x, v)) : ∃ t, mg x = some (.int v t) := Z.num (x, v) (List.mem_of_getElem? h)
abbrev BindsD (d : FnA) (ps : List Str) : Prop := ∀ (kV doc pm : Value) (an : Option Addr) (cdv ct : Value) (us : List Value), us.length = ps.length → bindArgs (PySem.W.fnOf d.name d.qual d.params d.body d.scope .none kV doc pm an cdv ct) ⟨us, []⟩ = pure (ps.zip us)
theorem Zk.fnD (Z : Zk C K mg) {N ps : List Str} {k : Nat} {t : TDS} (i : Nat) (h : C.fns[i]? = some d) (hc : d.clo = []) (hat : d.at_ = .glo d.name) (hg : mg d.name = some (.ref (He.ga K d.name))) (S : FnScope N ps d.scope) (hb : BindsD d ps)
    (hbody : ∀ (cdv : Value) (A : Around) (outer : List PySem.Env) (s : Shared) (H : Hp) (E : XK) (B : Base), cdv = .ref (codeAt K (He.ga K d.name)) → B.T = T → Rm k (A.deeper (envOfC d.qual d.scope s.heap.objs.size (He.ga K d.name) cdv)) → DSs (cxOf (L2.CX P w) P w K mg base N d.qual d.scope (He.ga K d.name) cdv A outer s H E) B d.body t) :
    FnD P w K mg base T d.name (k + 1) ps (dBody N.length t) := by
  obtain ⟨fd, F⟩ := Z.fd i h hc
  rw [hat] at F
  exact fnD_of F hg (FunD.bindsA F hb) (fn_ok F S hbody)
/-- a way into a def's body, with a known T -/
theorem Zk.eqK (Z : Zk C K mg) {N ps : List Str} {k : Nat} {t : TDS} {c : Str} (i : Nat) (h : C.fns[i]? = some d) (hc : d.clo = []) (hat : d.at_ = .meth c "__eq__") (he : eqB c K = true) (S : FnScope N ps d.scope) (hps : ps.length = 2) (hb : BindsD d ps)
    (hbody : ∀ (cdv : Value) (A : Around) (outer : List PySem.Env) (s : Shared) (H : Hp) (E : XK) (B : Base), cdv = .ref (codeAt K ((Wh.meth c "__eq__").ad K)) → B.T = T → Rm k (A.deeper (envOfC d.qual d.scope s.heap.objs.size ((Wh.meth c "__eq__").ad K) cdv)) → DSs (cxOf (L2.CX P w) P w K mg base N d.qual d.scope ((Wh.meth c "__eq__").ad K) cdv A outer s H E) B d.body t) :
    EqK P w K mg base T c (k + 1) (dBody N.length t) := by
  obtain ⟨fd, F⟩ := Z.fd i h hc
  rw [hat] at F
  have G := fn_ok (P := P) (w := w) (mg := mg) (base := base) (T := T) F S hbody
  rw [hps] at G
  obtain ⟨h1, he⟩ := He.ba he
  obtain ⟨h2, he⟩ := He.ba he
  obtain ⟨h3, he⟩ := He.ba he
  exact ⟨_, fd, ps, He.eqO_ok h1, h2, He.eqO_ok h3, of_decide_eq_true he, fun s u v => FunD.bindsA F hb s [u, v] hps.symm, G⟩
theorem Zk.fnM (Z : Zk C K mg) {N ps : List Str} {k : Nat} {t : TDS} {c : Str} (i j j2 : Nat) (h : C.fns[i]? = some d) (hc : d.clo = []) (hat : d.at_ = .meth c "__init__") (hg : C.glos[j]? = some c) (hm : C.mks[j2]? = some c) (S : FnScope N ps d.scope) (hN : ps.length ≤ N.length) (hb : BindsD d ps)
    (hbody : ∀ (cdv : Value) (A : Around) (outer : List PySem.Env) (s : Shared) (H : Hp) (E : XK) (B : Base), B.T = T → Rm k (A.deeper (envOfC d.qual d.scope s.heap.objs.size ((Wh.meth c "__init__").ad K) cdv)) → DSs (cxOf (L2.CX P w) P w K mg base N d.qual d.scope ((Wh.meth c "__init__").ad K) cdv A outer s H E) B d.body t) :
    FnM P w K mg base T c (k + 1) ps (dInit c N.length t) := by
  obtain ⟨fd, F⟩ := Z.fd i h hc
  rw [hat] at F
  exact ⟨_, fd, Z.g j hg, Z.mkr c (List.mem_of_getElem? hm), FunD.bindsA F hb, fnI_ok F S hN hbody⟩
theorem Zk.fnF (Z : Zk C K mg) {N ps : List Str} {k : Nat} {st1 : Stmt} {e : Expr} {p : Pos} {t1 : TDS} {te : TDF} (i : Nat) (h : C.fns[i]? = some d) (hc : d.clo = []) (hat : d.at_ = .glo d.name) (hg : mg d.name = some (.ref (He.ga K d.name))) (S : FnScope N ps d.scope) (hb : BindsD d ps) (hbd : d.body = [st1, .Return (some e) p])
    (h1 : ∀ (cdv : Value) (A : Around) (outer : List PySem.Env) (s : Shared) (H : Hp) (E : XK) (B : Base), B.T = T → Rm k (A.deeper (envOfC d.qual d.scope s.heap.objs.size (He.ga K d.name) cdv)) → DS (cxOf (L2.CX P w) P w K mg base N d.qual d.scope (He.ga K d.name) cdv A outer s H E) B st1 t1)
    (h2 : ∀ (cdv : Value) (A : Around) (outer : List PySem.Env) (s : Shared) (H : Hp) (E : XK) (B : Base), B.T = T → Rm k (A.deeper (envOfC d.qual d.scope s.heap.objs.size (He.ga K d.name) cdv)) → DF (cxOf (L2.CX P w) P w K mg base N d.qual d.scope (He.ga K d.name) cdv A outer s H E) B e te) :
    FnF P w K mg base T d.name (k + 1) ps (dFresh N.length t1 te) := by
  obtain ⟨fd, F⟩ := Z.fd i h hc
  rw [hat] at F
  have F' := F
  rw [hbd] at F
  exact ⟨_, fd, hg, F.kp, FunD.bindsA F' hb, fnF_ok F S h1 h2⟩
theorem Zk.fnC (Z : Zk C K mg) {N : List Str} {a : Str} {kc k : Nat} {t : Addr → TL → TDS} (i : Nat) (h : C.fns[i]? = some d) (hc : d.clo = []) (hat : d.at_ = .glo d.name) (hg : mg d.name = some (.ref (He.ga K d.name))) (S : FnScope N [a] d.scope) (hb : BindsD d [a])
    (hbody : ∀ (fl : Addr) (tl : TL) (cdv : Value) (A : Around) (outer : List PySem.Env) (s : Shared) (H : Hp) (E : XK) (B : Base), B.T = T → B.H = H → CallD P w K mg base B.T kc s B.F B.H B.W fl tl → Rm k (A.deeper (envOfC d.qual d.scope s.heap.objs.size (He.ga K d.name) cdv)) →
      DSs (cxOf (L2.CX P w) P w K mg base N d.qual d.scope (He.ga K d.name) cdv A outer s H E) B d.body (t fl tl)) :
    FnC P w K mg base T d.name kc (k + 1) (fun tl P' RX => ∀ fl, dBody N.length (t fl tl) [.adr fl] P' RX) := by
  obtain ⟨fd, F⟩ := Z.fd i h hc
  rw [hat] at F
  exact fnC_ok F S hg (fun s u => FunD.bindsA F hb s [u] rfl) hbody
theorem FnD.up {x : Str} {j k : Nat} {ps : List Str} {wp : SpD} (G : FnD P w K mg base T x j ps wp) (h : j ≤ k) : FnD P w K mg base T x k ps wp := by
  obtain ⟨f, fd, a, b, c, F⟩ := G.ex
  exact ⟨f, fd, a, b, c, F.up h⟩
/-- a def of the module and its promise, for any way to call it -/
def FnB (P : Program) (w : World) (K : PySem.W.Frag) (mg : Str → Option Value) (base : Heap) (T : List (Addr × Str)) (d : FnA) (k : Nat) (ps : List Str) (wp : SpD) : Prop :=
  ∃ fd, FunD K d.name d.qual d.params d.body d.scope [] [] (He.ga K d.name) fd ∧ FnG P w K mg base k (He.ga K d.name) fd ps (liftSp K T ps.length wp)
theorem Zk.fnB (Z : Zk C K mg) {N ps : List Str} {k : Nat} {t : TDS} (i : Nat) (h : C.fns[i]? = some d) (hc : d.clo = []) (hat : d.at_ = .glo d.name) (S : FnScope N ps d.scope)
    (hbody : ∀ (cdv : Value) (A : Around) (outer : List PySem.Env) (s : Shared) (H : Hp) (E : XK) (B : Base), cdv = .ref (codeAt K (He.ga K d.name)) → B.T = T → Rm k (A.deeper (envOfC d.qual d.scope s.heap.objs.size (He.ga K d.name) cdv)) → DSs (cxOf (L2.CX P w) P w K mg base N d.qual d.scope (He.ga K d.name) cdv A outer s H E) B d.body t) :
    FnB P w K mg base T d (k + 1) ps (dBody N.length t) := by
  obtain ⟨fd, F⟩ := Z.fd i h hc
  rw [hat] at F
  exact ⟨fd, F, fn_ok F S hbody⟩
abbrev BindsK (d : FnA) (ps : List Str) (n : Nat) (ks : List Str) (perm : List Nat) : Prop := ∀ (kV doc pm : Value) (an : Option Addr) (cdv ct : Value) (us ws : List Value), us.length = n → ws.length = ks.length → bindArgs (PySem.W.fnOf d.name d.qual d.params d.body d.scope .none kV doc pm an cdv ct) ⟨us, ks.zip ws⟩ = pure (ps.zip (pick perm (us ++ ws)))
theorem FunD.bindsK {f : Addr} {fd : FuncData} {ps ks : List Str} {n : Nat} {perm : List Nat} (F : FunD K d.name d.qual d.params d.body d.scope [] [] f fd) (h : BindsK d ps n ks perm) (s : Shared) (us ws : List Value) (h1 : us.length = n) (h2 : ws.length = ks.length) : BindsTo s fd ⟨us, ks.zip ws⟩ (ps.zip (pick perm (us ++ ws))) := by
  obtain ⟨oc, od, dV, kV, doc, pm, an, cdv, ct, osl, rfl, lk, hcd, hD, hK⟩ := F.ex
  rcases hD with ⟨_, rfl⟩ | ⟨e, _⟩
  · exact .of_eq (h kV doc pm an cdv ct us ws h1 h2)
  · exact absurd rfl e
theorem FnB.fnD {k : Nat} {ps : List Str} {wp : SpD} (G : FnB P w K mg base T d k ps wp) (hg : mg d.name = some (.ref (He.ga K d.name))) (hb : BindsD d ps) : FnD P w K mg base T d.name k ps wp := by
  obtain ⟨fd, F, g⟩ := G
  exact fnD_of F hg (FunD.bindsA F hb) g
theorem FnB.fnK {k n : Nat} {ps ks : List Str} {perm : List Nat} {wp : SpD} (G : FnB P w K mg base T d k ps wp) (hg : mg d.name = some (.ref (He.ga K d.name))) (hb : BindsK d ps n ks perm) : FnK P w K mg base T d.name k ps wp n ks perm := by
  obtain ⟨fd, F, g⟩ := G
  exact ⟨_, fd, hg, F.kp, FunD.bindsK F hb, g⟩
/-- an own class's __init__ -/
def FnMB (P : Program) (w : World) (K : PySem.W.Frag) (mg : Str → Option Value) (base : Heap) (T : List (Addr × Str)) (d : FnA) (c : Str) (k : Nat) (ps : List Str) (wpI : SpI) : Prop :=
  ∃ fd, mg c = some (.ref (He.ga K c)) ∧ Mk K (He.ga K c) ((Wh.meth c "__init__").ad K) ∧ FunD K d.name d.qual d.params d.body d.scope [] [] ((Wh.meth c "__init__").ad K) fd ∧ FnI P w K mg base T c k ((Wh.meth c "__init__").ad K) fd ps wpI
theorem Zk.fnMB (Z : Zk C K mg) {N ps : List Str} {k : Nat} {t : TDS} {c : Str} (i j j2 : Nat) (h : C.fns[i]? = some d) (hc : d.clo = []) (hat : d.at_ = .meth c "__init__") (hg : C.glos[j]? = some c) (hm : C.mks[j2]? = some c) (S : FnScope N ps d.scope) (hN : ps.length ≤ N.length)
    (hbody : ∀ (cdv : Value) (A : Around) (outer : List PySem.Env) (s : Shared) (H : Hp) (E : XK) (B : Base), B.T = T → Rm k (A.deeper (envOfC d.qual d.scope s.heap.objs.size ((Wh.meth c "__init__").ad K) cdv)) → DSs (cxOf (L2.CX P w) P w K mg base N d.qual d.scope ((Wh.meth c "__init__").ad K) cdv A outer s H E) B d.body t) :
    FnMB P w K mg base T d c (k + 1) ps (dInit c N.length t) := by
  obtain ⟨fd, F⟩ := Z.fd i h hc
  rw [hat] at F
  exact ⟨fd, Z.g j hg, Z.mkr c (List.mem_of_getElem? hm), F, fnI_ok F S hN hbody⟩
theorem FnMB.fnM {k : Nat} {ps : List Str} {wp : SpI} {c : Str} (G : FnMB P w K mg base T d c k ps wp) (hb : BindsD d ps) : FnM P w K mg base T c k ps wp := by
  obtain ⟨fd, hg, hm, F, g⟩ := G
  exact ⟨_, fd, hg, hm, FunD.bindsA F hb, g⟩
abbrev BindsMK (d : FnA) (ps : List Str) (n : Nat) (ks : List Str) (perm : List Nat) : Prop := ∀ (kV doc pm : Value) (an : Option Addr) (cdv ct : Value) (v : Value) (us ws : List Value), us.length = n → ws.length = ks.length → bindArgs (PySem.W.fnOf d.name d.qual d.params d.body d.scope .none kV doc pm an cdv ct) ⟨v :: us, ks.zip ws⟩ = pure (ps.zip (v :: pick perm (us ++ ws)))
theorem FnMB.fnMK {k n : Nat} {ps ks : List Str} {perm : List Nat} {wp : SpI} {c : Str} (G : FnMB P w K mg base T d c k ps wp) (hb : BindsMK d ps n ks perm) : FnMK P w K mg base T c k ps wp n ks perm := by
  obtain ⟨fd, hg, hm, F, g⟩ := G
  refine ⟨_, fd, hg, hm, fun s v us ws h1 h2 => ?_, g⟩
  obtain ⟨oc, od, dV, kV, doc, pm, an, cdv, ct, osl, rfl, lk, hcd, hD, hK⟩ := F.ex
  rcases hD with ⟨_, rfl⟩ | ⟨e, _⟩
  · exact .of_eq (hb kV doc pm an cdv ct v us ws h1 h2)
  · exact absurd rfl e
theorem ds_raiseE {X : Cx} {B : Base} {b : SuB} {x : Str} {e : Expr} {td : TDX} {p pos pos2 : Pos} (S : ∃ f fd, SuK X.prog X.K b (He.ga X.K x) f fd) (hc : X.calm = true) (hr : Rm 1 X.A) (mgS : X.mg "super" = none) (hg : Gl X x) (hm : X.mg x = some (.ref (He.ga X.K x))) (he : DE X B e td) (hdb : (x == ("__debug__" : Str)) = false := by decide) (hs : starEach [e] X.env = (false, eval e X.env) :: starEach [] X.env := by rfl) :
    DS X B (.Raise (some (.Call (.Name x p) [e] [] pos)) none pos2) (dRaise x b.fld td) := by
  obtain ⟨f, fd, S⟩ := S
  exact ds_raise (k := 0) S hc hr mgS hg hm he hdb hs
/-- the lambda-making defs' facts -/
structure Zl (C : LawC) (tfs : List (Wh × Str)) (ex : Str) (cs : List Str) (K : PySem.W.Frag) (mg : Str → Option Value) (base : Heap) (T : List (Addr × Str)) : Prop extends Zk C K mg where
  tb : ∀ q ∈ tfs, LamX.TabB base mg (cTY K q.1).1 (cTY K q.1).2
  tm : ∀ q ∈ tfs, ((cTY K q.1).2, q.2) ∈ T
  tu : ∀ q ∈ tfs, ∀ p ∈ T, p.1 = (cTY K q.1).2 → p.2 = q.2
  exm : ∀ z ∈ cs, PySem.W.exmOne K (.ref (He.ga K z)) (.ref (He.ga K ex)) = some true
  sys : (K.lookup sysModules).isSome = true
end
end DL

namespace DL
open PySem PySem.Spec L2 He
open PyProof.Rows hiding St
/-! ### the head's facts, law by law -/
def atB : ((Str × Str) × Atk) → PySem.W.Frag → Bool
  | ((x, f), .fld), K => fldB x f K
  | ((x, f), .exc), K => xfldB x f K
  | ((x, f), .prop g), K => fldB x g K && propB x f K
def tabsB (tfs : List (Wh × Str)) (K : PySem.W.Frag) : Bool := tfs.all fun q => tfs.all fun r => !decide ((cTY K r.1).2 = (cTY K q.1).2) || decide (r.2 = q.2)
def chkOf (C : LawC) (tfs : List (Wh × Str)) (ex : Str) (cs : List Str) : List (PySem.W.Frag → Bool) :=
  [fun K => C.glos.all fun x => (Fa.glo x).ok K, fun K => C.frees.all fun x => (Fa.free x).ok K, fun K => C.nums.all fun p => (Fa.int p.1 p.2).ok K, isaB C.isas, fun K => C.tab.all fun e => atB e K, fun K => C.mks.all fun x => (Fa.mkr x).ok K,
    fun K => cs.all fun z => (Fa.exm z ex true).ok K, tabsB tfs, fun K => (K.lookup sysModules).isSome]
theorem all_ok {α : Type} {p : α → Bool} {l : List α} (h : l.all p = true) : ∀ x ∈ l, p x = true := List.all_eq_true.mp h
theorem atOk_of {K : PySem.W.Frag} {tab : AtTab} (h : ∀ e ∈ tab, atB e K = true) (get : ∀ x f g, ((x, f), Atk.prop g) ∈ tab → GetK K (ga K x) f g) : AtOk K tab := ⟨fun e he => by
  have z := h e he
  obtain ⟨⟨x, f⟩, k⟩ := e
  cases k with
  | fld =>
    obtain ⟨z1, z2⟩ := He.ba z
    exact ⟨cls_ok z1, noat_ok z2⟩
  | exc =>
    obtain ⟨z1, z2⟩ := He.ba z
    exact ⟨xfB_ok z1, eqO_ok z2⟩
  | prop g =>
    obtain ⟨z1, _⟩ := He.ba z
    obtain ⟨z1, z2⟩ := He.ba z1
    exact ⟨cls_ok z1, noat_ok z2, get x f g he⟩⟩
theorem prop_ok {K : PySem.W.Frag} {tab : AtTab} (h : ∀ e ∈ tab, atB e K = true) {x f g : Str} (hm : ((x, f), Atk.prop g) ∈ tab) : propB x f K = true := (He.ba (h _ hm)).2
theorem zl_of {C : LawC} {tfs : List (Wh × Str)} {ex : Str} {cs : List Str} {more : List (PySem.W.Frag → Bool)} {K : PySem.W.Frag} {mg : Str → Option Value} {base h : Heap} (X : K.In h) (G : h.Ns mainGlobals mg) (S : SaysY C.fns (tfs.map (·.1)) (chkOf C tfs ex cs ++ more) h K)
    (ha : AtOk K C.tab) (tb : ∀ p ∈ tfs.map (fun q => cTY K q.1), LamX.TabB base mg p.1 p.2) : Zl C tfs ex cs K mg base (tfs.map fun q => ((cTY K q.1).2, q.2)) where
  fn := S.fns
  glo := fun x hx => glo_ok X G (all_ok (S.chk (fun K => C.glos.all fun x => (Fa.glo x).ok K) (by simp [chkOf])) x hx)
  free := fun x hx => free_ok X G (all_ok (S.chk (fun K => C.frees.all fun x => (Fa.free x).ok K) (by simp [chkOf])) x hx)
  num := fun p hp => int_ok X G (all_ok (S.chk (fun K => C.nums.all fun p => (Fa.int p.1 p.2).ok K) (by simp [chkOf])) p hp)
  isa := isaB_ok (S.chk (isaB C.isas) (by simp [chkOf]))
  ats := ha
  sys := S.chk (fun K => (K.lookup sysModules).isSome) (by simp [chkOf])
  mkr := fun x hx => mkr_ok (all_ok (S.chk (fun K => C.mks.all fun x => (Fa.mkr x).ok K) (by simp [chkOf])) x hx)
  tb := fun q hq => tb _ (List.mem_map.mpr ⟨q, hq, rfl⟩)
  tm := fun q hq => List.mem_map.mpr ⟨q, hq, rfl⟩
  tu := fun q hq p hp e => by
    obtain ⟨r, hr, rfl⟩ := List.mem_map.mp hp
    have z := all_ok (all_ok (S.chk (tabsB tfs) (by simp [chkOf])) q hq) r hr
    simp only [Bool.or_eq_true, Bool.not_eq_true', decide_eq_false_iff_not, decide_eq_true_eq] at z
    exact z.resolve_left fun n => n e
  exm := fun z hz => exm_ok (all_ok (S.chk (fun K => cs.all fun z => (Fa.exm z ex true).ok K) (by simp [chkOf])) z hz)
end DL

/-! What is drawn, told over data: shared by all laws. -/
namespace DL
open PySem PySem.Spec L2
open PyProof.Rows hiding St
theorem eqv_int (a b : Int) : PyData.eqv (.int a) (.int b) = decide (a = b) := by
  first | rfl | simp [PyData.eqv]
theorem q_eq {a b : Int} {P : D → Prop} (h : P (.bl (decide (a = b)))) : eqD (.int a) (.int b) P := ⟨_, _, rfl, rfl, rfl, rfl, by rw [eqv_int]; exact h⟩
theorem q_ne {a b : Int} {P : D → Prop} (h : P (.bl (!decide (a = b)))) : neD (.int a) (.int b) P := ⟨_, _, rfl, rfl, rfl, rfl, by rw [eqv_int]; exact h⟩
/-! ### the readings of the draws' defs -/
def tMixed : TDS := (dSeq (dDrwP 0 (dFrz (f2 addF (dDrw 0) (dC (.int 1)))))
    (dSeq (dPar 1 2 (dSh (dCB intD (dCons (dDrw 0) dNil))) (dSh (dC (.int 0))))
    (dSeq (dFor (dSeqI (dLst (dCons (dC (.int 2147483629)) (dCons (dC (.int 2147483587)) (dCons (dC (.int 2147483579)) dNil))))) (gN 3) (dSeq (dSet 4 (d2 modD (dFrz (f2 addF (dFrz (f2 mulF (dVar 1) (dC (.int 69621)))) (d2 fdivD (dVar 3) (dC (.int 7))))) (dVar 3)))
    (dSeq (dFor (dDrwI 0) (gN 5) (dSet 4 (d2 modD (dFrz (f2 addF (dFrz (f2 mulF (dVar 4) (dC (.int 48271)))) (dCB intD (dCons (dVar 5) dNil)))) (dVar 3))))
    (dSet 2 (dFrz (f2 addF (dFrz (f2 mulF (dVar 2) (dC (.int 2147483647)))) (d2 modD (d2 powD (dVar 4) (dC (.int 5))) (dVar 3))))))))
    (dRet (dVar 2)))))
def tTake : TDS := (dSeq (dIfS (dTest (d2 eqD (dDrw 0) (dC (.int 0)))) (dDrwP 0 (dDrwPop 0 (dCall (dBody 6 tMixed) 1 (dCons (dVar 0) dNil)))) dNext)
    (dSeq (dSet 2 (d2 modD (dCB intD (dCons (dDrw 0) dNil)) (dVar 1)))
    (dSeq (dDrwP 0 (d2 fdivD (dCB intD (dCons (dDrw 0) dNil)) (dVar 1)))
    (dRet (dVar 2)))))
def tPick : TDS := (dRet (d2 ixD (dVar 1) (dCall (dBody 3 tTake) 2 (dCons (dVar 0) (dCons (dCB lenD (dCons (dVar 1) dNil)) dNil)))))
def tShuf : TDS := (dSeq (dPar 2 3 (fCB listF (dCons (dVar 1) dNil)) (dLstF dNil))
    (dSeq (dWhile (dBorT (dTest (d2 neD (dVar 2) (dLst dNil)))) (dExpr (dMut 3 "list" mAppend (dCons (dMut 2 "list" mPopAt (dCons (dCall (dBody 3 tTake) 2 (dCons (dVar 0) (dCons (dBor (dCB lenD (dCons (dVar 2) dNil))) dNil))) dNil)) dNil))))
    (dRet (dVar 3))))
abbrev eX (t f : Int) (g b c : Option Sl) : Env := [some (.sh .drw), some (.sh (.int t)), some (.sh (.int f)), g, b, c]
theorem mix_in {rx : D → Prop} {DD : DEnds} {t f g : Int} (hg : 0 < g) (hg2 : g < 2147483648) : ∀ (cs : List Int) (b : Int) (c : Option Sl), (∀ x ∈ cs, 0 ≤ x) → 0 ≤ b → b < g →
    (∀ b' c', 0 ≤ b' → b' < g → DD.nx (eX t f (some (.sh (.int g))) (some (.sh (.int b'))) c')) →
    dForL (gN 5) (dSet 4 (d2 modD (dFrz (f2 addF (dFrz (f2 mulF (dVar 4) (dC (.int 48271)))) (dCB intD (dCons (dVar 5) dNil)))) (dVar 3))) rx DD (cs.map D.int) (eX t f (some (.sh (.int g))) (some (.sh (.int b))) c)
  | [], b, c, _, h0, h1, k => k b c h0 h1
  | x :: cs, b, c, hx, h0, h1, k => by
    refine ⟨.inl ⟨by omega, by omega⟩, hg, ?_⟩
    exact mix_in hg hg2 cs _ _ (fun y hy => hx y (List.mem_cons_of_mem _ hy)) (Int.emod_nonneg _ (by omega)) (Int.emod_lt_of_pos _ hg) k
theorem mix_lap {rx : D → Prop} {DD : DEnds} {t f g : Int} {b c : Option Sl} (hg : 0 < g) (hg2 : g < 2147483648) (hf : 0 ≤ f) (k : ∀ f' b' c', 0 ≤ f' → DD.nx (eX t f' (some (.sh (.int g))) b' c')) :
    (dSeq (dSet 4 (d2 modD (dFrz (f2 addF (dFrz (f2 mulF (dVar 1) (dC (.int 69621)))) (d2 fdivD (dVar 3) (dC (.int 7))))) (dVar 3)))
    (dSeq (dFor (dDrwI 0) (gN 5) (dSet 4 (d2 modD (dFrz (f2 addF (dFrz (f2 mulF (dVar 4) (dC (.int 48271)))) (dCB intD (dCons (dVar 5) dNil)))) (dVar 3))))
    (dSet 2 (dFrz (f2 addF (dFrz (f2 mulF (dVar 2) (dC (.int 2147483647)))) (d2 modD (d2 powD (dVar 4) (dC (.int 5))) (dVar 3))))))) rx DD (eX t f (some (.sh (.int g))) b c) := by
  refine ⟨.inr ⟨by decide, by decide⟩, ⟨by decide, by decide⟩, hg, rfl, fun cs _ hcs => ?_⟩
  refine mix_in (f := f) (t := t) hg hg2 cs _ c hcs (Int.emod_nonneg _ (by omega)) (Int.emod_lt_of_pos _ hg) fun b' c' h0 h1 => ?_
  refine ⟨.inr ⟨by decide, by decide⟩, ⟨by decide, by decide, by omega⟩, hg, ?_⟩
  refine k _ _ _ ?_
  have : 0 ≤ b' ^ (5 : Int).toNat % g := Int.emod_nonneg _ (by omega)
  have : 0 ≤ f * 2147483647 := Int.mul_nonneg hf (by decide)
  show 0 ≤ f * 2147483647 + b' ^ (5 : Int).toNat % g
  omega
theorem p_mixed {P E : D → Prop} (h : ∀ t : Int, 0 ≤ t → P (.int t)) : dBody 6 tMixed [.drw] P E := by
  refine ⟨rfl, fun t ht => ⟨rfl, t + 1, rfl, by omega, ⟨rfl, fun u hu => ?_⟩⟩⟩
  refine ⟨by decide, ?_⟩
  refine mix_lap (t := u) (by decide) (by decide) (Int.le_refl 0) fun f1 b1 c1 h1 => ?_
  refine mix_lap (t := u) (by decide) (by decide) h1 fun f2 b2 c2 h2 => ?_
  exact mix_lap (t := u) (by decide) (by decide) h2 fun f3 b3 c3 h3 => h f3 h3
theorem p_take {n : Int} {P E : D → Prop} (h0 : 0 < n) (h1 : n < 1073741824) (h : ∀ r : Int, 0 ≤ r → r < n → P (.int r)) : dBody 3 tTake [.drw, .int n] P E := by
  have fin : ∀ rx : D → Prop, (dSeq (dSet 2 (d2 modD (dCB intD (dCons (dDrw 0) dNil)) (dVar 1)))
    (dSeq (dDrwP 0 (d2 fdivD (dCB intD (dCons (dDrw 0) dNil)) (dVar 1)))
    (dRet (dVar 2)))) rx { nx := fun _ => P .non, rt := P } [some (.sh .drw), some (.sh (.int n)), none] := fun rx =>
    ⟨rfl, fun t ht => ⟨h0, rfl, fun u hu => ⟨⟨h0, h1⟩, rfl, u / n, rfl, Int.ediv_nonneg hu (by omega), h _ (Int.emod_nonneg _ (by omega)) (Int.emod_lt_of_pos _ h0)⟩⟩⟩
  refine ⟨rfl, fun t ht => ?_⟩
  simp only [dC]
  refine q_eq ?_
  by_cases e : t = 0
  · rw [decide_eq_true e]
    refine iteT ⟨rfl, fun u hu => ⟨rfl, u, rfl, hu, fin _⟩, rfl, p_mixed fun u hu => ⟨rfl, u, rfl, hu, fin _⟩⟩
  · rw [decide_eq_false e]
    exact iteF (fin _)
theorem atI_some {α : Type} {l : List α} {i : Int} (h0 : 0 ≤ i) (h1 : i < l.length) : ∃ x, atI l i = some x ∧ x ∈ l := by
  have e : ixN l.length i = some i.toNat := by
    unfold ixN
    rw [if_pos h0, if_pos h1]
  have hl : i.toNat < l.length := by omega
  refine ⟨l[i.toNat], ?_, List.getElem_mem hl⟩
  unfold atI
  rw [e]
  exact List.getElem?_eq_getElem hl
theorem p_pick {l : List D} {d : D} {P E : D → Prop} (hd : d = .lst l ∨ d = .tup l) (h0 : 0 < l.length) (h1 : l.length < 1073741824) (h : ∀ x ∈ l, P x) : dBody 3 tPick [.drw, d] P E := by
  rcases hd with rfl | rfl
  · refine ⟨rfl, p_take (by omega) (by omega) fun r r0 r1 => ?_⟩
    obtain ⟨x, e, m⟩ := atI_some (l := l) r0 r1
    exact ⟨x, e, h x m⟩
  · refine ⟨rfl, p_take (by omega) (by omega) fun r r0 r1 => ?_⟩
    obtain ⟨x, e, m⟩ := atI_some (l := l) r0 r1
    exact ⟨x, e, h x m⟩
/-- a for loop by what holds behind the items taken so far -/
theorem q_for {α : Type} {it : α → D} {tg : TDG} {tb : TDS} {rx : D → Prop} {DE : DEnds} {all : List α} (I : List α → Env → Prop)
    (step : ∀ done a rest, all = done ++ a :: rest → ∀ δ, I done δ → ∀ J : Env → Prop, (∀ δ', I (done ++ [a]) δ' → J δ') → tg (it a) δ fun δ1 => tb rx { nx := J, ct := J, bk := DE.nx, rt := DE.rt } δ1)
    (fin : ∀ δ, I all δ → DE.nx δ) : ∀ (rest done : List α), all = done ++ rest → ∀ δ, I done δ → dForL tg tb rx DE (rest.map it) δ
  | [], done, e, δ, h => by
    rw [List.append_nil] at e
    subst e
    exact fin δ h
  | a :: rest, done, e, δ, h => step done a rest e δ h _ fun δ' h' => q_for I step fin rest (done ++ [a]) (by rw [e]; simp) δ' h'
theorem q_forL {tg : TDG} {tb : TDS} {rx : D → Prop} {DE : DEnds} (I : Env → Prop) (fin : ∀ δ, I δ → DE.nx δ) : ∀ (l : List D) (step : ∀ d ∈ l, ∀ δ, I δ → ∀ J : Env → Prop, (∀ δ', I δ' → J δ') → tg d δ fun δ1 => tb rx { nx := J, ct := J, bk := DE.nx, rt := DE.rt } δ1) (δ : Env), I δ → dForL tg tb rx DE l δ
  | [], _, δ, h => fin δ h
  | d :: l, step, δ, h => step d List.mem_cons_self δ h _ fun δ' h' => q_forL I fin l (fun x hx => step x (List.mem_cons_of_mem _ hx)) δ' h'
theorem range_at {n : Nat} {done rest : List Nat} {a : Nat} (e : List.range n = done ++ a :: rest) : a = done.length ∧ a < n := by
  have h1 : (List.range n)[done.length]? = some a := by rw [e]; simp
  have h2 : done.length < n := by
    have := congrArg List.length e
    simp at this; omega
  rw [List.getElem?_range h2] at h1
  have : done.length = a := by simpa using h1
  omega
end DL

/-! Plain data: lists of it, compared; what is shuffled. -/
namespace DL
open PySem PySem.Spec L2
open PyProof.Rows hiding St
/-- plain data of small depth -/
def Pd (x : D) : Prop := ∃ p, toPD x = some p ∧ p.canLay0 = true ∧ p.depth ≤ 50
theorem Pd.int (i : Int) : Pd (.int i) := ⟨_, rfl, rfl, Nat.zero_le _⟩
theorem pds_of : ∀ {l : List D} {n : Nat}, (∀ x ∈ l, ∃ p, toPD x = some p ∧ p.canLay0 = true ∧ p.depth ≤ n) → ∃ ps, toPDs l = some ps ∧ PyData.canLayAll0 ps = true ∧ PyData.depthAll ps ≤ n ∧ ps.length = l.length
  | [], n, _ => ⟨[], rfl, rfl, Nat.zero_le _, rfl⟩
  | x :: l, n, h => by
    obtain ⟨p, e, c, d⟩ := h x List.mem_cons_self
    obtain ⟨ps, e2, c2, d2, l2⟩ := pds_of fun y hy => h y (List.mem_cons_of_mem _ hy)
    refine ⟨p :: ps, ?_, ?_, ?_, by simp [l2]⟩
    · show (match toPD x, toPDs l with
        | some p, some ps => some (p :: ps)
        | _, _ => none) = _
      rw [e, e2]
    · show (p.canLay0 && PyData.canLayAll0 ps) = true
      rw [c, c2]; rfl
    · show max p.depth (PyData.depthAll ps) ≤ n
      exact Nat.max_le.mpr ⟨d, d2⟩
theorem shaped_of {ps : List PyData} (c : PyData.canLayAll0 ps = true) (d : PyData.depthAll ps ≤ 60) : SeqAt.shaped (.list ps) = true := by
  show (PyData.canLayAll0 ps && decide (PyData.depthAll ps + 1 ≤ 64)) = true
  rw [c, decide_eq_true (by omega)]; rfl
theorem q_neL {l : List D} {P : D → Prop} (hl : ∀ x ∈ l, Pd x) (h : P (.bl (!decide (l = [])))) : neD (.lst l) (.lst []) P := by
  obtain ⟨ps, e, c, d, n⟩ := pds_of hl
  refine ⟨.list ps, .list [], ?_, rfl, shaped_of c (by omega), rfl, ?_⟩
  · show (toPDs l).map _ = _
    rw [e]; rfl
  cases l with
  | nil =>
    cases e
    exact h
  | cons a l =>
    cases ps with
    | nil => cases n
    | cons p ps => exact h
abbrev eS (l0 : D) (w f : List D) : Env := [some (.sh .drw), some (.sh l0), some (.ol w), some (.ol f)]
theorem perm_take1 {α : Type} : ∀ {w : List α} {k : Nat} {d : α}, w[k]? = some d → (d :: w.eraseIdx k).Perm w
  | [], k, d, h => by simp at h
  | a :: w, 0, d, h => by
    simp at h; subst h
    exact List.Perm.refl _
  | a :: w, k + 1, d, h => by
    have h' : w[k]? = some d := by simpa using h
    exact (List.Perm.swap a d _).trans ((perm_take1 h').cons a)
theorem perm_pop {α : Type} {f w : List α} {k : Nat} {d : α} (h : w[k]? = some d) : ((f ++ [d]) ++ w.eraseIdx k).Perm (f ++ w) := by
  rw [List.append_assoc]
  exact List.Perm.append_left f (perm_take1 h)
theorem shuf_loop {rx : D → Prop} {DD : DEnds} {l0 : D} {m0 : List D} (hm : m0.length < 900) (hp : ∀ x ∈ m0, Pd x) (k : ∀ f, f.Perm m0 → DD.nx (eS l0 [] f)) : ∀ (m : Nat) (w f : List D), (f ++ w).Perm m0 → w.length < m →
    dWhileN (dBorT (dTest (d2 neD (dVar 2) (dLst dNil)))) (dExpr (dMut 3 "list" mAppend (dCons (dMut 2 "list" mPopAt (dCons (dCall (dBody 3 tTake) 2 (dCons (dVar 0) (dCons (dBor (dCB lenD (dCons (dVar 2) dNil))) dNil))) dNil)) dNil))) rx DD m (eS l0 w f)
  | 0, w, f, _, h => absurd h (Nat.not_lt_zero _)
  | m + 1, w, f, pm, hw => by
    have hlen : f.length + w.length = m0.length := by rw [← List.length_append]; exact pm.length_eq
    refine ⟨Nat.zero_le _, q_neL (l := w) (fun x hx => hp x (pm.mem_iff.mp (List.mem_append_right _ hx))) ?_⟩
    cases w with
    | nil =>
      rw [List.append_nil] at pm
      exact ⟨rfl, iteF (k f pm)⟩
    | cons a w =>
      refine ⟨rfl, iteT ⟨rfl, rfl, rfl, rfl, rfl, p_take (by simp) (by simp only [List.length_cons] at hlen ⊢; omega) fun r r0 r1 => ⟨rfl, ⟨by omega, Int.lt_of_lt_of_le r1 (Int.le_trans (show ((a :: w).length : Int) ≤ 900 by omega) (by decide))⟩, r.toNat, ?_⟩⟩⟩
      have hr : r.toNat < (a :: w).length := by omega
      refine ⟨(a :: w)[r.toNat], ?_, List.getElem?_eq_getElem hr, rfl, Nat.lt_of_lt_of_le (show f.length < 1000 by omega) (by decide), ?_⟩
      · unfold seqIndex?
        simp only
        rw [if_neg (show ¬ r < 0 by omega), if_pos (by rw [decide_eq_true r0, decide_eq_true r1]; rfl)]
      · refine shuf_loop hm hp k m _ _ ((perm_pop (List.getElem?_eq_getElem hr)).trans pm) ?_
        rw [List.length_eraseIdx, if_pos hr]
        simp only [List.length_cons] at hw ⊢
        omega
theorem p_shuf {l : List D} {P E : D → Prop} (hl : l.length < 900) (hp : ∀ x ∈ l, Pd x) (h : ∀ f : List D, f.Perm l → P (.lst f)) : dBody 4 tShuf [.drw, .lst l] P E := by
  refine ⟨Nat.zero_le _, l.length + 1, ?_⟩
  exact shuf_loop (l0 := .lst l) (m0 := l) hl hp (fun f pm => h f pm) _ l [] (List.Perm.refl _) (Nat.lt_succ_self _)
end DL

/-! Texts of plain data: their signs, their sizes. -/
namespace DL
open PySem PySem.Spec L2
open PyProof.Rows hiding St
mutual
/-- data without texts and dicts -/
def noS : PyData → Bool
  | .none => true
  | .bool _ => true
  | .int _ => true
  | .str _ => false
  | .list xs => noSs xs
  | .tuple xs => noSs xs
  | .dict _ => false
def noSs : List PyData → Bool
  | [] => true
  | x :: xs => noS x && noSs xs
end
def okT (x : Str) : Prop := ∀ c ∈ x.cps.toList, c < 1114112
theorem okT_app {a b : Str} (ha : okT a) (hb : okT b) : okT (a ++ b) := fun c hc => by
  rcases mem_cps_append.mp hc with h | h
  · exact ha c h
  · exact hb c h
theorem okT_join {sep : Str} {ts : List Str} (hs : okT sep) (ht : ∀ t ∈ ts, okT t) : okT (Str.join sep ts) := fun c hc => by
  rcases (mem_join sep c ts).mp hc with ⟨t, h1, h2⟩ | ⟨_, h⟩
  · exact ht t h1 c h2
  · exact hs c h
theorem okT_from : ∀ (ts : List Str) (k : Nat) (acc : Str), okT acc → (∀ t ∈ ts, okT t) → okT (textFrom k acc ts)
  | [], k, acc, ha, _ => ha
  | t :: ts, k, acc, ha, h => by
    refine okT_from ts (k + 1) _ (okT_app (okT_app ha ?_) (h t List.mem_cons_self)) fun u hu => h u (List.mem_cons_of_mem _ hu)
    split
    · exact (by decide : ∀ c ∈ ((", " : String) : Str).cps.toList, c < 1114112)
    · exact (by decide : ∀ c ∈ (("" : String) : Str).cps.toList, c < 1114112)
theorem okT_listText {ts : List Str} (h : ∀ t ∈ ts, okT t) : okT (listText ts) :=
  okT_app (okT_from ts 0 _ (by decide : ∀ c ∈ (("[" : String) : Str).cps.toList, c < 1114112) h) (by decide : ∀ c ∈ (("]" : String) : Str).cps.toList, c < 1114112)
theorem okT_tupleText {ts : List Str} (h : ∀ t ∈ ts, okT t) : okT (tupleText ts) := by
  unfold tupleText
  refine okT_app (okT_app (by decide : ∀ c ∈ (("(" : String) : Str).cps.toList, c < 1114112) (okT_join (by decide : ∀ c ∈ ((", " : String) : Str).cps.toList, c < 1114112) h)) ?_
  split
  · exact (by decide : ∀ c ∈ ((",)" : String) : Str).cps.toList, c < 1114112)
  · exact (by decide : ∀ c ∈ ((")" : String) : Str).cps.toList, c < 1114112)
theorem okT_int (i : Int) : okT (toString i : String) := fun c hc => by
  have : c ∈ ((toString i).toList.map Char.toNat) := by
    rw [← signs_ofString]; exact hc
  obtain ⟨x, hx, rfl⟩ := List.mem_map.mp this
  have := int_ascii i x hx
  omega
mutual
theorem okT_shown : ∀ p : PyData, noS p = true → okT p.shown
  | .none, _ => by
    simp only [PyData.shown]
    exact (by decide : ∀ c ∈ (("None" : String) : Str).cps.toList, c < 1114112)
  | .bool true, _ => by
    simp only [PyData.shown, if_true]
    exact (by decide : ∀ c ∈ (("True" : String) : Str).cps.toList, c < 1114112)
  | .bool false, _ => by
    simp only [PyData.shown]
    exact (by decide : ∀ c ∈ (("False" : String) : Str).cps.toList, c < 1114112)
  | .int i, _ => by
    simp only [PyData.shown]
    exact okT_int i
  | .str _, h => by cases h
  | .dict _, h => by cases h
  | .list xs, h => by
    simp only [PyData.shown]
    exact okT_listText (okT_shownAll xs (by simpa [noS] using h))
  | .tuple xs, h => by
    simp only [PyData.shown]
    exact okT_tupleText (okT_shownAll xs (by simpa [noS] using h))
theorem okT_shownAll : ∀ xs : List PyData, noSs xs = true → ∀ t ∈ PyData.shownAll xs, okT t
  | [], _, t, ht => nomatch ht
  | x :: xs, h, t, ht => by
    have h' : noS x = true ∧ noSs xs = true := by simpa [noSs] using h
    simp only [PyData.shownAll, List.mem_cons] at ht
    rcases ht with rfl | ht
    · exact okT_shown x h'.1
    · exact okT_shownAll xs h'.2 t ht
end
theorem strOk_of {x : Str} (h : okT x) : PyData.strOk x = true := by
  unfold PyData.strOk
  rw [Array.all_eq_true_iff_forall_mem]
  intro c hc
  exact decide_eq_true (h c (by simpa using hc))
theorem shaped_str {x : Str} (h : okT x) : SeqAt.shaped (.str x) = true := by
  show (PyData.strOk x && decide (0 ≤ 64)) = true
  rw [strOk_of h]; rfl
/-- repr of plain data without texts -/
structure Rp (d : D) (p : PyData) : Prop where
  pd : toPD d = some p
  sh : p.showable = true
  dp : p.depth ≤ 60
  lv : p.leavesShort 13 = true
  wt : p.weight ≤ 2 ^ 20
  ns : noS p = true
theorem q_repr {d : D} {p : PyData} {P : D → Prop} (h : Rp d p) (k : P (.str p.shown)) : reprD [d] P :=
  ⟨p, h.pd, h.sh, h.dp, PyData.shown_fits (by decide) (by decide) h.lv h.wt, k⟩
theorem eqv_str_refl (x : Str) : PyData.eqv (.str x) (.str x) = true := by simp [PyData.eqv]
/-- two equal reprs -/
theorem q_neS {x : Str} {P : D → Prop} (h : okT x) (k : P (.bl false)) : neD (.str x) (.str x) P :=
  ⟨_, _, rfl, rfl, shaped_str h, shaped_str h, by rw [eqv_str_refl]; exact k⟩
theorem Rp.ok {d : D} {p : PyData} (h : Rp d p) : okT p.shown := okT_shown p h.ns
/-! ### small data: lists of pairs of small numbers and the like -/
mutual
/-- only numbers below 10 ^ 12 -/
def sm : PyData → Bool
  | .none => true
  | .bool _ => true
  | .int i => decide (i.natAbs < 10 ^ 12)
  | .list xs => sms xs
  | .tuple xs => sms xs
  | _ => false
def sms : List PyData → Bool
  | [] => true
  | x :: xs => sm x && sms xs
/-- how many items, all in all -/
def cnt1 : PyData → Nat
  | .list xs => cnts xs
  | .tuple xs => cnts xs
  | _ => 0
def cnts : List PyData → Nat
  | [] => 0
  | x :: xs => cnt1 x + 1 + cnts xs
end
theorem log2_small {n : Nat} (h : n < 10 ^ 12) : n.log2 < 40 := by
  by_cases z : n = 0
  · subst z; decide
  · exact (Nat.log2_lt z).mpr (Nat.lt_trans h (by decide))
mutual
theorem sm_facts : ∀ p : PyData, sm p = true → p.showable = true ∧ p.leavesShort 13 = true ∧ p.weight ≤ 41 + 42 * cnt1 p ∧ noS p = true
  | .none, _ => ⟨by simp [PyData.showable], by simp [PyData.leavesShort], by simp [PyData.weight], rfl⟩
  | .bool _, _ => ⟨by simp [PyData.showable], by simp [PyData.leavesShort], by simp [PyData.weight], rfl⟩
  | .int i, h => by
    have h : i.natAbs < 10 ^ 12 := by simpa [sm] using h
    have l := log2_small h
    refine ⟨?_, ?_, ?_, rfl⟩
    · simp only [PyData.showable, decide_eq_true_eq]; omega
    · simp only [PyData.leavesShort, decide_eq_true_eq]; exact PyData.shown_int_le h
    · simp only [PyData.weight]; split <;> omega
  | .str _, h => by cases h
  | .dict _, h => by cases h
  | .list xs, h => by
    obtain ⟨h1, h2, h3, h4⟩ := sms_facts xs (by simpa [sm] using h)
    refine ⟨by simpa only [PyData.showable] using h1, by simpa only [PyData.leavesShort] using h2, ?_, by simpa only [noS] using h4⟩
    simp only [PyData.weight, cnt1]; omega
  | .tuple xs, h => by
    obtain ⟨h1, h2, h3, h4⟩ := sms_facts xs (by simpa [sm] using h)
    refine ⟨by simpa only [PyData.showable] using h1, by simpa only [PyData.leavesShort] using h2, ?_, by simpa only [noS] using h4⟩
    simp only [PyData.weight, cnt1]; omega
theorem sms_facts : ∀ xs : List PyData, sms xs = true → PyData.showableAll xs = true ∧ PyData.leavesShortAll 13 xs = true ∧ PyData.weightAll xs ≤ 42 * cnts xs ∧ noSs xs = true
  | [], _ => ⟨rfl, rfl, by simp [PyData.weightAll], rfl⟩
  | x :: xs, h => by
    have h' : sm x = true ∧ sms xs = true := by simpa [sms] using h
    obtain ⟨a1, a2, a3, a4⟩ := sm_facts x h'.1
    obtain ⟨b1, b2, b3, b4⟩ := sms_facts xs h'.2
    refine ⟨by simp only [PyData.showableAll, a1, b1, Bool.and_self], by simp only [PyData.leavesShortAll, a2, b2, Bool.and_self], ?_, by simp only [noSs, a4, b4, Bool.and_self]⟩
    simp only [PyData.weightAll, cnts]; omega
end
theorem rp_sm {d : D} {p : PyData} (e : toPD d = some p) (h : sm p = true) (hc : cnt1 p ≤ 20000) (hd : p.depth ≤ 60) : Rp d p := by
  obtain ⟨a1, a2, a3, a4⟩ := sm_facts p h
  exact ⟨e, a1, hd, a2, Nat.le_trans a3 (Nat.le_trans (show 41 + 42 * cnt1 p ≤ 41 + 42 * 20000 by omega) (by decide)), a4⟩
end DL

/-! Exceptions made by name: C(p = v). -/
namespace DL
open PySem PySem.HandSPX PySem.W PySem.Builtin Builtin.ObjectAttr
section
variable {M : Model} {A : Around} {E : Value → Shared → Prop} {h : Heap} {g : Array GenState} {d : Drawn} {t : Nat} {os : OsState}
variable {nm q : Str} {C N : Addr} {bs bm mB : List Value} {hdct : Bool} {sn : List Str} {sub : List Value} {ab : Bool} {col : Option Bool} {dd : Option Addr} {k0 k1 k2 k3 k5 : Option Value} {BB idN idI : String} {kx : Str} {kv : Value}
theorem kwx_check (F : ExcBaseFacts BB idN idI mB) (same : ∀ X : String, bm.contains (.type X) = mB.contains (.type X)) {Q : Unit → Shared → Prop}
    (cl : h.get? C = some (excClassObj nm q C N bs bm hdct sn sub ab col dd k0 k1 k2 k3 k5 idN)) (fin : Q () ⟨h, g, d, t, os⟩) : wpAny M A (checkBuiltinCall idN ⟨[.ref C], [(kx, kv)]⟩) Q E ⟨h, g, d, t, os⟩ := by
  have inB : (Value.ref C :: bm).contains (.type BB) = true := by rw [List.contains_cons, same, F.hasB, Bool.or_true]
  have star := F.noStar
  simp only [checkBuiltinCall, F.newKind, F.newSplit, F.newRow]
  repeat (first | refine wpAny_loadPart_at cl ?_ | (refine wpAny_isSubtype_exc cl ?_; rw [inB]) | refine wpAny_staticBase_exc cl ?_ | refine wpAny_madeBy_exc cl ?_ | simp only [bne_self_eq_false, Bool.false_eq_true, if_false] | wp_step)
  exact fin
end
section
variable {prog : Program} {w : World} {A : Around} {E : Value → Shared → Prop} {R : Result → Shared → Prop} {h : Heap} {g : Array GenState} {d : Drawn} {t : Nat} {os : OsState}
variable {nm q : Str} {C N : Addr} {bs bm mB : List Value} {hdct : Bool} {sn : List Str} {sub : List Value} {ab : Bool} {col : Option Bool} {dd : Option Addr} {k0 k1 k2 k3 k5 : Option Value} {BB idN idI : String} {kx : Str} {kv : Value}
theorem kwx_new (F : ExcBaseFacts BB idN idI mB) (same : ∀ X : String, bm.contains (.type X) = mB.contains (.type X))
    (cl : h.get? C = some (excClassObj nm q C N bs bm hdct sn sub ab col dd k0 k1 k2 k3 k5 idN)) (fin : R (.ok (.ret (.ref (h.objs.size + 1)))) ⟨(h.push (W.kdv_tup [])).push (excO C h.objs.size), g, d, t, os⟩) :
    codeAny (model prog w) A (.builtin idN ⟨[.ref C], [(kx, kv)]⟩) R ⟨h, g, d, t, os⟩ := by
  have en := F.ends
  have inB : (Value.ref C :: bm).contains (.type BB) = true := by rw [List.contains_cons, same, F.hasB, Bool.or_true]
  have noA : (Value.ref C :: bm).contains (.type "AttributeError") = false := by rw [List.contains_cons, same, F.noAttr]; rfl
  have noN : (Value.ref C :: bm).contains (.type "NameError") = false := by rw [List.contains_cons, same, F.noName]; rfl
  refine codeAny_builtinAt F.entry ?_
  unfold Builtin.«BaseException.__new__»
  refine wpAt_bind ?_
  show wpAt _ _ _ (stack >>= _) _ _ _
  refine wpAt_bind (wpAt_stack fun p0 below => wpAt_of_wpAny ?_)
  wp_walk
  refine wpAt_of_wpAny ?_
  rw [F.owner]
  repeat (first | with_reducible refine wpAny_madeHere_exc F.canon cl ?_ | with_reducible refine wpAny_loadPart_at cl ?_ | (with_reducible refine wpAny_isSubtype_exc cl ?_; first | rw [inB] | rw [noA] | rw [noN]) | wp_step)
  show R _ _
  rw [Heap.size_push]
  exact fin
theorem kwx_type (F : ExcBaseFacts BB idN idI mB) (same : ∀ X : String, bm.contains (.type X) = mB.contains (.type X)) {fI : Addr} {Q : Fin → Shared → Prop}
    (cl : h.get? C = some (excClassObj nm q C N bs bm hdct sn sub ab col dd k0 k1 k2 k3 k5 idN))
    (li : W.Looks (model prog w) h (typeLookup (.ref C) "__init__") (some (.ref fI))) (lb : ∀ self, W.Looks (model prog w) h (bindSpecial (.ref fI) self) (.ref fI, [self]))
    (fin : codeAny (model prog w) A (.call (.ref fI) ⟨[.ref (h.objs.size + 1)], [(kx, kv)]⟩)
      (fun r s' => match r with | .ok (.ret v) => v = .none ∧ Q (.done (.ret (.ref (h.objs.size + 1)))) s' | .ok _ => False | .error e => E e s')
      ⟨(h.push (W.kdv_tup [])).push (excO C h.objs.size), g, d, t, os⟩) :
    wpAny (model prog w) A (Builtin.«type.__call__» ⟨[.ref C], [(kx, kv)]⟩) Q E ⟨h, g, d, t, os⟩ := by
  repeat (first | with_reducible refine wpAny_loadPart_at cl ?_ | with_reducible refine wpAny_madeBy_exc cl ?_ | wp_step)
  refine codeAny_call_builtin_code (Code.quiet_builtin _ F.quiet) (kwx_check F same cl ?_)
  refine kwx_new F same cl ?_
  show wpAny _ _ _ _ _ _
  have up : ∀ b o, h.get? b = some o → ((h.push (W.kdv_tup [])).push (excO C h.objs.size)).get? b = some o := fun b o z => Heap.get?_push_of_some _ (Heap.get?_push_of_some _ z)
  have cl1 := up _ _ cl
  have got : ((h.push (W.kdv_tup [])).push (excO C h.objs.size)).get? (h.objs.size + 1) = some (excO C h.objs.size) := by heap_get
  have own : (Value.ref C :: bm).contains (.ref C) = true := by simp
  have i1 := li.keeps up
  have b1 := (lb (.ref (h.objs.size + 1))).keeps up
  unfold isInstance
  repeat (first | with_reducible refine wpAny_loadPart_at got ?_ | (with_reducible refine wpAny_isSubtype_exc cl1 ?_; rw [own]) | wp_step)
  show wpAny _ _ (typeLookup (.ref C) _) _ _ _
  refine i1.at ?_
  refine wpAny_holding (wpAny_bind (b1.at ?_))
  refine wpAny_bind (wpAny_call (codeAny_mono fin fun r s' z => ?_))
  rcases r with e | (v | _ | _ | _) <;> first | exact z | exact z.elim | skip
  obtain ⟨rfl, z⟩ := z
  first
    | exact wpAny_pure (wpAny_pure z)
    | (wp_walk; exact z)
theorem kwx_checkT {M : Model} {Q : Unit → Shared → Prop} (cl : h.get? C = some (excClassObj nm q C N bs bm hdct sn sub ab col dd k0 k1 k2 k3 k5 idN))
    (fin : Q () ⟨h, g, d, t, os⟩) : wpAny M A (checkBuiltinCall "type.__call__" ⟨[.ref C], [(kx, kv)]⟩) Q E ⟨h, g, d, t, os⟩ := by
  have f3 := tc_sub
  have isT : (⟨h, g, d, t, os⟩ : Shared).TypeIs (.ref C) "type" := ⟨_, cl, rfl⟩
  simp only [checkBuiltinCall, tc_kind, tc_split]
  repeat (any_goals (first | assumption | with_reducible refine wpAny_loadPart_at cl ?_ | with_reducible refine wpAny_onRaise ?_ | with_reducible refine wpAny_map ?_ | wp_step))
theorem kwx_call (F : ExcBaseFacts BB idN idI mB) (same : ∀ X : String, bm.contains (.type X) = mB.contains (.type X)) {fI : Addr}
    (cl : h.get? C = some (excClassObj nm q C N bs bm hdct sn sub ab col dd k0 k1 k2 k3 k5 idN))
    (li : W.Looks (model prog w) h (typeLookup (.ref C) "__init__") (some (.ref fI))) (lb : ∀ self, W.Looks (model prog w) h (bindSpecial (.ref fI) self) (.ref fI, [self]))
    (fin : codeAny (model prog w) (A.under (.builtin "type.__call__" ⟨[.ref C], [(kx, kv)]⟩)) (.call (.ref fI) ⟨[.ref (h.objs.size + 1)], [(kx, kv)]⟩) (W.InitBack (h.objs.size + 1) R)
      ⟨(h.push (W.kdv_tup [])).push (excO C h.objs.size), g, d, t, os⟩) :
    codeAny (model prog w) A (.call (.ref C) ⟨[], [(kx, kv)]⟩) R ⟨h, g, d, t, os⟩ := by
  have f1 := tc_lookup
  have f2 := tc_bind (.ref C)
  have isT : (⟨h, g, d, t, os⟩ : Shared).TypeIs (.ref C) "type" := ⟨_, cl, rfl⟩
  refine codeAny_of_tree ?_
  show wpAny _ _ (callAny (.ref C) _) _ _ _
  repeat (any_goals (first | assumption | with_reducible refine wpAny_loadPart_at cl ?_ | wp_step))
  refine ⟨rfl, ?_⟩
  refine codeAny_call_builtin_at (Code.quiet_builtin _ (by decide +kernel)) entry_typeCall (kwx_checkT cl (kwx_type F same cl li lb ?_))
  refine codeAny_mono fin fun r s' z => ?_
  rcases r with e | (v | _ | _ | _) <;> exact z
end
end DL
namespace DL
open PySem PySem.Spec PySem.Calls PySem.W PyProof.Rows
theorem su_initK {P : Program} {w : World} {A : Around} {K : Frag} {b : SuB} {C f e t0 : Addr} {fd : FuncData} {u : Value} {mg mb : Str → Option Value} {R : Result → Shared → Prop} {hp : Heap} {g : Array GenState} {d : Drawn} {t : Nat} {os : OsState} (S : SuK P K b C f fd) (bk : ∀ (s : Shared) (u v : Value), BindsTo s fd ⟨[u], [(b.par, v)]⟩ (((["self", b.par] : List Str).zip [u, v])))
    (KX : K.In hp) (ns : hp.Ns mainGlobals mg) (mgS : mg "super" = none) (nb : hp.Ns builtinsNs mb) (bb : mb "super" = bootBuiltins "super") (lim : hp.NoLimit) (hroom : A.depth < recursionLimit) (he : hp.get? e = some (HandSPX.excO C t0)) (nK : ∀ o, K.lookup e ≠ some o)
    (hq : ∀ h' t' dx tA, (∀ a o, a ≠ e → hp.get? a = some o → h'.get? a = some o) → hp.objs.size ≤ dx → dx ≠ e → h'.get? e = some ({ cls := .ref C, dict := some dx, data := .fields #[.ref tA, .none, .none, .none, .bool false, .none] } : Obj) →
      h'.Ns1 dx (fun y => if y = b.fld then some u else none) → R (.ok (.ret .none)) ⟨h', g, d, t', os⟩) :
    codeAny (model P w) A (.call (.ref f) ⟨[.ref e], [(b.par, u)]⟩) R ⟨hp, g, d, t, os⟩ := by
  obtain ⟨name, qual, params, scope, dV, kV, doc, pm, ct, oc, ccl, cl, an, od, cdd, cld, osl, ccs, csl, cc, cda, ar, vs, file, tf, cd, rfl, lk, hcd, hcell, hco, hgen, hk, hks, hkc, hka, hkp, hpar, har, hcode, hvs, hfile, htop, hcel, hC, hmro, hdct, hsubC, hop⟩ := S.ex
  obtain ⟨pl, hev⟩ := S.ev
  have hloc : ∀ y ∈ (["self", b.par] : List Str).zip [Value.ref e, u], scope.names.lookup y.1 = some .local := fun y hy => by
    have hy : y ∈ [(("self" : Str), Value.ref e), (b.par, u)] := hy
    rcases List.mem_cons.mp hy with rfl | hy
    · exact hka
    · rcases List.mem_cons.mp hy with rfl | hy
      · exact hkp
      · cases hy
  refine ks_codeAny_call_defAt (body := b.body) hroom (KX _ _ lk) rfl lim (codeRec_of KX hcd) rfl (bk _ (.ref e) u) hcell hloc (fun h0 hns hk0 => ?_) hco hgen hk
  have m1 : ((["self", b.par] : List Str).zip [Value.ref e, u]).reverse.lookup ("self" : Str) = some (Value.ref e) := by
    show [(b.par, u), (("self" : Str), Value.ref e)].lookup ("self" : Str) = _
    rw [List.lookup_cons, show (("self" : Str) == b.par) = false from beq_eq_false_iff_ne.mpr (Ne.symm S.pne)]
    rfl
  have m2 : ((["self", b.par] : List Str).zip [Value.ref e, u]).reverse.lookup b.par = some u := by
    show [(b.par, u), (("self" : Str), Value.ref e)].lookup b.par = _
    rw [List.lookup_cons, beq_self_eq_true]
  have hsz : hp.objs.size ≤ h0.objs.size := by
    obtain ⟨oL, _, _, hL, _⟩ := hns
    exact Nat.le_of_lt (Heap.lt_size hL)
  exact su_body (KX.keeps hk0) (ns.keeps hk0) mgS (nb.keeps hk0) (bb.trans PyProof.Rows.Boot.«super») (hk0 _ _ he) hns (Nat.ne_of_lt (Heap.lt_size he)) m1 m2 lk rfl hk hks hkc hka hkp hpar har rfl hcode hvs hfile htop rfl hcel hC hmro hdct hsubC hop S.sup S.sub S.exc S.sa S.no hev S.hdb nK
    fun h' t' dx tA k hdx dne hx hn => hq h' t' dx tA (fun a o ne z => k a o ne (hk0 _ _ z)) (Nat.le_trans hsz hdx) dne hx hn
end DL
namespace DL
open PySem PySem.Spec L2
open PyProof.Rows hiding St
section
variable {X : Cx} {pins : List (Addr × Obj)} {σ : L2.St} {H : Hp} {b : SuB} {C f : Addr} {fd : FuncData} {k : Nat}
theorem su_callK {hp : Heap} {g : Array GenState} {d : Drawn} {t : Nat} {os : OsState} {u : Value} {Q : Value → Shared → Prop} {E : Value → Shared → Prop} (S : SuK X.prog X.K b C f fd) (bk : ∀ (s : Shared) (u v : Value), BindsTo s fd ⟨[u], [(b.par, v)]⟩ (((["self", b.par] : List Str).zip [u, v]))) (hr : Room (k + 1) X.A) (mgS : X.mg "super" = none) (I : Inv X pins σ H ⟨hp, g, d, t, os⟩)
    (hq : ∀ h' t' e dx tA, (∀ a o, hp.get? a = some o → h'.get? a = some o) → hp.get? e = none → hp.get? dx = none → dx ≠ e → h'.get? e = some ({ cls := .ref C, dict := some dx, data := .fields #[.ref tA, .none, .none, .none, .bool false, .none] } : Obj) →
      h'.Ns1 dx (fun y => if y = b.fld then some u else none) → Q (.ref e) ⟨h', g, d, t', os⟩) :
    wpAny (model X.prog X.w) X.A (call (.ref C) [] [(b.par, u)]) Q E ⟨hp, g, d, t, os⟩ := by
  obtain ⟨nm, N', qn, bs, bm, hd', sn, sub', ab, col, dd, k0, k1, k2, k3, k5, hCo, hT⟩ := PySem.W.excInit_of I.kIn S.exc
  obtain ⟨mb, hb1, hb2⟩ := I.mod.blt
  have kk : ∀ a o, hp.get? a = some o → ((hp.push (PySem.W.kdv_tup [])).push (PySem.HandSPX.excO C hp.objs.size)).get? a = some o := fun b o e => Heap.get?_push_of_some _ (Heap.get?_push_of_some _ e)
  have hget : ((hp.push (PySem.W.kdv_tup [])).push (PySem.HandSPX.excO C hp.objs.size)).get? (hp.objs.size + 1) = some (PySem.HandSPX.excO C hp.objs.size) := by heap_get
  have KX := I.kIn
  have none_of : ∀ a, hp.objs.size ≤ a → hp.get? a = none := fun a ha => by
    cases z : hp.get? a with
    | none => rfl
    | some o => exact absurd (Heap.lt_size z) (Nat.not_lt.mpr ha)
  have hz : (hp.push (PySem.W.kdv_tup [])).objs.size = hp.objs.size + 1 := Heap.size_push ..
  have hz2 : ((hp.push (PySem.W.kdv_tup [])).push (PySem.HandSPX.excO C hp.objs.size)).objs.size = hp.objs.size + 2 := by rw [Heap.size_push, hz]
  refine wpAny_call (kwx_call PySem.F.excBase_ValueError hT hCo (PySem.W.looks_findIn KX S.ini) (fun self => PySem.W.bind_fn KX self S.tyI) ?_)
  refine su_initK S bk (KX.keeps kk) ((I.mod.glob.keeps I.bk).keeps kk) mgS ((hb1.keeps I.bk).keeps kk) (hb2 _ (by decide)) (I.nolimit.keeps kk) (hr.make C [] [(b.par, u)]).depth hget (fun o z => ?_) fun h' t' dx tA k hdx dne hx hn => ?_
  · have := Heap.lt_size (KX _ _ z)
    exact absurd this (by show ¬ hp.objs.size + 1 < hp.objs.size; omega)
  · have hdx' : hp.objs.size + 2 ≤ dx := by rw [← hz2]; exact hdx
    refine ⟨rfl, hq h' t' _ dx tA (fun a o z => k a o (fun q => ?_) (kk a o z)) (none_of _ (Nat.le_succ _)) (none_of _ (Nat.le_trans (Nat.le_add_right _ 2) hdx')) dne hx hn⟩
    have z2 : a < hp.objs.size := Heap.lt_size z
    rw [show a = hp.objs.size + 1 from q] at z2
    exact absurd z2 (Nat.not_lt.mpr (Nat.le_succ _))
variable {B : Base} {x : Str} {td : TDX} {p pos kpos : Pos} {e : Expr} {nm : Str}
/-- C(f = v), the class' __init__ as SuB tells -/
def dExcVK (x n : Str) (t : TDX) : TDX := fun rx δ P => t rx δ fun d δ' => P (.exc x [(n, d)]) δ'
theorem de_excK (S : SuK X.prog X.K b (He.ga X.K x) f fd) (bk : ∀ (s : Shared) (u v : Value), BindsTo s fd ⟨[u], [(b.par, v)]⟩ (((["self", b.par] : List Str).zip [u, v]))) (hr : Rm (k + 1) X.A) (mgS : X.mg "super" = none) (hg : Gl X x) (hm : X.mg x = some (.ref (He.ga X.K x))) (he : DE X B e td)
    (hall : (backToKw pos (keywordEach [⟨some nm, e, kpos⟩] X.env)).all (·.1.isSome) = true := by rfl) (hks : (backToKw pos (keywordEach [⟨some nm, e, kpos⟩] X.env)).filterMap (·.1) = [b.par] := by rfl)
    (hdb : (x == ("__debug__" : Str)) = false := by decide) (hpl : ((backTo pos (starEach [] X.env)).any (·.1) || (backToKw pos (keywordEach [⟨some nm, e, kpos⟩] X.env)).any (·.1.isNone)) = false := by rfl) :
    DE X B (.Call (.Name x p) [] [⟨some nm, e, kpos⟩] pos) (dExcVK x b.fld td) := by
  refine ⟨fun rx tk => ⟨fun pins s σ H Q I ⟨g, δ, P, S0, q, k1⟩ => ?_⟩⟩
  refine wpAny_Call_Name_kw (ld_glob I hg hm ?_ hdb)
  refine PySem.W.callWith_KW0 (h₀ := X.base) I.ok.mod.kin S.kpC hall ?_ hpl
  refine thn (((dk_cons he dk_nil).run rx tk).run pos pins s σ H (fun zs H2 => ∃ d δ2 g2 v, zs = [v] ∧ P (.exc x [(b.fld, d)]) δ2 ∧ Step X.N.length g H g2 H2 ∧ Stt X.K B g2 H2 σ δ2 ∧ Den X.K g2.W g2.F v d) I
    ⟨g, δ, (fun es δ' => match es with
      | [d] => P (.exc x [(b.fld, d)]) δ'
      | _ => False), S0, q, fun es δ2 g2 H2 zs h2 st2 S2 D2 => ?_⟩) fun ws s2 ⟨zs, H2, I2, r2, d, δ2, g2, v, ez, hp, st2, S2, D2⟩ => ⟨I2.kIn, ?_⟩
  · cases D2 with
    | nil => exact h2.elim
    | cons r1 r2 =>
      cases r2 with
      | nil => exact ⟨_, δ2, g2, _, rfl, h2, st2, S2, r1⟩
      | cons _ _ => exact h2.elim
  · rw [hks]
    subst ez
    cases r2 with
    | cons ru rt =>
      cases rt
      rename_i u
      obtain ⟨hp2, gg, dd, t, os⟩ := s2
      refine su_callK S bk hr.room mgS I2 fun h' t' e2 dx tA kk ne nd dne hx hn => ?_
      obtain ⟨G, J, gk, ge, hd, na⟩ := su_side (t' := t') I2 ru kk ne nd dne hn
      have ha := I2.hok.gone ne
      obtain ⟨S3, st3⟩ := S2.alloc (n := X.N.length) (o := .xd [(b.fld, v)]) hd
      obtain ⟨S4, st4⟩ := S3.alloc (n := X.N.length) (p := e2) (o := ExcO (He.ga X.K x) (some dx) e2) (by rw [upd_ne (Ne.symm dne)]; exact ha)
      refine ⟨.ref e2, _, J.laidN (t' := t') (o := ExcO (He.ga X.K x) (some dx) e2) gk ge na (excO_ok hx ⟨rfl, rfl⟩ rfl), rfl, k1 _ δ2 _ _ _ hp ((st2.trans st3).trans st4) S4 (.exc1 (gs := [(b.fld, v)]) (dd := dx) upd_same ?_ rfl (.cons ((D2.step st3).step st4) .nil))⟩
      show upd (upd g2.F dx _) e2 _ dx = _
      rw [upd_ne dne, upd_same]
theorem suK_kw {P : Program} {K : PySem.W.Frag} {d : FnA} {C : Addr} {fd : FuncData} (S : SuK P K b C (d.at_.ad K) fd) (e : fnO K (d.at_.ad K) = d.val) (c : d.ok K = true)
    (bd : ∀ (cl : List (Str × Addr)) (kV doc pm : Value) (an : Option Addr) (cdv ct : Value) (u v : Value), bindArgs (PySem.W.fnX d.name d.qual d.params d.body d.scope cl .none kV doc pm an cdv ct) ⟨[u], [(b.par, v)]⟩ = pure [(("self" : Str), u), (b.par, v)]) (s : Shared) (u v : Value) : BindsTo s fd ⟨[u], [(b.par, v)]⟩ ((["self", b.par] : List Str).zip [u, v]) := by
  obtain ⟨name, qual, params, scope, dV, kV, doc, pm, ct, oc, ccl, cl, an, od, cdd, cld, osl, ccs, csl, cc, cda, ar, vs, file, tf, cd, rfl, lk, _⟩ := S.ex
  obtain ⟨_, oc', od', cl', kV', doc', pm', cdv', ct', an', osl', lk', _⟩ := FnA.obj e c
  have z := lk.symm.trans lk'
  simp only [Option.some.injEq, Obj.mk.injEq] at z
  have z2 := Data.func.inj z.2.2.1
  rw [z2]
  exact .of_eq (bd _ _ _ _ _ _ _ u v)
end
end DL

/-! enumerate and zip, walked. -/
namespace DL
open PySem PySem.Spec L2
open PyProof.Rows hiding St
section
variable {X : Cx} {B : Base} {K : PySem.W.Frag} {n : Nat} {e e2 : Expr} {te : TDX} {ta : TDA} {p pos tpos : Pos} {elts : List Expr} {kk : Nat}
def enumD (ds : List D) : List D := ds.zipIdx.map fun q => .tup [.int (q.2 : Nat), q.1]
theorem enumD_get {ds : List D} {i : Nat} {d : D} (h : (enumD ds)[i]? = some d) : ∃ x, ds[i]? = some x ∧ d = .tup [.int (i : Nat), x] := by
  unfold enumD at h
  rw [List.getElem?_map, List.getElem?_zipIdx] at h
  cases q : ds[i]? with
  | none => rw [q] at h; cases h
  | some x =>
    rw [q] at h
    simp only [Option.map_some, Nat.zero_add, Option.some.injEq] at h
    exact ⟨x, rfl, h.symm⟩
theorem iter_enum {a : Addr} {xs : List V} {ds : List D} {g1 : Gs} {H1 : Hp} (h : SqL K g1.F a xs) (r : Dens K g1.W g1.F xs ds) : IterD K B n (Ite K a) (enumD ds) g1 H1 := fun i g H σ δ st S =>
  ⟨fun d q => by
    obtain ⟨x0, e0, rfl⟩ := enumD_get q
    obtain ⟨v, e1, r1⟩ := r.get e0
    have hq : SqL K H a xs := SqL.up S.ret.sub (SqL.up st.up h)
    refine ⟨⟨xs, v, hq, e1⟩, fun u H' z => ?_⟩
    obtain ⟨T, x', rfl, hT, rfl, f1⟩ := z
    have e4 : x' = v := Option.some.inj ((f1 xs hq).symm.trans e1)
    subst e4
    obtain ⟨S2, st2⟩ := S.alloc (n := n) (o := .tup [.int (i : Nat), x']) hT
    exact ⟨_, st2, S2, .tup (.inl (.inl upd_same)) (.cons (.int _) (.cons ((r1.step st).step st2) .nil))⟩, fun hl => ⟨xs, SqL.up S.ret.sub (SqL.up st.up h), by
      unfold enumD at hl
      simp only [List.length_map, List.length_zipIdx] at hl
      rw [r.length]; exact hl⟩⟩
/-- enumerate(list) -/
def dEnum (te : TDX) : TDI := fun rx δ P => te rx δ fun d δ1 => match d with
  | .lst ds => P (enumD ds) δ1
  | .kls ds => P (enumD ds) δ1
  | _ => False
theorem di_enum (hg : Gl X "enumerate") (hm : X.mg "enumerate" = none) (he : DE X B e te) (hs : starEach [e] X.env = [(false, eval e X.env)] := by rfl) (hse : starEach (e :: []) X.env = (false, eval e X.env) :: starEach [] X.env := by rfl) :
    DI X B (.Tuple elts kk tpos) (.Call (.Name "enumerate" p) [e] [] pos) (dEnum te) :=
  ⟨fun rx tk => PI.imp (pi_enum hg hm ((da_cons he da_nil hse).run rx tk) hs) fun σ H R _ ⟨g, δ, P, S, q, k⟩ => ⟨g, δ, (fun ds δ' => match ds with
      | [d] => (match d with
        | .lst xs => P (enumD xs) δ'
        | .kls xs => P (enumD xs) δ'
        | _ => False)
      | _ => False), S, q, fun ds δ1 g1 H1 vs h1 st1 S1 D1 => by
    cases D1 with
    | nil => exact h1.elim
    | cons r1 r2 =>
      cases r2 with
      | cons _ _ => exact h1.elim
      | nil =>
        cases r1 with
        | @lst a xs es h r => exact ⟨a, xs, rfl, SqL.of (S1.ret.sub _ _ h), k _ δ1 g1 H1 _ h1 st1 S1 (iter_enum (.inl (.inl h)) r)⟩
        | @kls a xs es h r => exact ⟨a, xs, rfl, SqL.up S1.ret.sub h, k _ δ1 g1 H1 _ h1 st1 S1 (iter_enum h r)⟩
        | _ => exact h1.elim⟩⟩
/-! ### zip -/
def zipD : List D → List D → List D
  | x :: xs, y :: ys => .tup [x, y] :: zipD xs ys
  | _, _ => []
theorem zipD_get : ∀ {xs ys : List D} {i : Nat} {d : D}, (zipD xs ys)[i]? = some d → ∃ x y, xs[i]? = some x ∧ ys[i]? = some y ∧ d = .tup [x, y]
  | [], _, i, d, h => by simp [zipD] at h
  | _ :: _, [], i, d, h => by simp [zipD] at h
  | x :: xs, y :: ys, 0, d, h => by
    simp [zipD] at h
    exact ⟨x, y, rfl, rfl, h.symm⟩
  | x :: xs, y :: ys, i + 1, d, h => by
    have h' : (zipD xs ys)[i]? = some d := by simpa [zipD] using h
    obtain ⟨a, b, e1, e2, e3⟩ := zipD_get h'
    exact ⟨a, b, by simpa using e1, by simpa using e2, e3⟩
theorem zipD_len : ∀ {xs ys : List D}, (zipD xs ys).length = min xs.length ys.length
  | [], _ => by simp [zipD]
  | _ :: _, [] => by simp [zipD]
  | x :: xs, y :: ys => by
    simp only [zipD, List.length_cons, zipD_len (xs := xs) (ys := ys)]
    omega
theorem iter_zipL {a b : Addr} {xs ys : List V} {ds es : List D} {g1 : Gs} {H1 : Hp} (h1 : SqL K g1.F a xs) (r1 : Dens K g1.W g1.F xs ds) (h2 : SqL K g1.F b ys) (r2 : Dens K g1.W g1.F ys es) : IterD K B n (Itz K a b) (zipD ds es) g1 H1 := fun i g H σ δ st S => by
  have q1 : SqL K H a xs := SqL.up S.ret.sub (SqL.up st.up h1)
  have q2 : SqL K H b ys := SqL.up S.ret.sub (SqL.up st.up h2)
  refine ⟨fun d q => ?_, fun hl => ⟨xs, ys, q1, q2, ?_⟩⟩
  · obtain ⟨x0, y0, e1, e2, rfl⟩ := zipD_get q
    obtain ⟨u, f1, s1⟩ := r1.get e1
    obtain ⟨v, f2, s2⟩ := r2.get e2
    refine ⟨⟨xs, ys, u, v, q1, q2, f1, f2⟩, fun w H' z => ?_⟩
    obtain ⟨T, x', y', rfl, hT, rfl, g1', g2'⟩ := z
    have ex : x' = u := Option.some.inj ((g1' xs q1).symm.trans f1)
    have ey : y' = v := Option.some.inj ((g2' ys q2).symm.trans f2)
    subst ex ey
    obtain ⟨S2, st2⟩ := S.alloc (n := n) (o := .tup [x', y']) hT
    exact ⟨_, st2, S2, .tup (.inl (.inl upd_same)) (.cons ((s1.step st).step st2) (.cons ((s2.step st).step st2) .nil))⟩
  · rw [zipD_len] at hl
    rw [r1.length, r2.length]
    omega
theorem iter_zipT {a b : Addr} {xs ys : List V} {ds es : List D} {g1 : Gs} {H1 : Hp} (h1 : SqT K g1.F a xs) (r1 : Dens K g1.W g1.F xs ds) (h2 : SqT K g1.F b ys) (r2 : Dens K g1.W g1.F ys es) : IterD K B n (RZ.ItzT K a b) (zipD ds es) g1 H1 := fun i g H σ δ st S => by
  have q1 : SqT K H a xs := SqT.up S.ret.sub (SqT.up st.up h1)
  have q2 : SqT K H b ys := SqT.up S.ret.sub (SqT.up st.up h2)
  refine ⟨fun d q => ?_, fun hl => ⟨xs, ys, q1, q2, ?_⟩⟩
  · obtain ⟨x0, y0, e1, e2, rfl⟩ := zipD_get q
    obtain ⟨u, f1, s1⟩ := r1.get e1
    obtain ⟨v, f2, s2⟩ := r2.get e2
    refine ⟨⟨xs, ys, u, v, q1, q2, f1, f2⟩, fun w H' z => ?_⟩
    obtain ⟨T, x', y', rfl, hT, rfl, g1', g2'⟩ := z
    have ex : x' = u := Option.some.inj ((g1' xs q1).symm.trans f1)
    have ey : y' = v := Option.some.inj ((g2' ys q2).symm.trans f2)
    subst ex ey
    obtain ⟨S2, st2⟩ := S.alloc (n := n) (o := .tup [x', y']) hT
    exact ⟨_, st2, S2, .tup (.inl (.inl upd_same)) (.cons ((s1.step st).step st2) (.cons ((s2.step st).step st2) .nil))⟩
  · rw [zipD_len] at hl
    rw [r1.length, r2.length]
    omega
/-- zip of two lists or of two tuples -/
def dZip (t : TDA) : TDI := fun rx δ P => t rx δ fun ds δ1 => match ds with
  | [.lst xs, .lst ys] => P (zipD xs ys) δ1
  | [.tup xs, .tup ys] => P (zipD xs ys) δ1
  | _ => False
theorem di_zip {t : TDA} (hg : Gl X "zip") (hm : X.mg "zip" = none) (ha : DA X B [e, e2] t) (hs : starEach [e, e2] X.env = (false, eval e X.env) :: starEach [e2] X.env := by rfl) (hpl : (backTo pos (starEach [e2] X.env)).any (·.1) = false := by rfl) :
    DI X B (.Tuple elts kk tpos) (.Call (.Name "zip" p) [e, e2] [] pos) (dZip t) :=
  ⟨fun rx tk => PI.imp (RZ.pi_zipA hg hm (ha.run rx tk) hs hpl) fun σ H R _ ⟨g, δ, P, S, q, k⟩ => ⟨g, δ, _, S, q, fun ds δ1 g1 H1 vs h1 st1 S1 D1 => by
    cases D1 with
    | nil => exact h1.elim
    | cons r1 r2 =>
      cases r2 with
      | nil => cases r1 <;> exact h1.elim
      | cons r2 r3 =>
        cases r3 with
        | cons _ _ => cases r1 <;> cases r2 <;> exact h1.elim
        | nil =>
          cases r1 with
          | @lst a xs es h r =>
            cases r2 with
            | @lst b ys fs h' r' => exact ⟨a, b, xs, ys, rfl, .inl ⟨SqL.of (S1.ret.sub _ _ h), SqL.of (S1.ret.sub _ _ h'), k _ δ1 g1 H1 _ h1 st1 S1 (iter_zipL (.inl (.inl h)) r (.inl (.inl h')) r')⟩⟩
            | _ => exact h1.elim
          | @tup a xs es h r =>
            cases r2 with
            | @tup b ys fs h' r' => exact ⟨a, b, xs, ys, rfl, .inr ⟨SqT.up S1.ret.sub h, SqT.up S1.ret.sub h', k _ δ1 g1 H1 _ h1 st1 S1 (iter_zipT h r h' r')⟩⟩
            | _ => exact h1.elim
          | _ => cases r2 <;> exact h1.elim⟩⟩
end
end DL

/-! repr of data that may hold dicts. -/
namespace DL
open PySem PySem.Spec L2
open PyProof.Rows hiding St
def keyPD : Key → PyData
  | .inl i => .int i
  | .inr x => .str x
mutual
def toPDX : D → Option PyData
  | .non => some .none
  | .bl b => some (.bool b)
  | .int i => some (.int i)
  | .str x => some (.str x)
  | .lst xs => (toPDXs xs).map .list
  | .tup xs => (toPDXs xs).map .tuple
  | .dct kvs => (toPDXk kvs).map .dict
  | _ => none
def toPDXs : List D → Option (List PyData)
  | [] => some []
  | d :: ds => match toPDX d, toPDXs ds with
    | some p, some ps => some (p :: ps)
    | _, _ => none
def toPDXk : List (Key × D) → Option (List (PyData × PyData))
  | [] => some []
  | (k, d) :: ds => match toPDX d, toPDXk ds with
    | some p, some ps => some ((keyPD k, p) :: ps)
    | _, _ => none
end
section
variable {X : Cx} {pins : List (Addr × Obj)} {σ : L2.St} {H F : Hp} {W : DW} {s : Shared}
theorem sys_none (I : Inv X pins σ H s) (hK : (X.K.lookup sysModules).isSome = true) : H sysModules = none := by
  obtain ⟨o, e⟩ := Option.isSome_iff_exists.mp hK
  exact (I.bs _ _ (I.mod.kin _ _ e)).2
theorem keyPD_reads {h : Heap} {k : Key} {u : Value} (e : keyIs k u = true) : Reads h u (keyPD k) [] := by
  rcases keyIs_shape e with ⟨i, t, rfl, rfl⟩ | ⟨x, t, rfl, rfl⟩
  · exact .int i t
  · exact .str x t
/-- what a value reads as, where dicts are let -/
def RdX (h : Heap) (u : Value) (p : PyData) : Prop := ∃ as, Reads h u p as ∧ sysModules ∉ as
def RdXs (h : Heap) (us : List Value) (ps : List PyData) : Prop := ∃ as, ReadsAll h us ps as ∧ sysModules ∉ as
theorem RdXs.nil {h : Heap} : RdXs h [] [] := ⟨[], .nil, by simp⟩
theorem RdXs.cons {h : Heap} {u : Value} {us : List Value} {p : PyData} {ps : List PyData} : RdX h u p → RdXs h us ps → RdXs h (u :: us) (p :: ps)
  | ⟨as, r, n⟩, ⟨bs, rs, m⟩ => ⟨as ++ bs, .cons r rs, by simp [n, m]⟩
mutual
theorem Den.rdx (I : Inv X pins σ H s) (hK : (X.K.lookup sysModules).isSome = true) (u : Up F H) : ∀ {d : D} {p : PyData}, toPDX d = some p → ∀ {v : V} {w : Value}, Den X.K W F v d → RelV v w → RdX s.heap w p
  | .non, p, e, v, w, r, rv => by
    cases e; cases r; cases rv
    exact ⟨[], .none, by simp⟩
  | .bl b, p, e, v, w, r, rv => by
    cases e; cases r; cases rv
    exact ⟨[], .bool _, by simp⟩
  | .int i, p, e, v, w, r, rv => by
    cases e; cases r
    obtain ⟨t, rfl⟩ := rv
    exact ⟨[], .int _ _, by simp⟩
  | .str i, p, e, v, w, r, rv => by
    cases e; cases r
    obtain ⟨t, rfl⟩ := rv
    exact ⟨[], .str _ _, by simp⟩
  | .lst ds, p, e, v, w, r, rv => by
    cases r with
    | @lst a xs es h rs =>
      cases rv
      unfold toPDX at e
      cases q : toPDXs ds with
      | none => rw [q] at e; cases e
      | some ps =>
        rw [q] at e; cases e
        have hF := u _ _ h
        obtain ⟨its, rv, ⟨o, n, ho, hc, _, hd⟩, _⟩ := I.list (SqL.of hF)
        obtain ⟨as, ra, na⟩ := Dens.rdx I hK u q rs rv
        refine ⟨a :: as, .list ho hc hd ra, ?_⟩
        simp only [List.mem_cons, not_or]
        refine ⟨fun z => ?_, na⟩
        rw [← z, sys_none I hK] at hF; cases hF
  | .tup ds, p, e, v, w, r, rv => by
    cases r with
    | @tup a xs es h rs =>
      cases rv
      unfold toPDX at e
      cases q : toPDXs ds with
      | none => rw [q] at e; cases e
      | some ps =>
        rw [q] at e; cases e
        obtain ⟨its, rv, ⟨o, ho, hc, n, hd⟩, _⟩ := I.tuple (SqT.up u h)
        obtain ⟨as, ra, na⟩ := Dens.rdx I hK u q rs rv
        exact ⟨as, .tuple ho hc hd ra, na⟩
  | .dct kvs, p, e, v, w, r, rv => by
    cases r with
    | @dct a ks es h hk rs =>
      cases rv
      unfold toPDX at e
      cases q : toPDXk kvs with
      | none => rw [q] at e; cases e
      | some ps =>
        rw [q] at e; cases e
        have hF := u _ _ h
        obtain ⟨_, hs, vs, kv, o, es, ep, ho, hx, hdt, _, pr, _⟩ := I.hok _ _ hF
        obtain ⟨⟨as, ra, na⟩, ⟨bs, rb, nb⟩⟩ := Densk.rdx I hK u q hk rs kv pr
        refine ⟨a :: as ++ bs, .dict ho hx.1 hdt ra rb, ?_⟩
        simp only [List.cons_append, List.mem_cons, List.mem_append, not_or]
        refine ⟨fun z => ?_, na, nb⟩
        rw [← z] at hs
        simp at hs
  | .kls _, p, e, v, w, r, rv => by cases e
  | .ty _, p, e, v, w, r, rv => by cases e
  | .glo _, p, e, v, w, r, rv => by cases e
  | .ob _ _, p, e, v, w, r, rv => by cases e
  | .exc _ _, p, e, v, w, r, rv => by cases e
  | .drw, p, e, v, w, r, rv => by cases e
  | .adr _, p, e, v, w, r, rv => by cases e
theorem Dens.rdx (I : Inv X pins σ H s) (hK : (X.K.lookup sysModules).isSome = true) (u : Up F H) : ∀ {ds : List D} {ps : List PyData}, toPDXs ds = some ps → ∀ {vs : List V} {ws : List Value}, Dens X.K W F vs ds → Vals vs ws → RdXs s.heap ws ps
  | [], ps, e, vs, ws, r, rv => by
    cases e; cases r; cases rv
    exact .nil
  | d :: ds, ps, e, vs, ws, r, rv => by
    unfold toPDXs at e
    cases q : toPDX d with
    | none => rw [q] at e; cases e
    | some p =>
      cases q2 : toPDXs ds with
      | none => rw [q, q2] at e; cases e
      | some ps =>
        rw [q, q2] at e; cases e
        cases r with
        | cons r1 r2 =>
          cases rv with
          | cons v1 v2 => exact .cons (Den.rdx I hK u q r1 v1) (Dens.rdx I hK u q2 r2 v2)
theorem Densk.rdx (I : Inv X pins σ H s) (hK : (X.K.lookup sysModules).isSome = true) (u : Up F H) : ∀ {kvs : List (Key × D)} {ps : List (PyData × PyData)}, toPDXk kvs = some ps → ∀ {ks : List (Key × V)} {vs : List (Key × Value)} {es : List DictEntry}, ks.map (·.1) = kvs.map (·.1) → Dens X.K W F (ks.map (·.2)) (kvs.map (·.2)) → KV ks vs → Pairs (mixKind X.prog X.w) es vs →
    RdXs s.heap (es.map (·.key)) (ps.map (·.1)) ∧ RdXs s.heap (es.map (·.val)) (ps.map (·.2))
  | [], ps, e, ks, vs, es, hk, r, kv, pr => by
    cases e
    cases ks with
    | cons _ _ => cases hk
    | nil =>
      cases kv
      cases pr
      exact ⟨.nil, .nil⟩
  | (k, d) :: kvs, ps, e, ks, vs, es, hk, r, kv, pr => by
    unfold toPDXk at e
    cases q : toPDX d with
    | none => rw [q] at e; cases e
    | some p =>
      cases q2 : toPDXk kvs with
      | none => rw [q, q2] at e; cases e
      | some ps =>
        rw [q, q2] at e; cases e
        cases ks with
        | nil => cases hk
        | cons k1 ks =>
          simp only [List.map_cons, List.cons.injEq] at hk
          cases r with
          | cons r1 r2 =>
            cases kv with
            | cons kv1 kv2 =>
              cases pr with
              | cons p1 p2 p3 =>
                obtain ⟨a1, a2⟩ := Densk.rdx I hK u q2 hk.2 r2 kv2 p3
                refine ⟨.cons ⟨[], ?_, by simp⟩ a1, .cons ?_ a2⟩
                · have : k = _ := hk.1.symm.trans kv1.1
                  rw [this]
                  exact keyPD_reads p1
                · show RdX s.heap (DictEntry.val _) p
                  rw [p2]
                  exact Den.rdx I hK u q r1 kv1.2
end
/-- repr, dicts let -/
def rReprX (X : Cx) : List V → Hp → VK → Prop := fun xs H Q => ∃ v p, xs = [v] ∧ (∀ pins σ s w, Inv X pins σ H s → RelV v w → RdX s.heap w p) ∧ p.showable = true ∧ p.depth ≤ 60 ∧ p.shown.length ≤ sizeLine ∧ Q (.str p.shown) H
theorem call_reprX {k : Nat} (hr : Rm k X.A) : CallR X (.builtin "repr") (rReprX X) := by
  intro pins s σ H xs us Q I r h
  obtain ⟨v, p, rfl, dp, hs, hz, hl, q⟩ := h
  obtain ⟨u, rfl, ru⟩ := vals1 r
  obtain ⟨as, rd, na⟩ := dp pins σ s u I ru
  have hu := hr.u64
  have fin : ∀ {a : Addr}, Reads s.heap (.ref a) p as → wpAny (model X.prog X.w) X.A (call (.builtin "repr") [.ref a]) (EP X pins σ Q) X.xe s := fun {a} rd =>
    repr_of_reads' rd hs (fun _ => na) hr.gd (by omega) (fun _ _ e => e) (fun h' u' tk k => ⟨.str _, H, I.kept (t' := tk) k, ⟨_, rfl⟩, q⟩) hl
  cases rd with
  | none => exact PySem.P.repr_of_none ⟨.str _, H, I.tok _, ⟨_, rfl⟩, q⟩
  | bool b => exact PySem.P.repr_of_bool ⟨.str _, H, I.tok _, ⟨_, rfl⟩, by cases b <;> exact q⟩
  | int i t => exact PySem.P.repr_of_int (of_decide_eq_true hs) ⟨.str _, H, I.tok _, ⟨_, rfl⟩, q⟩
  | str x t => exact PySem.P.repr_of_str ⟨.str _, H, I.tok _, ⟨_, rfl⟩, q⟩ hl
  | list h1 h2 h3 h4 => exact fin (.list h1 h2 h3 h4)
  | tuple h1 h2 h3 h4 => exact fin (.tuple h1 h2 h3 h4)
  | dict h1 h2 h3 h4 h5 => exact fin (.dict h1 h2 h3 h4 h5)
def reprX (ds : List D) (P : D → Prop) : Prop := match ds with
  | [d] => ∃ p, toPDX d = some p ∧ p.showable = true ∧ p.depth ≤ 60 ∧ p.shown.length ≤ sizeLine ∧ P (.str p.shown)
  | _ => False
theorem lc_reprX (hK : (X.K.lookup sysModules).isSome = true) : LiftC X.K (rReprX X) reprX := fun B n g H σ δ xs ds P Q S rs q k => by
  cases rs with
  | nil => exact q.elim
  | cons r1 r2 =>
    cases r2 with
    | cons _ _ => cases r1 <;> exact q.elim
    | nil =>
      obtain ⟨p, e, h1, h2, h3, hp⟩ := q
      exact ⟨_, p, rfl, fun pins σ' s w I rv => Den.rdx I hK S.ret.sub e r1 rv, h1, h2, h3, k _ g H _ hp (Step.refl _ _ _) S (.str _)⟩
end
end DL

/-! A family of classes of exceptions: none under another one. Exceptions as values. -/
namespace DL
open PySem PySem.Spec L2
open PyProof.Rows hiding St
structure Fam where
  rows : List Str
  cols : List Str
  tops : List Tq
structure FamOk (K : PySem.W.Frag) (J : Fam) : Prop where
  isa : IsaOk K ⟨[], J.rows, []⟩
  tab : ∀ a ∈ J.rows, ∀ b ∈ J.cols, PySem.W.kitOne K ((Tq.own a).v K) ((Tq.own b).v K) = some (decide (a = b))
  top : ∀ a ∈ J.rows, ∀ t ∈ J.tops, PySem.W.kitOne K ((Tq.own a).v K) (t.v K) = some true
def famB (J : Fam) (K : PySem.W.Frag) : Bool := isaB ⟨[], J.rows, []⟩ K && ((J.rows.all fun a => J.cols.all fun b => kitB1 (.own a) (.own b) (decide (a = b)) K) && J.rows.all fun a => J.tops.all fun t => kitB1 (.own a) t true K)
theorem famB_ok {J : Fam} {K : PySem.W.Frag} (h : famB J K = true) : FamOk K J := by
  obtain ⟨h1, h⟩ := He.ba h
  obtain ⟨h2, h3⟩ := He.ba h
  exact ⟨isaB_ok h1, fun a ha b hb => of_decide_eq_true (List.all_eq_true.mp (List.all_eq_true.mp h2 a ha) b hb), fun a ha b hb => of_decide_eq_true (List.all_eq_true.mp (List.all_eq_true.mp h3 a ha) b hb)⟩
/-- isinstance(error, class) within a family -/
def isaFam (J : Fam) (ds : List D) (P : D → Prop) : Prop := match ds with
  | [.exc c _, y] => c ∈ J.rows ∧ ((∃ b, y = .glo b ∧ b ∈ J.cols ∧ P (.bl (decide (c = b)))) ∨ ∃ t, clsD y = some t ∧ t ∈ J.tops ∧ P (.bl true))
  | _ => False
theorem lc_isaFam {X : Cx} {J : Fam} (T : FamOk X.K J) : LiftC X.K (rIsa X) (isaFam J) := fun B n g H σ δ xs ds P Q S rs q k => by
  have fin : ∀ b, P (.bl b) → Q (.bl b) H := fun b hp => k _ g H _ hp (Step.refl _ _ _) S (.bl b)
  have main : ∀ {v w : V} {c : Str} {fs : List (Str × D)} {y : D} {t : Tq} {b : Bool}, Den X.K g.W g.F v (.exc c fs) → Den X.K g.W g.F w y → c ∈ J.rows → clsD y = some t → PySem.W.kitOne X.K ((Tq.own c).v X.K) (t.v X.K) = some b → P (.bl b) → rIsa X [v, w] H Q := fun {v w c fs y t b} r1 r2 hc e2 hk hp => by
    refine ⟨b, fun pins σ s us I rv Q' E hq => ?_, fin b hp⟩
    obtain ⟨u1, u2, rfl, rv1, rv2⟩ := vals2 rv
    obtain ⟨Pz, Z, p, hx⟩ := kit_den T.isa I S.ret.sub rv1 r1 (if_pos hc)
    rw [r2.cls e2 rv2]
    exact PySem.W.kia_one Z I.kIn p hk hx hq
  unfold isaFam at q
  split at q
  · obtain ⟨hc, q⟩ := q
    cases rs with
    | cons r1 r2 =>
      cases r2 with
      | cons r2 r3 =>
        cases r3
        rcases q with ⟨b, rfl, hb, hp⟩ | ⟨t, e, ht, hp⟩
        · exact main r1 r2 hc rfl (T.tab _ hc b hb) hp
        · exact main r1 r2 hc e (T.top _ hc t ht) hp
  · exact q.elim
/-! ### exceptions made, as values -/
section
variable {X : Cx} {B : Base} {x : Str} {e : Expr} {td : TDX} {p pos kpos : Pos} {b : SuB} {nm : Str}
/-- what is known of a class of exceptions with super().__init__ -/
def SuE (P : Program) (K : PySem.W.Frag) (b : SuB) (x : Str) : Prop := ∃ f fd, SuK P K b (He.ga K x) f fd ∧ ∀ (s : Shared) (u v : Value), BindsTo s fd ⟨[u], [(b.par, v)]⟩ ((["self", b.par] : List Str).zip [u, v])
theorem SuE.su {P : Program} {K : PySem.W.Frag} : SuE P K b x → ∃ f fd, SuK P K b (He.ga K x) f fd | ⟨f, fd, S, _⟩ => ⟨f, fd, S⟩
theorem de_excE (S : SuE X.prog X.K b x) (hr : Rm 1 X.A) (mgS : X.mg "super" = none) (hg : Gl X x) (hm : X.mg x = some (.ref (He.ga X.K x))) (he : DE X B e td) (hdb : (x == ("__debug__" : Str)) = false := by decide) (hs : starEach [e] X.env = (false, eval e X.env) :: starEach [] X.env := by rfl) :
    DE X B (.Call (.Name x p) [e] [] pos) (dExcV x b.fld td) := by
  obtain ⟨f, fd, S, _⟩ := S
  exact de_exc (k := 0) S hr mgS hg hm he hdb hs
theorem de_excEK (S : SuE X.prog X.K b x) (hr : Rm 1 X.A) (mgS : X.mg "super" = none) (hg : Gl X x) (hm : X.mg x = some (.ref (He.ga X.K x))) (he : DE X B e td)
    (hall : (backToKw pos (keywordEach [⟨some nm, e, kpos⟩] X.env)).all (·.1.isSome) = true := by rfl) (hks : (backToKw pos (keywordEach [⟨some nm, e, kpos⟩] X.env)).filterMap (·.1) = [b.par] := by rfl)
    (hdb : (x == ("__debug__" : Str)) = false := by decide) (hpl : ((backTo pos (starEach [] X.env)).any (·.1) || (backToKw pos (keywordEach [⟨some nm, e, kpos⟩] X.env)).any (·.1.isNone)) = false := by rfl) :
    DE X B (.Call (.Name x p) [] [⟨some nm, e, kpos⟩] pos) (dExcVK x b.fld td) := by
  obtain ⟨f, fd, S, bk⟩ := S
  exact de_excK (k := 0) S bk hr mgS hg hm he hall hks hdb hpl
def exfB (x : Str) (K : PySem.W.Frag) : Bool := PySem.W.excIn K (He.ga K x) He.veBase "ValueError.__new__" && (PySem.W.keepIn K (.ref (He.ga K x)) && (decide (PySem.W.subIn K (.ref (He.ga K x)) (.type "BaseException") = some true) && decide (PySem.W.typeIn K (.ref (He.ga K x)) = some (.type "type"))))
theorem exfB_ok {K : PySem.W.Frag} (h : exfB x K = true) : ExcF K x := by
  obtain ⟨h1, h⟩ := He.ba h
  obtain ⟨h2, h⟩ := He.ba h
  obtain ⟨h3, h4⟩ := He.ba h
  exact ⟨h1, h2, of_decide_eq_true h3, of_decide_eq_true h4⟩
end
end DL

/-! Words for plain laws: comprehensions, tests, equal texts. -/
namespace DL
open PySem PySem.Spec L2
open PyProof.Rows hiding St
abbrev stepQ (tg : TDG) (tt : TDB) (te : TDX) (vs : List Nat) (d : D) (δ : Env) (Q : Option D → Env → Prop) : Prop :=
  tg d δ fun δ1 => tt (fun _ => False) δ1 fun b δ2 => if b = true then te (fun _ => False) δ2 fun y δ3 => Q (some y) (wipeD δ3 vs) else Q none (wipeD δ2 vs)
/-- a comprehension over l.map it: what each item gives -/
theorem q_comp {α : Type} {it : α → D} {tg : TDG} {tt : TDB} {te : TDX} {vs : List Nat} {P : List D → Env → Prop} {f : α → Option D} {δ0 : Env} : ∀ (l : List α) (acc : List D), acc.length + l.length < 16777216 →
    (∀ a ∈ l, ∀ Q : Option D → Env → Prop, Q (f a) δ0 → stepQ tg tt te vs (it a) δ0 Q) → P (acc ++ l.filterMap f) δ0 → dCompL tg tt te vs P (l.map it) acc δ0
  | [], acc, _, _, h => by
    show P acc δ0
    simpa using h
  | a :: l, acc, hl, hs, h => by
    rw [List.length_cons] at hl
    refine hs a List.mem_cons_self (fun o δ => match o with
      | some y => acc.length < sizeLine ∧ dCompL tg tt te vs P (l.map it) (acc ++ [y]) δ
      | none => dCompL tg tt te vs P (l.map it) acc δ) ?_
    cases e : f a with
    | none =>
      refine q_comp l acc (by omega) (fun b hb => hs b (List.mem_cons_of_mem _ hb)) ?_
      rw [List.filterMap_cons, e] at h
      exact h
    | some y =>
      refine ⟨Nat.lt_of_lt_of_le (show acc.length < 16777216 by omega) (by decide), q_comp l (acc ++ [y]) (by rw [List.length_append]; simp; omega) (fun b hb => hs b (List.mem_cons_of_mem _ hb)) ?_⟩
      rw [List.filterMap_cons, e] at h
      rw [List.append_assoc]
      exact h
theorem fm_all {α β : Type} (g : α → β) : ∀ l : List α, l.filterMap (fun a => some (g a)) = l.map g
  | [] => rfl
  | a :: l => by rw [List.filterMap_cons, List.map_cons, fm_all g l]
/-- .. where each item gives one -/
theorem q_compM {α : Type} {it : α → D} {tg : TDG} {tt : TDB} {te : TDX} {vs : List Nat} {P : List D → Env → Prop} {f : α → D} {δ0 : Env} (l : List α) (hl : l.length < 16777216)
    (hs : ∀ a ∈ l, ∀ Q : Option D → Env → Prop, Q (some (f a)) δ0 → stepQ tg tt te vs (it a) δ0 Q) (h : P (l.map f) δ0) : dCompL tg tt te vs P (l.map it) [] δ0 := by
  refine q_comp (f := fun a => some (f a)) l [] (by simpa using hl) hs ?_
  rw [List.nil_append, fm_all f l]
  exact h
theorem asB_map {α : Type} (g : α → Bool) : ∀ l : List α, asBls (l.map fun a => D.bl (g a)) = some (l.map g)
  | [] => rfl
  | a :: l => by
    have := asB_map g l
    simp only [List.map_cons, asBls, this, Option.map_some]
theorem seqQ {t u : TDS} {rx : D → Prop} {DD : DEnds} {δ : Env} (h : t rx { nx := fun δ' => u rx DD δ', rt := DD.rt, bk := DD.bk, ct := DD.ct } δ) : dSeq t u rx DD δ := h
theorem toPDs_ofInts : ∀ l : List Int, toPDs (l.map D.int) = some (l.map PyData.int)
  | [] => rfl
  | a :: l => by
    show (match toPD (D.int a), toPDs (l.map D.int) with
      | some p, some ps => some (p :: ps)
      | _, _ => none) = _
    rw [toPDs_ofInts l]; rfl
theorem toPDs_ofBls : ∀ l : List Bool, toPDs (l.map D.bl) = some (l.map PyData.bool)
  | [] => rfl
  | a :: l => by
    show (match toPD (D.bl a), toPDs (l.map D.bl) with
      | some p, some ps => some (p :: ps)
      | _, _ => none) = _
    rw [toPDs_ofBls l]; rfl
theorem lay_bls : ∀ l : List Bool, PyData.canLayAll0 (l.map PyData.bool) = true ∧ PyData.depthAll (l.map PyData.bool) = 0
  | [] => ⟨rfl, rfl⟩
  | a :: l => by
    obtain ⟨h1, h2⟩ := lay_bls l
    refine ⟨?_, ?_⟩
    · show (PyData.canLay0 (.bool a) && PyData.canLayAll0 (l.map PyData.bool)) = true
      rw [h1]; rfl
    · show max (PyData.depth (.bool a)) (PyData.depthAll (l.map PyData.bool)) = 0
      rw [h2]; rfl
theorem eqv_bls : ∀ l m : List Bool, PyData.eqvAll (l.map PyData.bool) (m.map PyData.bool) = decide (l = m)
  | [], [] => by simp [PyData.eqvAll]
  | [], _ :: _ => by simp [PyData.eqvAll]
  | _ :: _, [] => by simp [PyData.eqvAll]
  | a :: l, b :: m => by
    rw [List.map_cons, List.map_cons, PyData.eqvAll, eqv_bls l m]
    have : PyData.eqv (.bool a) (.bool b) = decide (a = b) := by cases a <;> cases b <;> simp [PyData.eqv]
    rw [this]
    by_cases h : a = b <;> by_cases h2 : l = m <;> simp [h, h2]
theorem shaped_bls (l : List Bool) : SeqAt.shaped (.list (l.map PyData.bool)) = true := by
  obtain ⟨h1, h2⟩ := lay_bls l
  exact shaped_of h1 (by omega)
theorem q_neBs {l m : List Bool} {P : D → Prop} (h : P (.bl (!decide (l = m)))) : neD (.lst (l.map D.bl)) (.lst (m.map D.bl)) P := by
  refine ⟨.list (l.map PyData.bool), .list (m.map PyData.bool), ?_, ?_, shaped_bls l, shaped_bls m, ?_⟩
  · simp only [toPD, toPDs_ofBls, Option.map_some]
  · simp only [toPD, toPDs_ofBls, Option.map_some]
  · rw [PyData.eqv, eqv_bls]; exact h
end DL

/-! enumerate(tuple). -/
namespace DL
open PySem PySem.Spec L2
open PyProof.Rows hiding St
def ItB (b : Bool) (h : Heap) (it a : Addr) (i : Nat) : Prop := match b with
  | false => h.IsListIter it a i
  | true => h.IsTupleIter it a i
def HoB (b : Bool) (h : Heap) (a : Addr) (its : Array Value) : Prop := match b with
  | false => h.IsList a its
  | true => h.IsTuple a its
def SqB (K : PySem.W.Frag) (b : Bool) (H : Hp) (a : Addr) (xs : List V) : Prop := match b with
  | false => SqL K H a xs
  | true => SqT K H a xs
theorem ItB.live {b : Bool} {h : Heap} {it a : Addr} {i : Nat} (x : ItB b h it a i) : ∃ o, h.get? it = some o ∧ ∀ v, o.data ≠ .cell v := by
  cases b with
  | false =>
    obtain ⟨o, e, _, d⟩ := x
    exact ⟨o, e, fun v z => by rw [d] at z; cases z⟩
  | true =>
    obtain ⟨o, e, _, d⟩ := x
    exact ⟨o, e, fun v z => by rw [d] at z; cases z⟩
theorem ItB.move {b : Bool} {h h' : Heap} {it a : Addr} {i : Nat} (x : ItB b h it a i) (k : ∀ o, h.get? it = some o → h'.get? it = some o) : ItB b h' it a i := by
  cases b with
  | false => exact Heap.IsListIter.at x k
  | true => exact Heap.IsTupleIter.at x k
theorem SqB.inj {X : Cx} {pins : List (Addr × Obj)} {σ : L2.St} {H : Hp} {s : Shared} (I : Inv X pins σ H s) {b : Bool} {a : Addr} {xs ys : List V} (p : SqB X.K b H a xs) (q : SqB X.K b H a ys) : xs = ys := by
  cases b with
  | false => exact I.list_inj p q
  | true => exact I.tuple_inj p q
/-- what stands at a now, drawn through it -/
theorem drawsB {X : Cx} {pins : List (Addr × Obj)} {σ : L2.St} {H : Hp} {s : Shared} (I : Inv X pins σ H s) (hc : X.calm = true) {b : Bool} {a it : Addr} {xs : List V} (p : SqB X.K b H a xs) (ne : a ≠ it) :
    ∃ its : List Value, Vals xs its ∧ HoB b s.heap a its.toArray ∧ Draws X.prog X.w X.A.in1 it [it, a] its.toArray.size (fun i v => its.toArray[i]? = some v) (fun i h => ItB b h it a i ∧ HoB b h a its.toArray) := by
  have hh : X.A.handled = none := I.ok.hd hc
  cases b with
  | false =>
    obtain ⟨its, rv, q, _⟩ := I.list p
    exact ⟨its, rv, q.isList, Draws.list (A := X.A.in1) hh it a ne its.toArray⟩
  | true =>
    obtain ⟨its, rv, q, _⟩ := I.tuple p
    exact ⟨its, rv, q, Draws.tuple (A := X.A.in1) hh it a ne its.toArray⟩
/-- an iterator that is at its end -/
theorem drawsEnd {X : Cx} {pins : List (Addr × Obj)} {σ : L2.St} {H : Hp} {s : Shared} (I : Inv X pins σ H s) (hc : X.calm = true) {b : Bool} {a it : Addr} {xs : List V} {i : Nat} (p : SqB X.K b H a xs) (ne : a ≠ it) (le : xs.length ≤ i) :
    ∃ its : List Value, HoB b s.heap a its.toArray ∧ Draws X.prog X.w X.A.in1 it [it, a] i (fun _ _ => True) (fun j h => j = i ∧ ItB b h it a i ∧ HoB b h a its.toArray) := by
  obtain ⟨its, rv, holds, D⟩ := drawsB I hc p ne
  have hh : X.A.in1.handled = none := I.ok.hd hc
  have l := rv.length
  have none_at : its.toArray[i]? = none := by simp; omega
  refine ⟨its, holds, ⟨fun j h st => let ⟨o, e, _⟩ := st.2.1.live; ⟨o, e⟩, fun j h h' st k => ⟨st.1, st.2.1.move fun o q => k it (by simp) o q, ?_⟩, fun j s' Q E lt st => absurd st.1 (Nat.ne_of_lt lt), fun s' Q E st k => ?_⟩⟩
  · cases b with
    | false => exact Heap.IsList.at st.2.2 fun o q => k a (by simp) o q
    | true => exact Heap.IsTuple.at st.2.2 fun o q => k a (by simp) o q
  · cases b with
    | false => exact wpAny_nextOf_list_end hh st.2.1 st.2.2 none_at k
    | true => exact wpAny_nextOf_tuple_end hh st.2.1 st.2.2 none_at k
/-- what stands at a at each turn, each item in a new pair -/
def IteB (K : PySem.W.Frag) (b : Bool) (a : Addr) : It :=
  ⟨fun i H => ∃ (xs : List V) (x : V), SqB K b H a xs ∧ xs[i]? = some x, fun i H v H' => ∃ T x, v = .ref T ∧ H T = none ∧ H' = upd H T (.tup [.int (i : Nat), x]) ∧ ∀ xs, SqB K b H a xs → xs[i]? = some x, fun i H => ∃ xs : List V, SqB K b H a xs ∧ xs.length ≤ i⟩
theorem turn_enumB {P : Program} {w : World} {K : PySem.W.Frag} {elts : List Expr} {kk : Nat} {tpos : Pos} {b : Bool} {a e it : Addr} (n1 : e ≠ it) (n2 : e ≠ a) (n3 : a ≠ it) :
    Turn P w K (.Tuple elts kk tpos) (IteB K b a) [e, it] e (fun i h => (∃ old, IsEnum h e it ((i : Nat) : Int) old) ∧ ItB b h it a i) where
  mem := List.mem_cons_self
  obj := fun i h sta c hcm => by
    obtain ⟨⟨old, isE⟩, isI⟩ := sta
    rcases (by simpa using hcm : c = e ∨ c = it) with z | z
    · subst z; exact ⟨_, isE, fun v q => nomatch q⟩
    · rw [z]; exact isI.live
  keep := fun i h h2 sta kp => ⟨let ⟨old, isE⟩ := sta.1; ⟨old, kp e List.mem_cons_self _ isE⟩, sta.2.move fun o q => kp it (by simp) o q⟩
  item := by
    intro X pX pw pK calm i pins s σ H E I free sta go
    subst pX pw pK
    obtain ⟨⟨old, isE⟩, isI⟩ := sta
    obtain ⟨xs, x, sq, at_⟩ := go
    obtain ⟨its, vals, holds, D⟩ := drawsB I calm sq n3
    obtain ⟨u, atu, rel⟩ := vals.get at_
    have small : i < its.toArray.size := by
      have := (List.getElem?_eq_some_iff.mp atu).1
      simpa using this
    have le : e < s.heap.objs.size := Heap.lt_size isE
    have li : it < s.heap.objs.size := by
      obtain ⟨o, q, _⟩ := isI.live
      exact Heap.lt_size q
    have apart : e ∉ [it, a] := by simp [n1, n2]
    refine wpAny_pyNext_enum_itemC D isE ⟨isI, holds⟩ small n1 apart fun y h1 tk atY out st1 tup size1 keep1 => ?_
    have ey : y = u := by
      have z : its.toArray[i]? = some u := by simpa using atu
      exact Option.some.inj (atY.symm.trans z)
    subst ey
    refine ⟨_, rfl, wpAny_letOwnedTupleGo_enum (s := { s with heap := h1, toks := tk + 1 }) out fun h2 isE2 same2 => ?_⟩
    have tup2 : h2.get? s.heap.objs.size = some { cls := .type "tuple", data := .seq #[.int i tk, y] } := (same2.2 _ (Nat.ne_of_gt le)).trans tup
    have made : ObjOk X.prog X.w (upd H s.heap.objs.size (.tup [.int (i : Nat), x])) h2 s.heap.objs.size (.tup [.int (i : Nat), x]) :=
      ⟨(by decide : 2 ≤ sizeLine), [.int i tk, y], .cons ⟨_, rfl⟩ (.cons rel .nil), ⟨_, tup2, rfl, _, rfl⟩⟩
    have I2 : Inv X pins σ (upd H s.heap.objs.size (.tup [.int (i : Nat), x])) { s with heap := h2, toks := tk + 1 } :=
      I.turnedNew (ch := [e, it]) (fun c o nc q => (same2.2 c (fun z => nc (by simp [z]))).trans (keep1 c o (fun z => nc (by simp [z])) (fun z => nc (by simp [z])) q)) free (Nat.le_refl _) made
    refine ⟨.ref s.heap.objs.size, _, I2, rfl, ⟨_, x, rfl, I.hok.fresh (Nat.le_refl _), rfl, fun ys hy => by rw [SqB.inj I hy sq]; exact at_⟩, ⟨⟨y, ?_⟩, st1.1.move fun o q => (same2.2 it (Ne.symm n1)).trans q⟩, fun c hcm => ?_⟩
    · have up : ((i + 1 : Nat) : Int) = (i : Int) + 1 := rfl
      rw [up]; exact isE2
    · have lc : c < s.heap.objs.size := by
        rcases (by simpa using hcm : c = e ∨ c = it) with z | z
        · rw [z]; exact le
        · rw [z]; exact li
      rw [upd_ne (Nat.ne_of_lt lc)]
      exact (free c hcm).1
  done := by
    intro X pX pw pK calm i pins s σ H E I free sta stop
    subst pX pw pK
    obtain ⟨⟨old, isE⟩, isI⟩ := sta
    obtain ⟨xs, sq, len⟩ := stop
    obtain ⟨its, holds, D⟩ := drawsEnd I calm sq n3 len
    obtain ⟨f0, f1, f2, f3, f4, f5⟩ := free it (by simp)
    exact wpAny_pyNext_enum_endD D isE ⟨rfl, isI, holds⟩ fun h1 ext => ⟨rfl, I.turned (t' := s.toks) (fun c o nc q => ext c o nc q) f0 f1 f3 f4 f5⟩
  self := fun A i s Q E sta q => let ⟨⟨_, isE⟩, _⟩ := sta; wpAny_pyIter_enum isE q
theorem meets_enum1 {v : Value} {o : Obj} {H : Heap → Prop} (B : Begins v o H) :
    Meets (Builtin.«enumerate.__new__» ⟨[.type "enumerate", v], []⟩) (fun _ R s => H s.heap ∧
      R (.ok (.ret (.ref (s.heap.push o).objs.size))) { s with heap := (s.heap.push o).push { cls := .type "enumerate", data := .fields #[.none, .bool false, .ref s.heap.objs.size, rawInt 0, .none, .none] } }) :=
  .of_wp fun prog w A R s h => by
    obtain ⟨hp, g, d, tk, os⟩ := s
    obtain ⟨begun, h⟩ := h
    have hsub := sub_enumerate
    have it0 : ∀ {A' : Around} {E : Value → Shared → Prop} {Q : Value → Shared → Prop}, Q (.ref hp.objs.size) ⟨hp.push o, g, d, tk, os⟩ → wpAny (model prog w) A' (pyIter v) Q E ⟨hp, g, d, tk, os⟩ :=
      fun q => B.iter prog w _ _ ⟨hp, g, d, tk, os⟩ _ begun q
    wp_walk using it0
    refine wpAny_stack_any fun st0 => wpAny_pure ?_
    split
    · rename_i c0 _ _ _ _ _
      cases (c0 == Value.type "enumerate")
      · wp_walk using it0
        exact ⟨_, rfl, h⟩
      · wp_walk using it0
        exact ⟨_, rfl, h⟩
    · wp_walk using it0
      exact ⟨_, rfl, h⟩
theorem call_enum1 {prog : Program} {w : World} {A : Around} {E : Value → Shared → Prop} {s : Shared} {v : Value} {o : Obj} {H : Heap → Prop} {Q : Value → Shared → Prop} (B : Begins v o H) (begun : H s.heap)
    (h : ∀ h', IsEnum h' (s.heap.objs.size + 1) s.heap.objs.size 0 .none → h'.get? s.heap.objs.size = some o → (∀ b o, s.heap.get? b = some o → h'.get? b = some o) → Q (.ref (s.heap.objs.size + 1)) { s with heap := h' }) :
    wpAny (model prog w) A (call (.type "enumerate") [v]) Q E s := by
  refine callType_new F.called_enumerate (by decide) (F.typeCall_enumerate_1 _) (F.newCall_enumerate_1 _) (fun obj => F.args_object_init_2 obj _) F.entry_enumerate_new
    (meets_enum1 B) ⟨begun, ?_⟩
  have size1 : (s.heap.push o).objs.size = s.heap.objs.size + 1 := Heap.size_push ..
  show _ ∧ _
  rw [size1]
  have isE : IsEnum ((s.heap.push o).push { cls := .type "enumerate", data := .fields #[.none, .bool false, .ref s.heap.objs.size, rawInt 0, .none, .none] }) (s.heap.objs.size + 1) s.heap.objs.size 0 .none := by
    have z := Heap.get?_push_size (s.heap.push o) (o := { cls := .type "enumerate", data := .fields #[.none, .bool false, .ref s.heap.objs.size, rawInt 0, .none, .none] }) rfl
    rw [size1] at z; exact z
  exact ⟨⟨_, isE, rfl⟩, h _ isE (Heap.get?_push_of_some _ (Heap.get?_push_size _ B.free)) fun b o x => Heap.get?_push_of_some _ (Heap.get?_push_of_some _ x)⟩
section
variable {X : Cx} {B : Base} {K : PySem.W.Frag} {n : Nat} {e : Expr} {te : TDX} {ta : TA} {p pos tpos : Pos} {elts : List Expr} {kk : Nat}
def iEnumB (K : PySem.W.Frag) (ta : TA) : TI := fun σ H R => ta σ H fun vs H1 => ∃ a xs b, vs = [.ref a] ∧ SqB K b H1 a xs ∧ R (IteB K b a) H1
theorem pi_enumB (hg : Gl X "enumerate") (hm : X.mg "enumerate" = none) (ha : PA X [e] ta) (hs : starEach [e] X.env = [(false, eval e X.env)] := by rfl) :
    PI X (.Tuple elts kk tpos) (.Call (.Name "enumerate" p) [e] [] pos) (iEnumB X.K ta) := by
  refine ⟨fun pins s σ H R I h => ?_⟩
  refine Call_ (ld_blt I hg hm boot_enumerate (PyProof.Rows.callWith_type1 (thn (ha.run pos pins s σ H _ I h) fun us s1 ⟨vs, H1, I1, r1, q1⟩ => ?_) hs rfl))
  obtain ⟨a, xs, b, ex, sq, q⟩ := q1
  subst ex
  cases r1 with
  | cons r rr =>
    cases rr
    cases r
    have fin : ∀ (o : Obj) (Hh : Heap → Prop), Begins (.ref a) o Hh → Hh s1.heap → (∀ h', h'.get? s1.heap.objs.size = some o → ItB b h' s1.heap.objs.size a 0) → a < s1.heap.objs.size →
        wpAny (model X.prog X.w) X.A (call (.type "enumerate") [.ref a]) (fun v s2 => wpAny (model X.prog X.w) X.A (pyIter v) (PIE X pins σ (.Tuple elts kk tpos) R) X.xe s2) X.xe s1 := fun o Hh Bg hh mk lt => by
      refine call_enum1 Bg hh fun h' isE got keep => wpAny_pyIter_enum isE ?_
      have I2 : Inv X pins σ H1 { s1 with heap := h' } := I1.kept (t' := s1.toks) keep
      refine ⟨s1.heap.objs.size + 1, [s1.heap.objs.size + 1, s1.heap.objs.size], _, _, H1, rfl, I2, turn_enumB (Nat.succ_ne_self _) (Nat.ne_of_gt (Nat.lt_succ_of_lt lt)) (Nat.ne_of_lt lt), ⟨⟨.none, isE⟩, mk _ got⟩, fun c hc => ?_, q⟩
      have le : s1.heap.objs.size ≤ c := by
        rcases (by simpa using hc : c = s1.heap.objs.size + 1 ∨ c = s1.heap.objs.size) with z | z
        · rw [z]; exact Nat.le_succ _
        · rw [z]; exact Nat.le_refl _
      exact I1.fpOk le (I1.hok.fresh le)
    cases b with
    | false =>
      obtain ⟨its, rv, pl, _⟩ := I1.list sq
      exact fin _ _ (begins_list a its.toArray) pl.isList (fun h' g => ⟨_, g, rfl, rfl⟩) (by obtain ⟨o, z, _⟩ := pl.isList; exact Heap.lt_size z)
    | true =>
      obtain ⟨its, rv, pl, _⟩ := I1.tuple sq
      exact fin _ _ (begins_tuple a its.toArray) pl (fun h' g => ⟨_, g, rfl, rfl⟩) (by obtain ⟨o, z, _⟩ := pl; exact Heap.lt_size z)
theorem SqB.up {K : PySem.W.Frag} {b : Bool} {F F' : Hp} {a : Addr} {xs : List V} (h : Up F F') (r : SqB K b F a xs) : SqB K b F' a xs := by
  cases b with
  | false => exact SqL.up h r
  | true => exact SqT.up h r
theorem iter_enumB {b : Bool} {a : Addr} {xs : List V} {ds : List D} {g1 : Gs} {H1 : Hp} (h : SqB K b g1.F a xs) (r : Dens K g1.W g1.F xs ds) : IterD K B n (IteB K b a) (enumD ds) g1 H1 := fun i g H σ δ st S =>
  ⟨fun d q => by
    obtain ⟨x0, e0, rfl⟩ := enumD_get q
    obtain ⟨v, e1, r1⟩ := r.get e0
    have hq : SqB K b H a xs := SqB.up S.ret.sub (SqB.up st.up h)
    refine ⟨⟨xs, v, hq, e1⟩, fun u H' z => ?_⟩
    obtain ⟨T, x', rfl, hT, rfl, f1⟩ := z
    have e4 : x' = v := Option.some.inj ((f1 xs hq).symm.trans e1)
    subst e4
    obtain ⟨S2, st2⟩ := S.alloc (n := n) (o := .tup [.int (i : Nat), x']) hT
    exact ⟨_, st2, S2, .tup (.inl (.inl upd_same)) (.cons (.int _) (.cons ((r1.step st).step st2) .nil))⟩, fun hl => ⟨xs, SqB.up S.ret.sub (SqB.up st.up h), by
      unfold enumD at hl
      simp only [List.length_map, List.length_zipIdx] at hl
      rw [r.length]; exact hl⟩⟩
/-- enumerate(list or tuple) -/
def dEnumB (te : TDX) : TDI := fun rx δ P => te rx δ fun d δ1 => match seqOf d with
  | some ds => P (enumD ds) δ1
  | none => False
theorem di_enumB (hg : Gl X "enumerate") (hm : X.mg "enumerate" = none) (he : DE X B e te) (hs : starEach [e] X.env = [(false, eval e X.env)] := by rfl) (hse : starEach (e :: []) X.env = (false, eval e X.env) :: starEach [] X.env := by rfl) :
    DI X B (.Tuple elts kk tpos) (.Call (.Name "enumerate" p) [e] [] pos) (dEnumB te) :=
  ⟨fun rx tk => PI.imp (pi_enumB hg hm ((da_cons he da_nil hse).run rx tk) hs) fun σ H R _ ⟨g, δ, P, S, q, k⟩ => ⟨g, δ, (fun ds δ' => match ds with
      | [d] => (match seqOf d with
        | some xs => P (enumD xs) δ'
        | none => False)
      | _ => False), S, q, fun ds δ1 g1 H1 vs h1 st1 S1 D1 => by
    cases D1 with
    | nil => exact h1.elim
    | cons r1 r2 =>
      cases r2 with
      | cons _ _ => exact h1.elim
      | nil =>
        cases r1 with
        | @lst a xs es h r => exact ⟨a, xs, false, rfl, SqL.of (S1.ret.sub _ _ h), k _ δ1 g1 H1 _ h1 st1 S1 (iter_enumB (b := false) (.inl (.inl h)) r)⟩
        | @kls a xs es h r => exact ⟨a, xs, false, rfl, SqL.up S1.ret.sub h, k _ δ1 g1 H1 _ h1 st1 S1 (iter_enumB (b := false) h r)⟩
        | @tup a xs es h r => exact ⟨a, xs, true, rfl, SqT.up S1.ret.sub h, k _ δ1 g1 H1 _ h1 st1 S1 (iter_enumB (b := true) h r)⟩
        | _ => exact h1.elim⟩⟩
end
end DL

/-! a loop over a written list of things to call -/
namespace DL
open PySem PySem.Spec L2
open PyProof.Rows hiding St
section
open LamX
variable {X : Cx} {pins : List (Addr × Obj)} {σ : L2.St} {H : Hp} {s : Shared}
/-- a lambda is made; its address is new -/
theorem lam_new2 {T : List (Addr × Str)} {c P : Addr} {params : Arguments} {body : Expr} {scope : Scope} {pos : Pos} {E : Value → Shared → Prop} {Q : Value → Shared → Prop} (I : Inv X pins σ H s) (TB : TabB X.base X.mg c P) (hcode : X.env.code = .ref c)
    (hm : (P, X.env.qual ++ "<lambda>") ∈ T) (hu : ∀ p ∈ T, p.1 = P → p.2 = X.env.qual ++ "<lambda>") (hT : Tabs T H) (hdef : defaultsOf params X.env = ([], [])) (hfree : ∀ y ∈ scope.names, y.2 = .free → ∃ c, X.env.cells.lookup y.1 = some c)
    (h : ∀ (f c' : Addr) (pm ctv : Value) (H1 : Hp) (s' : Shared), Inv X pins σ H1 s' → ExtN H H1 → (∀ a, H a ≠ none → H1 a ≠ none) → Tabs T H1 → s.heap.objs.size ≤ f →
      s'.heap.get? f = some (PySem.W.kla_obj "<lambda>" (X.env.qual ++ "<lambda>") params body scope (cloFrom X.env.cells scope.names []) pm c' ctv) → H1 f = none → H1 c' = some (CodeO c' (X.env.qual ++ "<lambda>")) → Q (.ref f) s') :
    wpAny (model X.prog X.w) X.A (eval (.Lambda params body scope pos) X.env) Q E s := by
  obtain ⟨ps, hP, ht, ha⟩ := hT _ hm
  refine PySem.W.kla_eval hdef ?_
  have bP : s.heap.BuiltinsAt X.mg P := TB.bm.keeps I.bk
  have hP' : s.heap.get? P = some { cls := .none, data := .fields ps } := I.hok P _ hP
  cases hc : codeAmong pos ps.toList with
  | some cv =>
    obtain ⟨c', e, hco⟩ := ha pos cv hc
    subst e
    refine PySem.W.kla_makeFunctionHit (mg := X.mg) (c := c) (P := P) (ps := ps) (closure_ok hfree) I.ok.glob (I.mod.glob.keeps I.bk) hcode (TB.code.keeps I.bk) hP' ht hc bP fun ctv h' tk hx hsz => ?_
    exact h h'.objs.size c' ((X.mg "__name__").getD .none) ctv H _ (I.kept fun b o e => Heap.get?_push_of_some _ (hx b o e)) (ExtN.refl H) (fun _ z => z) hT hsz (Heap.get?_push_size _ rfl) (I.hok.fresh hsz) hco
  | none =>
    refine PySem.W.kla_makeFunction (mg := X.mg) (c := c) (P := P) (ps := ps) (closure_ok hfree) I.ok.glob (I.mod.glob.keeps I.bk) hcode (TB.code.keeps I.bk) hP' ht hc TB.gP bP fun c' ctv h' tk hx hge hlt hrec htb => ?_
    obtain ⟨c2, oc, vs, t, e2, hoc, hd, hv⟩ := hrec
    cases e2
    have hsz : s.heap.objs.size ≤ h'.objs.size := Nat.le_trans hge (Nat.le_of_lt hlt)
    have nC : H c' = none := I.hok.fresh hge
    have I1 := inv_table (t' := tk) (more := #[rawInt pos.line, rawInt pos.col, .ref c']) (h' := h'.push (PySem.W.kla_obj "<lambda>" (X.env.qual ++ "<lambda>") params body scope (cloFrom X.env.cells scope.names []) ((X.mg "__name__").getD .none) c' ctv)) I hP
      (fun b o hb e => Heap.get?_push_of_some _ (hx b o hb e)) (Heap.get?_push_of_some _ htb) hge ⟨oc, vs, t, Heap.get?_push_of_some _ hoc, hd, hv⟩
    have hE : ExtN H (upd (upd H P (.tbl (ps ++ #[rawInt pos.line, rawInt pos.col, .ref c']))) c' (CodeO c' (X.env.qual ++ "<lambda>"))) := fun b o e n => by
      rw [upd_ne (ne_of_none e nC), upd_ne (fun z => n ps (Option.some.inj (e.symm.trans (by rw [z]; exact hP))))]
      exact e
    have eL : (ps ++ #[rawInt pos.line, rawInt pos.col, .ref c']).toList = ps.toList ++ [rawInt pos.line, rawInt pos.col, .ref c'] := by simp
    refine h h'.objs.size c' ((X.mg "__name__").getD .none) ctv _ _ I1 hE (fun a z => upd_thr a (upd_thr a z)) (fun p hp => ?_) hsz (Heap.get?_push_size _ rfl) ?_ upd_same
    · by_cases hb : p.1 = P
      · rw [hu p hp hb, hb]
        refine ⟨_, by rw [upd_ne (ne_of_none hP nC), upd_same], by rw [eL]; exact PySem.TriplesOk_snoc _ _ _ _ ht, fun p' cv hcv => ?_⟩
        rw [eL] at hcv
        rcases among_app _ ht hcv with z | z
        · obtain ⟨c0, e1, e2⟩ := ha p' cv z
          exact ⟨c0, e1, hE _ _ e2 codeO_ne⟩
        · exact ⟨c', z, upd_same⟩
      · obtain ⟨ps', a1, a2, a3⟩ := hT p hp
        refine ⟨ps', by rw [upd_ne (ne_of_none a1 nC), upd_ne hb]; exact a1, a2, fun p' cv hcv => ?_⟩
        obtain ⟨c0, e1, e2⟩ := a3 p' cv hcv
        exact ⟨c0, e1, hE _ _ e2 codeO_ne⟩
    · rw [upd_ne (Nat.ne_of_gt hlt), upd_ne (Nat.ne_of_gt (Nat.lt_of_lt_of_le (Heap.lt_size hP') hsz))]
      exact I.hok.fresh hsz
end
/-- fl, called from any state of X, does as tb says of that state's slots -/
def CallN (X : Cx) (B : Base) (k : Nat) (fl : Addr) (tb : TDX) : Prop := ∀ (pins : List (Addr × Obj)) (σ : L2.St) (H : Hp) (s : Shared) (g : Gs) (δ : Env), Inv X pins σ H s → Stt X.K B g H σ δ → CallD X.prog X.w X.K X.mg X.base B.T k s g.F H g.W fl (fun P' RX => tb RX (shOnly δ) fun d _ => P' d)
section
variable {X : Cx} {B : Base} {kc k i : Nat} {fl : Addr} {tb : TDX} {wpG : TL → TL} {a x : Str} {p p1 p2 pos : Pos}
/-- g(a), a the loop's name -/
def dPassL (i : Nat) (wpG : TL → TL) (fl : Addr) (tb : TDX) : TDX := fun rx δ P => δ[i]? = some (some (.sh (.adr fl))) ∧ wpG (fun P' RX => tb RX (shOnly δ) fun d _ => P' d) (fun d => P d δ) rx
theorem de_passL (G : FnC X.prog X.w X.K X.mg X.base B.T x kc k wpG) (CN : CallN X B kc fl tb) (hr : Rm k X.A) (hg : Gl X x) (hn : PE X (.Name a p1) (tVar i)) (hs : starEach [.Name a p1] X.env = (false, eval (.Name a p1) X.env) :: starEach [] X.env := by rfl)
    (hdb : (x == ("__debug__" : Str)) = false := by decide) : DE X B (.Call (.Name x p) [.Name a p1] [] pos) (dPassL i wpG fl tb) := by
  obtain ⟨f, fd, a', hm, hk, hb, go⟩ := G.ex
  refine ⟨fun rx tk => ⟨fun pins s σ H Q I h => ?_⟩⟩
  obtain ⟨g, δ, P, S, ⟨e, q⟩, k1⟩ := h
  obtain ⟨v, e1, r⟩ := S.env i _ e
  cases r
  refine wpAny_Call_Name_kw (ld_glob I hg hm ?_ hdb)
  refine PySem.W.callWith_K (h₀ := X.base) I.ok.mod.kin hk ?_ hs (by rfl)
  rw [hs]
  show wpAny _ _ (spliced ((false, eval (.Name a p1) X.env) :: backTo pos (starEach [] X.env))) _ _ s
  refine Calls.spliced_cons (thn (hn.run pins s σ H (fun v H1 => v = .ref fl ∧ H1 = H) I ⟨_, e1, rfl, rfl⟩) fun u s1 ⟨v, H1, I1, r1, q1⟩ => Calls.spliced_nil ⟨I1.kIn, ?_⟩)
  obtain ⟨rfl, rfl⟩ := q1
  obtain rfl : u = Value.ref fl := r1
  have CL := CN _ _ _ _ g δ I1 S
  refine wpAny_call (codeAny_mono (go X.A X.stack s1 g.F H1 g.W (.ref fl) fl _ Q (liftX X.K B rx) _ rx rfl hr I1.env0 S.ret.gd (hb s1 _) CL q (fun d v F' W' H' hp rt dn => ?_) fun cls dd H' hx => liftX.trans S.ret hx) fun r s2 hq => ?_)
  · obtain ⟨S2, st2⟩ := S.after (n := X.N.length) rt
    exact k1 d δ _ H' v hp st2 S2 dn
  · have z := after_call I1 (passes_lift tk) hq
    rcases r with e | fl
    · exact z
    · cases fl <;> exact z
end
section
open LamX
/-- a written lambda, and what its body says -/
structure LamOk (X : Cx) (T : List (Addr × Str)) (kc : Nat) (e : Expr) (tb : TDX) : Prop where
  ex : ∃ (params : Arguments) (body : Expr) (scope : Scope) (pos : Pos), e = .Lambda params body scope pos ∧ LamS X.env.scope scope ∧ defaultsOf params X.env = ([], []) ∧ (∀ (q : Str) (cl : List (Str × Addr)) (pm cv ctv : Value), bindArgs (PySem.W.kla_fn "<lambda>" q params body scope cl pm cv ctv) ⟨[], []⟩ = pure []) ∧
    ∀ (f c' : Addr) (A : Around) (outer : List PySem.Env) (s1 : Shared) (H1 : Hp) (E : XK) (B' : Base), B'.T = T → Rm kc (A.deeper (lamEnv X scope s1.heap.objs.size f c')) → DE (lamCx X A outer s1 H1 E scope f c') B' body tb
inductive LamsOk (X : Cx) (T : List (Addr × Str)) (kc : Nat) : List Expr → List TDX → Prop
  | nil : LamsOk X T kc [] []
  | cons {e : Expr} {es : List Expr} {tb : TDX} {tbs : List TDX} : LamOk X T kc e tb → starEach (e :: es) X.env = (false, eval e X.env) :: starEach es X.env → LamsOk X T kc es tbs → LamsOk X T kc (e :: es) (tb :: tbs)
/-- the lambda's object f is pinned, its code is held -/
def LamAt (X : Cx) (T : List (Addr × Str)) (kc : Nat) (pn : List (Addr × Obj)) (H : Hp) (f : Addr) (tb : TDX) : Prop := ∃ (params : Arguments) (body : Expr) (scope : Scope) (c' : Addr) (pm ctv : Value),
  (f, PySem.W.kla_obj "<lambda>" (X.env.qual ++ "<lambda>") params body scope (cloFrom X.env.cells scope.names []) pm c' ctv) ∈ pn ∧ H c' = some (CodeO c' (X.env.qual ++ "<lambda>")) ∧ LamS X.env.scope scope ∧
    (∀ (q : Str) (cl : List (Str × Addr)) (pm cv ctv : Value), bindArgs (PySem.W.kla_fn "<lambda>" q params body scope cl pm cv ctv) ⟨[], []⟩ = pure []) ∧
    ∀ (A : Around) (outer : List PySem.Env) (s1 : Shared) (H1 : Hp) (E : XK) (B' : Base), B'.T = T → Rm kc (A.deeper (lamEnv X scope s1.heap.objs.size f c')) → DE (lamCx X A outer s1 H1 E scope f c') B' body tb
inductive LamsAt (X : Cx) (T : List (Addr × Str)) (kc : Nat) (pn : List (Addr × Obj)) (H : Hp) : List Addr → List TDX → Prop
  | nil : LamsAt X T kc pn H [] []
  | cons {f : Addr} {fs : List Addr} {tb : TDX} {tbs : List TDX} : LamAt X T kc pn H f tb → LamsAt X T kc pn H fs tbs → LamsAt X T kc pn H (f :: fs) (tb :: tbs)
theorem LamAt.ext {X : Cx} {T : List (Addr × Str)} {kc : Nat} {pn pn' : List (Addr × Obj)} {H H' : Hp} {f : Addr} {tb : TDX} (h : LamAt X T kc pn H f tb) (hp : ∀ q ∈ pn, q ∈ pn') (hH : ExtN H H') : LamAt X T kc pn' H' f tb := by
  obtain ⟨a, b, c, d, e, u, h1, h2, h3⟩ := h
  exact ⟨a, b, c, d, e, u, hp _ h1, hH _ _ h2 codeO_ne, h3⟩
theorem LamsAt.ext {X : Cx} {T : List (Addr × Str)} {kc : Nat} {pn pn' : List (Addr × Obj)} {H H' : Hp} {fs : List Addr} {tbs : List TDX} (h : LamsAt X T kc pn H fs tbs) (hp : ∀ q ∈ pn, q ∈ pn') (hH : ExtN H H') : LamsAt X T kc pn' H' fs tbs := by
  induction h with
  | nil => exact .nil
  | cons a _ ih => exact .cons (a.ext hp hH) ih
theorem LamsAt.len {X : Cx} {T : List (Addr × Str)} {kc : Nat} {pn : List (Addr × Obj)} {H : Hp} {fs : List Addr} {tbs : List TDX} (h : LamsAt X T kc pn H fs tbs) : fs.length = tbs.length := by
  induction h with
  | nil => rfl
  | cons _ _ ih => simp [ih]
theorem LamsAt.get {X : Cx} {T : List (Addr × Str)} {kc : Nat} {pn : List (Addr × Obj)} {H : Hp} {fs : List Addr} {tbs : List TDX} (h : LamsAt X T kc pn H fs tbs) : ∀ {i : Nat} {f : Addr}, fs[i]? = some f → ∃ tb, tbs[i]? = some tb ∧ LamAt X T kc pn H f tb := by
  induction h with
  | nil => intro i f e; simp at e
  | cons a _ ih =>
    intro i f e
    cases i with
    | zero => simp at e; subst e; exact ⟨_, rfl, a⟩
    | succ i => exact ih (by simpa using e)
section
variable {X : Cx} {B : Base} {kc : Nat} {c Pt : Addr} {n : Nat}
theorem lams_new (TB : TabB X.base X.mg c Pt) (hcode : X.env.code = .ref c) (hmT : (Pt, X.env.qual ++ "<lambda>") ∈ B.T) (hu : ∀ p ∈ B.T, p.1 = Pt → p.2 = X.env.qual ++ "<lambda>") {g : Gs} {δ : Env} {σ : L2.St} {E : Value → Shared → Prop} {p : Pos} {es : List Expr} {tbs : List TDX} (h : LamsOk X B.T kc es tbs) :
    ∀ (pins : List (Addr × Obj)) (s : Shared) (H : Hp) (Q : List Value → Shared → Prop), Inv X pins σ H s → Stt X.K B g H σ δ →
      (∀ (fs : List Addr) (more : List (Addr × Obj)) (H1 : Hp) (s1 : Shared), Inv X (pins ++ more) σ H1 s1 → Stt X.K B g H1 σ δ → ExtN H H1 → Step n g H g H1 → LamsAt X B.T kc (pins ++ more) H1 fs tbs → Q (fs.map Value.ref) s1) →
      wpAny (model X.prog X.w) X.A (spliced (backTo p (starEach es X.env))) Q E s := by
  induction h with
  | nil =>
    intro pins s H Q I S k
    exact Calls.spliced_nil (k [] [] H s (by simpa using I) S (ExtN.refl H) (Step.refl _ _ _) .nil)
  | @cons e es tb tbs l hs _ ih =>
    intro pins s H Q I S k
    obtain ⟨params, body, scope, pos, rfl, L, hdef, hbind, hbody⟩ := l.ex
    rw [hs]
    show wpAny _ _ (spliced ((false, eval (.Lambda params body scope pos) X.env) :: backTo p (starEach es X.env))) _ _ s
    refine Calls.spliced_cons (lam_new2 I TB hcode hmT hu S.ret.tab hdef (L.has I.ok) fun f c' pm ctv H1 s1 I1 eN th T1 hge hf hfn hco => ?_)
    obtain ⟨S1, st1⟩ := S.extN (n := n) eN th T1
    have I2 : Inv X (pins ++ [(f, PySem.W.kla_obj "<lambda>" (X.env.qual ++ "<lambda>") params body scope (cloFrom X.env.cells scope.names []) pm c' ctv)]) σ H1 s1 := I1.pins_of fun q hq => by
      rcases List.mem_append.mp hq with z | z
      · exact I1.pin q (List.mem_append_right _ z)
      · obtain rfl : q = _ := List.mem_singleton.mp z
        exact ⟨hf, hfn, Nat.ne_of_gt (Nat.lt_of_lt_of_le I.lt hge), I.nofs hge, fun v z => by cases z⟩
    refine ih _ s1 H1 _ I2 S1 fun fs more H2 s2 I3 S3 eN2 st2 hl => ?_
    rw [List.append_assoc] at I3 hl
    refine k (f :: fs) _ H2 s2 I3 S3 (fun b o e ne => eN2 b o (eN b o e ne) ne) (st1.trans st2) (.cons ⟨params, body, scope, c', pm, ctv, by simp, eN2 _ _ hco codeO_ne, L, hbind, fun A outer s1 H1 E B' => hbody f c' A outer s1 H1 E B'⟩ hl)
/-- at any later state it may be called -/
theorem callN_of {pn0 pn : List (Addr × Obj)} {H : Hp} {g : Gs} {σ : L2.St} {δ : Env} {f : Addr} {tb : TDX} (h : LamAt X B.T kc pn0 H f tb) (hp : ∀ q ∈ pn0, q ∈ pn) (S : Stt X.K B g H σ δ) : CallN (X.tr pn X.xe) ⟨g.F, H, g.W, B.T⟩ (kc + 1) f tb := by
  obtain ⟨params, body, scope, c', pm, ctv, h1, h2, L, hbind, hbody⟩ := h
  intro pins σ0 H0 s0 g0 δ0 I0 S0
  obtain ⟨q1, q2, _⟩ := I0.pin _ (List.mem_append_left _ (hp _ h1))
  have hc : H0 c' = some (CodeO c' (X.env.qual ++ "<lambda>")) := S0.ret.old c' _ h2 (fun w => by
    by_cases q : has g.W c'
    · obtain ⟨o, e, po⟩ := has_plain S.ret.drw q
      rw [h2] at e; cases e; exact po
    · have z := S0.ret.dnew c' w q
      rw [show (Base.mk g.F H g.W B.T).H c' = H c' from rfl, h2] at z; cases z) fun ps z => codeO_ne ps z
  exact callD_lam (X := X.tr pn X.xe) I0 S0 L q1 q2 hc (hbind _ _ _ _ _) fun A o s1 H1 E B' e hr => hbody A o s1 H1 E B' e hr
end
end
/-! ### the loop: for a in [lambda: .., ..]: if test: return False -/
def dLamsN (i : Nat) (tt : Addr → TDX → TDB) (rx : D → Prop) (DE : DEnds) (δ0 : Env) : List TDX → Prop
  | [] => DE.nx (δ0.set i none)
  | tb :: r => ∀ fl, tt fl tb rx ((shOnly δ0).set i (some (.sh (.adr fl)))) fun b _ => if b = true then DE.rt (.bl false) else dLamsN i tt rx DE δ0 r
def dLams (i : Nat) (tt : Addr → TDX → TDB) (tbs : List TDX) : TDS := fun rx DE δ => dLamsN i tt rx DE δ tbs
theorem takes_tr {X : Cx} {W W' : WX} {pins : List (Addr × Obj)} (ok : X.Ok) (tk : Takes X W) (h : ∀ c d σ H, W' c d σ H → W c d σ H) : Takes (X.tr (X.pn ++ pins) X.xe) W' := fun u s' ⟨a, Bh, sI, pn, σ, H, cls, d, e, I, nb, up, sky, na, os, ag, w⟩ =>
  tk u s' ⟨a, Bh, sI, pins, σ, H, cls, d, e, I.ofTry ok, nb, up, sky, na, os, ag, h _ _ _ _ w⟩
section
open LamX
variable {X : Cx} {B : Base} {kc i : Nat} {c Pt : Addr} {a : Str} {p p1 p2 p3 p4 p5 pos : Pos} {es : List Expr} {tbs : List TDX} {tt : Addr → TDX → TDB} {test : Expr} {j0 : Nat}
theorem stt_sig {K : PySem.W.Frag} {g : Gs} {H : Hp} {σ : L2.St} {δ : Env} {x : Option V} (S : Stt K B g H σ δ) : Stt K B g H (σ.set i x) (δ.set i none) := ⟨S.ret, S.own, by simpa using S.len, fun j t e => by
  rcases getSet e with ⟨_, e2, _⟩ | ⟨e1, e2⟩
  · cases e2
  · rw [List.getElem?_set_ne (Ne.symm e1)]; exact S.env j t e2⟩
theorem stt_in {K : PySem.W.Frag} {g : Gs} {H HL H' F' : Hp} {W' : DW} {σ σ' : L2.St} {δ : Env} {T : List (Addr × Str)} {fl : Addr} (S : Stt K B g H σ δ) (hl : i < σ.length) (r : Ret ⟨g.F, HL, g.W, T⟩ F' H' W') (hσ : ∀ j, j ≠ i → σ'[j]? = σ[j]?) (hlen : σ'.length = σ.length) :
    Stt K ⟨g.F, HL, g.W, T⟩ ⟨F', fun _ => none, W'⟩ H' (σ'.set i (some (.ref fl))) ((shOnly δ).set i (some (.sh (.adr fl)))) := ⟨r, fun b k e => (nomatch e), by simp [shOnly, S.len, hlen], fun j t e => by
  rcases getSet e with ⟨e1, e2, _⟩ | ⟨e1, e2⟩
  · subst e1
    cases e2
    exact ⟨_, List.getElem?_set_self (by omega), .adr fl⟩
  · obtain ⟨d, rfl, e3⟩ := shOnly_get e2
    obtain ⟨v, e4, rv⟩ := S.env j _ e3
    exact ⟨v, by rw [List.getElem?_set_ne (Ne.symm e1), hσ j e1, e4], rv.up r.up r.wle⟩⟩
theorem ds_lams (hp : PassesOwn (model X.prog X.w) X.A X.env X.xe) (hcalm : X.calm = true) (TB : TabB X.base X.mg c Pt) (hcode : X.env.code = .ref c) (hmT : (Pt, X.env.qual ++ "<lambda>") ∈ B.T) (hu : ∀ p ∈ B.T, p.1 = Pt → p.2 = X.env.qual ++ "<lambda>")
    (hN : X.N.Nodup) (hi : X.N[i]? = some a) (hx : Loc X.env.scope a) (ls : LamsOk X B.T kc es tbs) (hsz : tbs.length ≤ sizeLine)
    (ht : ∀ (fl : Addr) (tb : TDX) (pn : List (Addr × Obj)) (B' : Base), B'.T = B.T → CallN (X.tr pn X.xe) B' (kc + 1) fl tb → DT (X.tr pn X.xe) B' test (tt fl tb))
    (hf : X.fn a = true ∨ X.env.scope.names.lookup a = some .local := by first | exact .inl rfl | exact .inr rfl | assumption) (hs : ∀ x, foldedSetIterable (.List es p2) X.env x = pure x := by intro _; rfl) :
    DS X B (.For (.Name a p1) (.List es p2) [.If test [.Return (some (.Constant (.bool false) j0 p3)) p4] [] p5] [] pos) (dLams i tt tbs) := by
  refine ⟨fun rx tk => ⟨fun pins s σ H D I h => ?_⟩⟩
  obtain ⟨g, δ, DE, S, q, k1, k2, k3, k4⟩ := h
  have hil : i < σ.length := by rw [I.len]; exact (List.getElem?_eq_some_iff.mp hi).1
  refine wpAny_For (wpAny_List_spliced (lams_new (n := X.N.length) TB hcode hmT hu ls pins s H _ I S fun fs more H1 s1 I1 S1 eN1 st1 hl => ⟨by rw [List.length_map, hl.len]; exact hsz, ?_⟩)) hs
  have fr : H1 s1.heap.objs.size = none := I1.hok.fresh (Nat.le_refl _)
  have uH := up_upd (o := HO.lst (fs.map V.ref)) fr
  have vals : ∀ l : List Addr, Vals (l.map V.ref) (l.map Value.ref) := fun l => by
    induction l with
    | nil => exact .nil
    | cons z l ih => exact .cons rfl ih
  have I2 : Inv X (pins ++ more) σ (upd H1 s1.heap.objs.size (.lst (fs.map V.ref))) { s1 with heap := s1.heap.push { cls := .type "list", data := .seq (fs.map Value.ref).toArray } } :=
    I1.laid (t' := s1.toks) (fun b u e => Heap.get?_push_of_some _ e) (Nat.le_refl _) ⟨by rw [List.length_map, hl.len]; exact hsz, _, 0, vals fs, Heap.get?_push_size _ rfl⟩
  have S2 : Stt X.K B g (upd H1 s1.heap.objs.size (.lst (fs.map V.ref))) σ δ := S1.grow (F' := g.F) uH (Up.refl _) (S1.ret.sub.trans uH) (fun _ _ => rfl) S1.ret.fnt
  have st2 : Step X.N.length g H g (upd H1 s1.heap.objs.size (.lst (fs.map V.ref))) := st1.trans (S1.growStep (F' := g.F) uH (Up.refl _))
  have hl2 := hl.ext (H' := upd H1 s1.heap.objs.size (.lst (fs.map V.ref))) (fun _ z => z) fun b o e _ => uH b o e
  have hq : SqL X.K (upd H1 s1.heap.objs.size (.lst (fs.map V.ref))) s1.heap.objs.size (fs.map V.ref) := SqL.of upd_same
  have nA : ¬ has g.W s1.heap.objs.size := fun h => by
    obtain ⟨o, e, _⟩ := has_plain S1.ret.drw h
    rw [fr] at e; cases e
  have atA : (upd H1 s1.heap.objs.size (.lst (fs.map V.ref))) s1.heap.objs.size = some (.lst (fs.map V.ref)) := upd_same
  generalize s1.heap.objs.size = la at I2 S2 st2 hl2 hq nA atA ⊢
  generalize upd H1 la (.lst (fs.map V.ref)) = HL at I2 S2 st2 hl2 hq nA atA ⊢
  clear uH fr
  generalize { s1 with heap := s1.heap.push { cls := .type "list", data := .seq (fs.map Value.ref).toArray } } = s2 at I2 ⊢
  obtain ⟨its, rv, pl, hz⟩ := I2.list hq
  refine wpAny_pyIter_list pl.isList ?_
  have I3 : Inv X (pins ++ more) σ HL { s2 with heap := s2.heap.push { cls := .type "list_iterator", data := .fields #[.ref la, .int 0 0] } } := I2.kept (t' := s2.toks) fun b o e => Heap.get?_push_of_some _ e
  have f3 : ∀ b ∈ [s2.heap.objs.size], FpOk X (pins ++ more) HL b := fun b hb => by
    obtain rfl : b = _ := List.mem_singleton.mp hb
    exact I2.fpOk (Nat.le_refl _) (I2.hok.fresh (Nat.le_refl _))
  have t3 : Heap.IsListIter ({ s2 with heap := s2.heap.push { cls := .type "list_iterator", data := .fields #[.ref la, .int 0 0] } } : Shared).heap s2.heap.objs.size la 0 := ⟨_, Heap.get?_push_size _ rfl, rfl, rfl⟩
  generalize s2.heap.objs.size = it at f3 t3 ⊢
  generalize { s2 with heap := s2.heap.push { cls := .type "list_iterator", data := .fields #[.ref la, .int 0 0] } } = s3 at I3 t3 ⊢
  have T := turn_list (P := X.prog) (w := X.w) (K := X.K) (tg := .Name a p1) la it
  have stat : ∀ {H' : Hp}, H' it = none → ∀ b ∈ [it], FpOk X (pins ++ more) H' b := fun hn b hb => by
    obtain rfl : b = it := List.mem_singleton.mp hb
    exact ⟨hn, (f3 b hb).2⟩
  refine codeAny_forLoop_any (fun m s' => ∃ (j : Nat) (σ' : L2.St) (F' H' : Hp) (W' : DW), Inv X (pins ++ more) σ' H' s' ∧ s'.heap.IsListIter it la j ∧ H' it = none ∧ Ret ⟨g.F, HL, g.W, B.T⟩ F' H' W' ∧ ((∀ j, j ≠ i → σ'[j]? = σ[j]?) ∧ σ'.length = σ.length) ∧ m = tbs.length - j ∧ j ≤ tbs.length ∧ dLamsN i tt rx DE δ (tbs.drop j)) ?_ tbs.length
    ⟨0, σ, g.F, HL, g.W, I3, t3, (f3 it (by simp)).1, Ret.refl S2.ret.gd, ⟨fun _ _ => rfl, rfl⟩, rfl, Nat.zero_le _, by rw [List.drop_zero]; exact q⟩
  rintro m s4 ⟨j, σ4, F4, H4, W4, I4, t4, n4, r4, ⟨e4, l4⟩, rfl, hj, q4⟩
  have hq4 : SqL X.K H4 la (fs.map V.ref) := SqL.of (r4.old la _ atA (fun w => by
    have z := r4.dnew la w nA
    rw [show (Base.mk g.F HL g.W B.T).H la = HL la from rfl, atA] at z; cases z) fun ps z => by cases z)
  have hfl := hl2.len
  by_cases hlt : j < tbs.length
  · have hjf : j < fs.length := by omega
    have go : (Itl X.K la).go j H4 := ⟨fs.map V.ref, .ref fs[j], hq4, by simp [hjf]⟩
    refine wpAny_passesOwn hp (thn (T.item X rfl rfl rfl hcalm j (pins ++ more) s4 σ4 H4 X.xe I4 (stat n4) t4 go) fun r s5 ⟨u, hr, h5⟩ => ?_)
    subst hr
    refine wpAny_passesOwn hp (thn h5 fun _ s6 ⟨x, H6, I6, r6, y6, t6, n6⟩ => ?_)
    obtain ⟨rfl, y6⟩ := y6
    have y7 := y6 _ hq4
    rw [List.getElem?_map, List.getElem?_eq_getElem hjf] at y7
    obtain rfl : V.ref fs[j] = x := Option.some.inj y7
    obtain ⟨tb, etb, la8⟩ := hl2.get (List.getElem?_eq_getElem hjf)
    have I6' := I6.pinned (stat (n6 it (by simp))) (T.obj _ _ t6)
    refine wpAny_passesOwn hp (thn ((pg_name (pos := p1) hN hi hx hf).run _ s6 σ4 H6 (V.ref fs[j]) u (fun σ' H' => σ' = σ4.set i (some (V.ref fs[j])) ∧ H' = H6) I6' r6 ⟨rfl, rfl⟩) fun _ s7 ⟨σ7, H7, I7, q7⟩ => ?_)
    obtain ⟨rfl, rfl⟩ := q7
    have I8 := I7.toTry X.xe
    have CN := callN_of (pn := X.pn ++ (pins ++ more ++ pinsAt [it] s6.heap)) la8 (fun z hz => List.mem_append_right _ (List.mem_append_left _ hz)) S2
    have tc := (ht fs[j] tb _ ⟨g.F, HL, g.W, B.T⟩ rfl CN).run rx (takes_tr (W' := XW (liftX X.K ⟨g.F, HL, g.W, B.T⟩ rx)) I.ok tk fun cl d _ H' hx => liftX.trans S2.ret hx)
    have body := pss_one (ps_if (pos := p5) tc (pss_one (ps_ret (pos := p4) (pe_bl (b := false) (j := j0) (pos := p3)))) pss_nil)
    have hd : tbs.drop j = tb :: tbs.drop (j + 1) := by
      rw [List.drop_eq_getElem_cons hlt]
      rw [List.getElem?_eq_getElem hlt] at etb
      rw [Option.some.inj etb]
    rw [hd] at q4
    refine wpAny_passesOwn hp (thn (body.run [] s7 _ H7 { nx := fun σ' H' => σ' = σ4.set i (some (V.ref fs[j])) ∧ ∃ (F' : Hp) (W' : DW), Ret ⟨g.F, HL, g.W, B.T⟩ F' H' W' ∧ dLamsN i tt rx DE δ (tbs.drop (j + 1)), rt := D.rt } I8
      ⟨⟨F4, fun _ => none, W4⟩, _, _, stt_in S2 hil r4 e4 l4, q4 fs[j], fun b δ' g' H' hp st S' => ?_⟩) fun f s8 q8 => ?_)
    · cases b with
      | true => exact k2 _ _ _ _ _ hp (S2.ret.trans S'.ret) (.bl false)
      | false => exact ⟨rfl, g'.F, g'.W, S'.ret, hp⟩
    · cases f with
      | next =>
        obtain ⟨σ8, H8, I8, rfl, F8, W8, r8, q8⟩ := q8
        refine ⟨tbs.length - (j + 1), by omega, j + 1, _, F8, H8, W8, (I8.ofTry I.ok).unpinned, ?_, ?_, r8, ⟨fun j' hj' => by rw [List.getElem?_set_ne (Ne.symm hj')]; exact e4 j' hj', by simpa using l4⟩, rfl, hlt, q8⟩
        · exact T.keep _ _ _ t6 fun b hb o e => ((I8.ofTry I.ok).pin (b, o) (List.mem_append_right _ (List.mem_append_right _ (mem_pinsAt hb e)))).1
        · obtain ⟨o, e, d⟩ := T.obj _ _ t6 it (by simp)
          exact ((I8.ofTry I.ok).pin (it, o) (List.mem_append_right _ (List.mem_append_right _ (mem_pinsAt (by simp) e)))).2.1
      | cont => obtain ⟨σ8, H8, I8, q8⟩ := q8; exact q8.elim
      | brk => obtain ⟨σ8, H8, I8, q8⟩ := q8; exact q8.elim
      | ret v => obtain ⟨x8, σ8, H8, I8, r8, q8⟩ := q8; exact ⟨x8, σ8, H8, (I8.ofTry I.ok).unpinned.unpinned, r8, q8⟩
  · have hjl : j = tbs.length := by omega
    subst hjl
    rw [List.drop_length] at q4
    refine wpAny_passesOwn hp (thn (T.done X rfl rfl rfl hcalm _ (pins ++ more) s4 σ4 H4 X.xe I4 (stat n4) t4 ⟨_, hq4, by simp [hfl]⟩) fun r s5 ⟨hr, I5⟩ => ?_)
    subst hr
    obtain ⟨S5, st5⟩ := S2.after (n := X.N.length) r4
    have S6 := stt_sig (i := i) (x := σ4[i]?.getD none) S5
    have e5 : σ.set i (σ4[i]?.getD none) = σ4 := by
      refine List.ext_getElem? fun k => ?_
      by_cases hk : k = i
      · subst hk
        rw [List.getElem?_set_self hil, List.getElem?_eq_getElem (by omega)]; rfl
      · rw [List.getElem?_set_ne (Ne.symm hk), e4 k hk]
    rw [e5] at S6
    exact wpAny_execs_nil ⟨σ4, H4, I5.unpinned, k1 _ _ _ _ q4 (st2.trans st5) S6⟩
end
end DL

/-! tuple * int for every int; products, quotients, remainders of great ints; range with a step; three names at once -/
namespace DL
open PySem PySem.Spec L2
open PyProof.Rows hiding St
theorem tup_mul_none (tp : Addr) (its : Array Value) (m : Nat) (od : Option Addr) (slt : Array (Option Value)) (k : Int) (tk : Tok) (d0 : (decide (k < -(2 ^ 63)) || decide (k ≥ 2 ^ 63)) = false) (d1 : (its.isEmpty || k == 1) = false) (d2 : (decide (k ≤ 0) || its.isEmpty) = true) :
    Meets (Builtin.«tuple.__mul__» ⟨[.ref tp, .int k tk], []⟩) (fun _ R z => z.heap.get? tp = some { cls := .type "tuple", dict := od, data := .seq its m, slots := slt } ∧
      R (.ok (.ret (Value.ref z.heap.objs.size))) { z with heap := z.heap.push { cls := Value.type "tuple", data := Data.seq #[] }, toks := z.toks }) :=
  .of_wp fun prog w A R z hz => by
    obtain ⟨hh, gg, dr, tt, oo⟩ := z
    obtain ⟨hl, hz⟩ := hz
    have fx := AutoSeq1.idx_int
    wp_walk using wpAny_loadPart' hl
    repeat (first
      | (refine wpAny_ite_false (decide_eq_false (by rw [d0]; exact Bool.false_ne_true)) ?_; wp_walk using wpAny_loadPart' hl)
      | (refine wpAny_ite_false (decide_eq_false (by rw [d1]; exact Bool.false_ne_true)) ?_; wp_walk using wpAny_loadPart' hl)
      | (refine wpAny_ite_true (decide_eq_true d2) ?_; wp_walk using wpAny_loadPart' hl)
      | (refine wpAny_ite_false (decide_eq_false (by decide)) ?_; wp_walk using wpAny_loadPart' hl))
    exact ⟨_, rfl, hz⟩
theorem tup_mul_one (tp : Addr) (its : Array Value) (m : Nat) (od : Option Addr) (slt : Array (Option Value)) (tk : Tok) :
    Meets (Builtin.«tuple.__mul__» ⟨[.ref tp, .int 1 tk], []⟩) (fun _ R z => z.heap.get? tp = some { cls := .type "tuple", dict := od, data := .seq its m, slots := slt } ∧
      R (.ok (.ret (Value.ref tp))) z) :=
  .of_wp fun prog w A R z hz => by
    obtain ⟨hh, gg, dr, tt, oo⟩ := z
    obtain ⟨hl, hz⟩ := hz
    have fx := AutoSeq1.idx_int
    have d1 : (its.isEmpty || (1 : Int) == 1) = true := by simp
    wp_walk using wpAny_loadPart' hl
    repeat (first
      | (refine wpAny_ite_true (decide_eq_true d1) ?_; wp_walk using wpAny_loadPart' hl))
    exact ⟨_, rfl, hz⟩
/-- tuple * int -/
def rRepG (K : PySem.W.Frag) : R2 := fun x y H Q => ∃ l k xs, x = .ref l ∧ y = .int k ∧ SqT K H l xs ∧ xs ≠ [] ∧ (-(2 ^ 63) ≤ k ∧ k < 2 ^ 63 ∧ xs.length * k.toNat ≤ 1000000) ∧ (k = 1 → Q (.ref l) H) ∧ (k ≠ 1 → ∀ p, H p = none → Q (.ref p) (upd H p (.tup (List.replicate k.toNat xs).flatten)))
theorem op_repG {X : Cx} : OpR X (binaryOp .Mult) (rRepG X.K) := by
  intro pins s σ H x y v u Q I rx ry h
  obtain ⟨l, k, xs, rfl, rfl, hT, hne, ⟨b1, b2, b3⟩, q1, q2⟩ := h
  cases rx
  obtain ⟨t, rfl⟩ := ry
  obtain ⟨its, r, ⟨⟨cls, dd, data, sl⟩, ho, hc, n, hd⟩, hs⟩ := I.tuple hT
  simp only at hc hd
  subst hc hd
  have len : its.length = xs.length := r.length.symm
  have full : its.toArray.isEmpty = false := by
    cases its with
    | nil => exact absurd (List.eq_nil_of_length_eq_zero len.symm) hne
    | cons _ _ => rfl
  have d0 : (decide (k < -(2 ^ 63)) || decide (k ≥ 2 ^ 63)) = false := by
    rw [decide_eq_false (by omega), decide_eq_false (by omega)] <;> rfl
  have big : (sizeLine : Int) ≥ 1000000 := by rw [sizeLine_eq]; decide
  have flat : (List.replicate k.toNat its).flatten.length = k.toNat * xs.length := by rw [PyProof.Rows.lm_len_rep_flat, len]
  by_cases k1 : k = 1
  · subst k1
    refine wpAny_binaryOp_repeat_ref (T := "tuple") (U := "int") (by decide) ⟨_, ho, rfl⟩ (fun s' => typeIs_int s' 1 t) noFill_tuple_mul F.fills_int_mul F.slot_int_rmul repeat_tuple F.slot_int_index.lookup
      (call_meets F.slot_int_rmul (typeIs_int s 1 t) F.entry_int_rmul (F.args_int_rmul_2 _ _) (int_rmul_tuple 1 t l its.toArray n dd sl)
        ⟨ho, rfl, ⟨_, ho, rfl⟩, call_meets F.slot_tuple_mul ⟨_, ho, rfl⟩ F.entry_tuple_mul (F.args_tuple_mul_2 _ _) (tup_mul_one l its.toArray n dd sl t) ⟨ho, ⟨.ref l, H, I, rfl, q1 rfl⟩⟩⟩)
  · have d1 : (its.toArray.isEmpty || k == 1) = false := by
      rw [full, Bool.false_or]; exact beq_eq_false_iff_ne.mpr k1
    have fin : ∀ arr : Array Value, arr = (List.replicate k.toNat its).flatten.toArray → EP X pins σ Q (Value.ref s.heap.objs.size) { s with heap := s.heap.push { cls := Value.type "tuple", data := Data.seq arr } } := fun arr e => by
      subst e
      refine ⟨.ref s.heap.objs.size, _, I.laid (t' := s.toks) (o := .tup (List.replicate k.toNat xs).flatten) (fun b ob z => Heap.get?_push_of_some _ z) (Nat.le_refl _) ?_, rfl, q2 k1 _ (I.hok.fresh (Nat.le_refl _))⟩
      exact ⟨by rw [PyProof.Rows.lm_len_rep_flat, Nat.mul_comm]; omega, _, r.rep k.toNat, IsTup.new _ _⟩
    by_cases k0 : k ≤ 0
    · refine wpAny_binaryOp_repeat_ref (T := "tuple") (U := "int") (by decide) ⟨_, ho, rfl⟩ (fun s' => typeIs_int s' k t) noFill_tuple_mul F.fills_int_mul F.slot_int_rmul repeat_tuple F.slot_int_index.lookup
        (call_meets F.slot_int_rmul (typeIs_int s k t) F.entry_int_rmul (F.args_int_rmul_2 _ _) (int_rmul_tuple k t l its.toArray n dd sl)
          ⟨ho, rfl, ⟨_, ho, rfl⟩, call_meets F.slot_tuple_mul ⟨_, ho, rfl⟩ F.entry_tuple_mul (F.args_tuple_mul_2 _ _) (tup_mul_none l its.toArray n dd sl k t d0 d1 (by rw [decide_eq_true k0]; rfl)) ⟨ho, fin _ ?_⟩⟩)
      rw [show k.toNat = 0 by omega]; rfl
    · have sz : its.toArray.size = xs.length := by rw [List.size_toArray, len]
      have pr : ((its.toArray.size : Nat) : Int) * k ≤ 1000000 := by
        rw [sz]
        have e : k = (k.toNat : Int) := by omega
        rw [e, ← Int.natCast_mul]; omega
      refine wpAny_binaryOp_repeat_ref (T := "tuple") (U := "int") (by decide) ⟨_, ho, rfl⟩ (fun s' => typeIs_int s' k t) noFill_tuple_mul F.fills_int_mul F.slot_int_rmul repeat_tuple F.slot_int_index.lookup
        (call_meets F.slot_int_rmul (typeIs_int s k t) F.entry_int_rmul (F.args_int_rmul_2 _ _) (int_rmul_tuple k t l its.toArray n dd sl)
          ⟨ho, rfl, ⟨_, ho, rfl⟩, call_meets F.slot_tuple_mul ⟨_, ho, rfl⟩ F.entry_tuple_mul (F.args_tuple_mul_2 _ _) (tuple_mulW l its.toArray n dd sl k t d0 d1 (by rw [decide_eq_false k0, full]; rfl) (by omega) (by
            unfold Builtin.Tuple.tupleTooMany
            exact decide_eq_false (by omega)) (by rw [size_rep, List.size_toArray, flat, Nat.mul_comm]; omega)) ⟨ho, fin _ (size_rep its k.toNat)⟩⟩)
section
variable {K : PySem.W.Frag} {B : Base} {X : Cx} {e a b c : Expr} {ta tb : TDX} {pos : Pos}
/-- a * b: ints of any size, lists and tuples so many times -/
def mulG (x y : D) (P : Sl → Prop) : Prop := match x, y with
  | .int i, .int j => CMulX i j ∧ P (.sh (.int (i * j)))
  | .lst xs, .int k => (-(2 ^ 63) ≤ k ∧ k < 2 ^ 63 ∧ xs.length * k.toNat ≤ sizeLine) ∧ P (.ol (List.replicate k.toNat xs).flatten)
  | .tup xs, .int k => (xs ≠ [] ∧ -(2 ^ 63) ≤ k ∧ k < 2 ^ 63 ∧ xs.length * k.toNat ≤ 1000000) ∧ P (.sh (.tup (List.replicate k.toNat xs).flatten))
  | _, _ => False
theorem lf_mulG : LiftF2 K (fun x y H Q => rI CMulX (fun i j => .int (i * j)) x y H Q ∨ rRep x y H Q ∨ rRepG K x y H Q) mulG := fun B n g0 H0 δ0 g H σ δ x y d1 d2 P Q S0 st S r1 r2 q k => by
  cases r1 with
  | int i =>
    cases r2 with
    | int j => exact .inl ⟨i, j, rfl, rfl, q.1, k _ g H _ q.2 st S (.int _)⟩
    | _ => exact q.elim
  | @lst a xs ds h rs =>
    cases r2 with
    | int j =>
      obtain ⟨⟨b1, b2, b3⟩, q⟩ := q
      refine .inr (.inl ⟨a, j, xs, rfl, rfl, S.ret.sub _ _ h, b1, b2, by rw [rs.length]; exact b3, fun p hp => ?_⟩)
      obtain ⟨g2, st2, S2, it⟩ := S.newL st S0 hp (rs.flat j.toNat)
      exact k _ g2 _ _ q st2 S2 it
    | _ => exact q.elim
  | @tup a xs ds h rs =>
    cases r2 with
    | int j =>
      obtain ⟨⟨b0, b1, b2, b3⟩, q⟩ := q
      refine .inr (.inr ⟨a, j, xs, rfl, rfl, SqT.up S.ret.sub h, fun z => b0 ((nil_of rs).mp z), ⟨b1, b2, by rw [rs.length]; exact b3⟩, fun e => ?_, fun _ p hp => ?_⟩)
      · subst e
        refine k _ g H _ q st S (.tup h ?_)
        simpa using rs
      · obtain ⟨S2, st2⟩ := S.alloc (n := n) (o := .tup (List.replicate j.toNat xs).flatten) hp
        exact k _ _ _ _ q (st.trans st2) S2 (.tup (.inl (.inl upd_same)) ((rs.flat j.toNat).step st2))
    | _ => exact q.elim
  | _ => cases r2 <;> exact q.elim
theorem df_mulG (ha : DE X B a ta) (hb : DE X B b tb) : DF X B (.BinOp a .Mult b pos) (f2 mulG ta tb) := df_op (op_mulX.or (op_rep.or op_repG)) lf_mulG ha hb
/-- // and % by any divisor -/
def CDivG (i j : Int) : Prop := j ≠ 0 ∧ Builtin.divisionGoesByPylong i j = false
theorem op_fdivG : OpR X (binaryOp .FloorDiv) (rI CDivG fun i j => .int (i.fdiv j)) := opI fun _ _ _ _ _ _ _ hc q => floordiv_int hc.1 q (.inl hc.2)
def fdivG := i2 CDivG fun i j => .int (i.fdiv j)
def modG := i2 (fun _ j => j ≠ 0) fun i j => .int (i.fmod j)
theorem de_fdivG (ha : DE X B a ta) (hb : DE X B b tb) : DE X B (.BinOp a .FloorDiv b pos) (d2 fdivG ta tb) := de_op op_fdivG (l_i2 fun _ _ _ _ => .int _) ha hb
theorem de_modG (ha : DE X B a ta) (hb : DE X B b tb) : DE X B (.BinOp a .Mod b pos) (d2 modG ta tb) := de_op op_modN (l_i2 fun _ _ _ _ => .int _) ha hb
/-- range(i, j, c) -/
theorem iter_rangeC {g1 : Gs} {H1 : Hp} {lo c : Int} {m n : Nat} : IterD K B n (Itc lo c m) ((List.range m).map fun (i : Nat) => D.int (lo + i * c)) g1 H1 := fun i g H σ δ st S => by
  refine ⟨fun d e => ?_, fun hl => ?_⟩
  · rw [List.getElem?_map] at e
    by_cases h : i < m
    · rw [List.getElem?_range h] at e
      cases e
      exact ⟨h, fun x H' ⟨e2, e3⟩ => by
        subst e2 e3
        exact ⟨g, Step.refl _ _ _, S, .int _⟩⟩
    · rw [List.getElem?_eq_none (by simpa using h)] at e; cases e
  · have : m ≤ i := by simpa using hl
    exact this
/-- i, i - 1, .. above j -/
def downD (i j : Int) : List D := (List.range (i - j).toNat).map fun (k : Nat) => D.int (i + k * (-1))
def dRange3 (t : TDA) : TDI := fun rx δ P => t rx δ fun ds δ1 => match ds with
  | [.int i, .int j, .int c] => c = -1 ∧ (bnd i ∧ bnd j) ∧ P (downD i j) δ1
  | _ => False
theorem di_range3 {tg : Expr} {t : TDA} {p : Pos} (hg : Gl X "range") (hm : X.mg "range" = none) (ha : DA X B [a, b, c] t) (hs : starEach [a, b, c] X.env = (false, eval a X.env) :: starEach [b, c] X.env := by rfl) (hpl : (backTo pos (starEach [b, c] X.env)).any (·.1) = false := by rfl) :
    DI X B tg (.Call (.Name "range" p) [a, b, c] [] pos) (dRange3 t) :=
  ⟨fun rx tk => PI.imp (pi_range3 hg hm (ha.run rx tk) hs hpl) fun σ H R _ ⟨g, δ, P, S, q, k⟩ => ⟨g, δ, _, S, q, fun ds δ1 g1 H1 vs h1 st1 S1 D1 => by
    match ds, vs, D1, h1 with
    | [.int i, .int j, .int c], _, .cons (.int _) (.cons (.int _) (.cons (.int _) .nil)), h1 =>
      obtain ⟨rfl, ⟨⟨b1, b2⟩, b3, b4⟩, h1⟩ := h1
      exact ⟨i, j, -1, _, rfl, RgC.neg b1 b2 b3 b4, k _ δ1 g1 H1 _ h1 st1 S1 iter_rangeC⟩⟩⟩
end
end DL

/-! three names at once; a module's tuple of ints -/
namespace DL
open PySem PySem.Spec L2
open PyProof.Rows hiding St
section
variable {B : Base} {X : Cx} {e a b c : Expr} {ta tb : TDX} {pos : Pos}
def dPar3 (i j l : Nat) (t : TDA) : TDS := fun rx DE δ => t rx δ fun ds δ1 => match ds with
  | [u, v, w] => DE.nx (((δ1.set i (some (.sh u))).set j (some (.sh v))).set l (some (.sh w)))
  | _ => False
theorem ds_par3 {i j l : Nat} {x y z : Str} {t : TDA} {px py pz pt : Pos} {kt k2 pt2} (hc : X.calm = true) (hN : X.N.Nodup) (hi : X.N[i]? = some x) (hj : X.N[j]? = some y) (hl : X.N[l]? = some z) (hij : i ≠ j) (hil : i ≠ l) (hjl : j ≠ l)
    (hx : X.env.scope.names.lookup x = some .local) (hy : X.env.scope.names.lookup y = some .local) (hz : X.env.scope.names.lookup z = some .local) (ha : DA X B [a, b, c] t)
    (hw : swappedStores [.Tuple [.Name x px, .Name y py, .Name z pz] kt pt] (.Tuple [a, b, c] k2 pt2) X.env = pure (some [x, y, z]))
    (hs : swapsWithSole [.Tuple [.Name x px, .Name y py, .Name z pz] kt pt] (.Tuple [a, b, c] k2 pt2) pos.line X.env = pure false := by rfl) :
    DS X B (.Assign [.Tuple [.Name x px, .Name y py, .Name z pz] kt pt] (.Tuple [a, b, c] k2 pt2) pos) (dPar3 i j l t) :=
  ⟨fun rx tk => PS.imp (ps_par3 hc hN hi hj hl hij hil hjl hx hy hz (ha.run rx tk) hw hs) fun DD σ H _ ⟨g, δ, DE, S, q, k1, k2, k3, k4⟩ => ⟨g, δ, _, S, q, fun ds δ1 g1 H1 vs h1 st1 S1 D1 => by
    match ds, vs, D1, h1 with
    | [d1, d2, d3], [v1, v2, v3], .cons r1 (.cons r2 (.cons r3 .nil)), h1 =>
      obtain ⟨g2, S2, st2⟩ := S1.put r1 (List.getElem?_eq_some_iff.mp hi).1
      obtain ⟨g3, S3, st3⟩ := S2.put (r2.step st2) (List.getElem?_eq_some_iff.mp hj).1
      obtain ⟨g4, S4, st4⟩ := S3.put ((r3.step st2).step st3) (List.getElem?_eq_some_iff.mp hl).1
      exact ⟨v1, v2, v3, rfl, k1 _ _ g4 H1 h1 (((st1.trans st2).trans st3).trans st4) S4⟩⟩⟩
end
/-! ### a tuple of ints at module level -/
def intsB : List Value → List Int → Bool
  | [], [] => true
  | .int i _ :: vs, n :: ns => decide (i = n) && intsB vs ns
  | _, _ => false
theorem intsB_ok : ∀ {vs : List Value} {ns : List Int}, intsB vs ns = true → Vals (ns.map V.int) vs
  | [], [], _ => .nil
  | [], _ :: _, h => by cases h
  | v :: vs, [], h => by cases v <;> cases h
  | v :: vs, n :: ns, h => by
    cases v with
    | int i t =>
      obtain ⟨h1, h2⟩ := He.ba h
      obtain rfl := of_decide_eq_true h1
      exact .cons ⟨t, rfl⟩ (intsB_ok h2)
    | _ => cases h
def tupB (x : Str) (ns : List Int) (K : PySem.W.Frag) : Bool := match K.lookup (He.ga K x) with
  | some ⟨.type t, _, .seq its _, _⟩ => decide (t = "tuple") && decide (its.size ≤ sizeLine) && intsB its.toList ns
  | _ => false
def TupK (K : PySem.W.Frag) (x : Str) (ns : List Int) : Prop := ∀ F : Hp, SqT K F (He.ga K x) (ns.map V.int)
theorem tupB_ok {K : PySem.W.Frag} {x : Str} {ns : List Int} (h : tupB x ns K = true) : TupK K x ns := fun F => by
  unfold tupB at h
  cases e : K.lookup (He.ga K x) with
  | none => rw [e] at h; cases h
  | some o =>
    obtain ⟨oc, od, dt, sl⟩ := o
    rw [e] at h
    cases oc with
    | type t =>
      cases dt with
      | seq its n =>
        obtain ⟨h1, h2⟩ := He.ba h
        obtain ⟨h0, h1⟩ := He.ba h1
        obtain rfl := of_decide_eq_true h0
        exact .inr ⟨_, its, n, e, rfl, rfl, of_decide_eq_true h1, intsB_ok h2⟩
      | _ => cases h
    | _ => cases h
theorem dens_intsT {K : PySem.W.Frag} {W : DW} {F : Hp} : ∀ ns : List Int, Dens K W F (ns.map V.int) (ns.map D.int)
  | [] => .nil
  | n :: ns => .cons (.int n) (dens_intsT ns)
section
variable {B : Base} {X : Cx} {e a b c : Expr} {ta tb : TDX} {pos : Pos} {x : Str}
theorem de_gtup {ns : List Int} (q : TupK X.K x ns) (hg : Gl X x) (hm : X.mg x = some (.ref (He.ga X.K x))) (hdb : (x == ("__debug__" : Str)) = false := by decide) : DE X B (.Name x pos) (dC (.tup (ns.map D.int))) :=
  de_c (v := .ref (He.ga X.K x)) (pe_glob hg hm rfl hdb) fun _ _ => .tup (q _) (dens_intsT ns)
/-- an int in a tuple of ints -/
def inT (f : Bool → Bool) (x y : D) (P : D → Prop) : Prop := match x, y with
  | .int i, .tup ds => ∃ ns : List Int, ds = ns.map D.int ∧ P (.bl (f (decide (i ∈ ns))))
  | _, _ => False
theorem ints_ofT {K : PySem.W.Frag} {W : DW} {F : Hp} : ∀ {vs : List V} {ns : List Int}, Dens K W F vs (ns.map D.int) → vs = ns.map V.int
  | [], [], _ => rfl
  | _, n :: ns, .cons r t => by
    cases r
    rw [ints_ofT t]; rfl
theorem inV_ints {i : Int} : ∀ ns : List Int, inV (.int i) (ns.map V.int) = decide (i ∈ ns)
  | [] => rfl
  | n :: ns => by
    show (eqV (.int n) (.int i) || inV (.int i) (ns.map V.int)) = _
    rw [inV_ints ns]
    show ((n == i) || _) = _
    by_cases h : n = i
    · subst h; simp
    · have : i ≠ n := Ne.symm h
      simp [h, this]
theorem l_inT {K : PySem.W.Frag} : Lift2 K (rIn K false) (inT fun b => b) := fun B n g H σ δ x y d1 d2 P Q S r1 r2 q k => by
  cases r1 with
  | int i =>
    cases r2 with
    | @tup a xs ds h rs =>
      obtain ⟨ns, rfl, q⟩ := q
      obtain rfl := ints_ofT rs
      refine ⟨a, _, rfl, .inr (SqT.up S.ret.sub h), rfl, by simp [flatV], ?_⟩
      rw [if_neg Bool.false_ne_true, inV_ints]
      exact k _ g H _ q (Step.refl _ _ _) S (.bl _)
    | _ => exact q.elim
  | _ => cases r2 <;> exact q.elim
end
end DL

namespace K74
open PySem PySem.Spec L2 DL
open PyProof.Rows hiding St
def top (i : Nat) : Stmt := PySem.Challenge.pw_boughwebs_k74_tallies_by_their_numbers.main.body.getD i (.Pass ⟨0, 0, 0, 0⟩)
theorem bt_abs : bootBuiltins "abs" = some (.builtin "abs") := by decide +kernel
theorem bt_all : bootBuiltins "all" = some (.builtin "all") := by decide +kernel
theorem bt_any : bootBuiltins "any" = some (.builtin "any") := by decide +kernel
theorem bt_bool : bootBuiltins "bool" = some (.type "bool") := by decide +kernel
theorem bt_int : bootBuiltins "int" = some (.type "int") := by decide +kernel
theorem bt_isinstance : bootBuiltins "isinstance" = some (.builtin "isinstance") := by decide +kernel
theorem bt_len : bootBuiltins "len" = some (.builtin "len") := by decide +kernel
theorem bt_list : bootBuiltins "list" = some (.type "list") := by decide +kernel
theorem bt_max : bootBuiltins "max" = some (.builtin "max") := by decide +kernel
theorem bt_min : bootBuiltins "min" = some (.builtin "min") := by decide +kernel
theorem bt_repr : bootBuiltins "repr" = some (.builtin "repr") := by decide +kernel
theorem bt_sum : bootBuiltins "sum" = some (.builtin "sum") := by decide +kernel
theorem bt_tuple : bootBuiltins "tuple" = some (.type "tuple") := by decide +kernel
abbrev s_BadNumber_init : Stmt := inClass (top 3) 0
abbrev N_BadNumber_init : List Str := ["self", "part"]
abbrev d_BadNumber_init : FnA := ⟨.meth "BadNumber" "__init__", "__init__", "BadNumber.__init__", defArgs s_BadNumber_init, defBody s_BadNumber_init, defScope s_BadNumber_init, ["__class__"]⟩
def b_BadNumber : SuB := ⟨"a number is wrong", "part", "part", 0, ⟨9, 8, 9, 13⟩, ⟨9, 8, 9, 15⟩, ⟨9, 8, 9, 24⟩, ⟨9, 25, 9, 44⟩, ⟨9, 8, 9, 45⟩, ⟨9, 8, 9, 45⟩, ⟨10, 8, 10, 12⟩, ⟨10, 8, 10, 17⟩, ⟨10, 20, 10, 24⟩, ⟨10, 8, 10, 24⟩⟩
abbrev s_is_number : Stmt := top 8
abbrev N_is_number : List Str := ["thing"]
abbrev d_is_number : FnA := ⟨.glo "is_number", "is_number", "is_number", defArgs s_is_number, defBody s_is_number, defScope s_is_number, []⟩
theorem sc_is_number : FnScope N_is_number ["thing"] (defScope s_is_number) := ⟨rfl, rfl, rfl, by decide +kernel, rfl, by decide +kernel, by decide +kernel⟩
abbrev s_is_between : Stmt := top 9
abbrev N_is_between : List Str := ["thing", "low", "high"]
abbrev d_is_between : FnA := ⟨.glo "is_between", "is_between", "is_between", defArgs s_is_between, defBody s_is_between, defScope s_is_between, []⟩
theorem sc_is_between : FnScope N_is_between ["thing", "low", "high"] (defScope s_is_between) := ⟨rfl, rfl, rfl, by decide +kernel, rfl, by decide +kernel, by decide +kernel⟩
abbrev s_is_list : Stmt := top 10
abbrev N_is_list : List Str := ["thing"]
abbrev d_is_list : FnA := ⟨.glo "is_list", "is_list", "is_list", defArgs s_is_list, defBody s_is_list, defScope s_is_list, []⟩
theorem sc_is_list : FnScope N_is_list ["thing"] (defScope s_is_list) := ⟨rfl, rfl, rfl, by decide +kernel, rfl, by decide +kernel, by decide +kernel⟩
abbrev s_is_prime : Stmt := top 11
abbrev N_is_prime : List Str := ["thing"]
abbrev d_is_prime : FnA := ⟨.glo "is_prime", "is_prime", "is_prime", defArgs s_is_prime, defBody s_is_prime, defScope s_is_prime, []⟩
theorem sc_is_prime : FnScope N_is_prime ["thing"] (defScope s_is_prime) := ⟨rfl, rfl, rfl, by decide +kernel, rfl, by decide +kernel, by decide +kernel⟩
abbrev s_need_prime : Stmt := top 12
abbrev N_need_prime : List Str := ["thing"]
abbrev d_need_prime : FnA := ⟨.glo "need_prime", "need_prime", "need_prime", defArgs s_need_prime, defBody s_need_prime, defScope s_need_prime, []⟩
theorem sc_need_prime : FnScope N_need_prime ["thing"] (defScope s_need_prime) := ⟨rfl, rfl, rfl, by decide +kernel, rfl, by decide +kernel, by decide +kernel⟩
abbrev s_is_tally : Stmt := top 17
abbrev N_is_tally : List Str := ["thing", "item"]
abbrev d_is_tally : FnA := ⟨.glo "is_tally", "is_tally", "is_tally", defArgs s_is_tally, defBody s_is_tally, defScope s_is_tally, []⟩
theorem sc_is_tally : FnScope N_is_tally ["thing"] (defScope s_is_tally) := ⟨rfl, rfl, rfl, by decide +kernel, rfl, by decide +kernel, by decide +kernel⟩
abbrev s_need_tally : Stmt := top 18
abbrev N_need_tally : List Str := ["thing"]
abbrev d_need_tally : FnA := ⟨.glo "need_tally", "need_tally", "need_tally", defArgs s_need_tally, defBody s_need_tally, defScope s_need_tally, []⟩
theorem sc_need_tally : FnScope N_need_tally ["thing"] (defScope s_need_tally) := ⟨rfl, rfl, rfl, by decide +kernel, rfl, by decide +kernel, by decide +kernel⟩
abbrev s_need_tallies : Stmt := top 19
abbrev N_need_tallies : List Str := ["thing", "one"]
abbrev d_need_tallies : FnA := ⟨.glo "need_tallies", "need_tallies", "need_tallies", defArgs s_need_tallies, defBody s_need_tallies, defScope s_need_tallies, []⟩
theorem sc_need_tallies : FnScope N_need_tallies ["thing"] (defScope s_need_tallies) := ⟨rfl, rfl, rfl, by decide +kernel, rfl, by decide +kernel, by decide +kernel⟩
abbrev s_cut_noughts : Stmt := top 20
abbrev N_cut_noughts : List Str := ["some", "many"]
abbrev d_cut_noughts : FnA := ⟨.glo "cut_noughts", "cut_noughts", "cut_noughts", defArgs s_cut_noughts, defBody s_cut_noughts, defScope s_cut_noughts, []⟩
theorem sc_cut_noughts : FnScope N_cut_noughts ["some"] (defScope s_cut_noughts) := ⟨rfl, rfl, rfl, by decide +kernel, rfl, by decide +kernel, by decide +kernel⟩
abbrev s_value_at : Stmt := top 21
abbrev N_value_at : List Str := ["tally", "number", "found", "item"]
abbrev d_value_at : FnA := ⟨.glo "value_at", "value_at", "value_at", defArgs s_value_at, defBody s_value_at, defScope s_value_at, []⟩
theorem sc_value_at : FnScope N_value_at ["tally", "number"] (defScope s_value_at) := ⟨rfl, rfl, rfl, by decide +kernel, rfl, by decide +kernel, by decide +kernel⟩
abbrev s_tally_at : Stmt := top 22
abbrev N_tally_at : List Str := ["tally", "number"]
abbrev d_tally_at : FnA := ⟨.glo "tally_at", "tally_at", "tally_at", defArgs s_tally_at, defBody s_tally_at, defScope s_tally_at, []⟩
theorem sc_tally_at : FnScope N_tally_at ["tally", "number"] (defScope s_tally_at) := ⟨rfl, rfl, rfl, by decide +kernel, rfl, by decide +kernel, by decide +kernel⟩
abbrev s_tally_plus : Stmt := top 23
abbrev N_tally_plus : List Str := ["one", "other", "many", "found", "k", "item"]
abbrev d_tally_plus : FnA := ⟨.glo "tally_plus", "tally_plus", "tally_plus", defArgs s_tally_plus, defBody s_tally_plus, defScope s_tally_plus, []⟩
theorem sc_tally_plus : FnScope N_tally_plus ["one", "other", "many"] (defScope s_tally_plus) := ⟨rfl, rfl, rfl, by decide +kernel, rfl, by decide +kernel, by decide +kernel⟩
abbrev s_tally_times : Stmt := top 24
abbrev N_tally_times : List Str := ["one", "other", "found", "k", "item", "spot", "more"]
abbrev d_tally_times : FnA := ⟨.glo "tally_times", "tally_times", "tally_times", defArgs s_tally_times, defBody s_tally_times, defScope s_tally_times, []⟩
theorem sc_tally_times : FnScope N_tally_times ["one", "other"] (defScope s_tally_times) := ⟨rfl, rfl, rfl, by decide +kernel, rfl, by decide +kernel, by decide +kernel⟩
abbrev s_raised_tally : Stmt := top 25
abbrev N_raised_tally : List Str := ["tally", "power"]
abbrev d_raised_tally : FnA := ⟨.glo "raised_tally", "raised_tally", "raised_tally", defArgs s_raised_tally, defBody s_raised_tally, defScope s_raised_tally, []⟩
theorem sc_raised_tally : FnScope N_raised_tally ["tally", "power"] (defScope s_raised_tally) := ⟨rfl, rfl, rfl, by decide +kernel, rfl, by decide +kernel, by decide +kernel⟩
abbrev s_tally_sum : Stmt := top 26
abbrev N_tally_sum : List Str := ["tallies", "found", "one"]
abbrev d_tally_sum : FnA := ⟨.glo "tally_sum", "tally_sum", "tally_sum", defArgs s_tally_sum, defBody s_tally_sum, defScope s_tally_sum, []⟩
theorem sc_tally_sum : FnScope N_tally_sum ["tallies"] (defScope s_tally_sum) := ⟨rfl, rfl, rfl, by decide +kernel, rfl, by decide +kernel, by decide +kernel⟩
abbrev s_tally_product : Stmt := top 27
abbrev N_tally_product : List Str := ["tallies", "one", "found"]
abbrev d_tally_product : FnA := ⟨.glo "tally_product", "tally_product", "tally_product", defArgs s_tally_product, defBody s_tally_product, defScope s_tally_product, []⟩
theorem sc_tally_product : FnScope N_tally_product ["tallies"] (defScope s_tally_product) := ⟨rfl, rfl, rfl, by decide +kernel, rfl, by decide +kernel, by decide +kernel⟩
abbrev s_tally_less : Stmt := top 28
abbrev N_tally_less : List Str := ["one", "other"]
abbrev d_tally_less : FnA := ⟨.glo "tally_less", "tally_less", "tally_less", defArgs s_tally_less, defBody s_tally_less, defScope s_tally_less, []⟩
theorem sc_tally_less : FnScope N_tally_less ["one", "other"] (defScope s_tally_less) := ⟨rfl, rfl, rfl, by decide +kernel, rfl, by decide +kernel, by decide +kernel⟩
abbrev s_quotient_of : Stmt := top 29
abbrev N_quotient_of : List Str := ["one", "other", "left", "found", "k", "top", "spot", "item"]
abbrev d_quotient_of : FnA := ⟨.glo "quotient_of", "quotient_of", "quotient_of", defArgs s_quotient_of, defBody s_quotient_of, defScope s_quotient_of, []⟩
theorem sc_quotient_of : FnScope N_quotient_of ["one", "other"] (defScope s_quotient_of) := ⟨rfl, rfl, rfl, by decide +kernel, rfl, by decide +kernel, by decide +kernel⟩
abbrev s_tally_through : Stmt := top 30
abbrev N_tally_through : List Str := ["one", "other"]
abbrev d_tally_through : FnA := ⟨.glo "tally_through", "tally_through", "tally_through", defArgs s_tally_through, defBody s_tally_through, defScope s_tally_through, []⟩
theorem sc_tally_through : FnScope N_tally_through ["one", "other"] (defScope s_tally_through) := ⟨rfl, rfl, rfl, by decide +kernel, rfl, by decide +kernel, by decide +kernel⟩
abbrev s_whole_of_size : Stmt := top 31
abbrev N_whole_of_size : List Str := ["size", "found", "k"]
abbrev d_whole_of_size : FnA := ⟨.glo "whole_of_size", "whole_of_size", "whole_of_size", defArgs s_whole_of_size, defBody s_whole_of_size, defScope s_whole_of_size, []⟩
theorem sc_whole_of_size : FnScope N_whole_of_size ["size"] (defScope s_whole_of_size) := ⟨rfl, rfl, rfl, by decide +kernel, rfl, by decide +kernel, by decide +kernel⟩
abbrev s_whole_tally : Stmt := top 32
abbrev N_whole_tally : List Str := ["size"]
abbrev d_whole_tally : FnA := ⟨.glo "whole_tally", "whole_tally", "whole_tally", defArgs s_whole_tally, defBody s_whole_tally, defScope s_whole_tally, []⟩
theorem sc_whole_tally : FnScope N_whole_tally ["size"] (defScope s_whole_tally) := ⟨rfl, rfl, rfl, by decide +kernel, rfl, by decide +kernel, by decide +kernel⟩
abbrev s_choices_of : Stmt := top 33
abbrev N_choices_of : List Str := ["size", "part", "under"]
abbrev d_choices_of : FnA := ⟨.glo "choices_of", "choices_of", "choices_of", defArgs s_choices_of, defBody s_choices_of, defScope s_choices_of, []⟩
theorem sc_choices_of : FnScope N_choices_of ["size", "part"] (defScope s_choices_of) := ⟨rfl, rfl, rfl, by decide +kernel, rfl, by decide +kernel, by decide +kernel⟩
abbrev s_choices_tally : Stmt := top 34
abbrev N_choices_tally : List Str := ["size", "part"]
abbrev d_choices_tally : FnA := ⟨.glo "choices_tally", "choices_tally", "choices_tally", defArgs s_choices_tally, defBody s_choices_tally, defScope s_choices_tally, []⟩
theorem sc_choices_tally : FnScope N_choices_tally ["size", "part"] (defScope s_choices_tally) := ⟨rfl, rfl, rfl, by decide +kernel, rfl, by decide +kernel, by decide +kernel⟩
abbrev s_count_whole : Stmt := top 36
abbrev N_count_whole : List Str := ["prime", "size", "whole", "part", "found", "k"]
abbrev d_count_whole : FnA := ⟨.glo "count_whole", "count_whole", "count_whole", defArgs s_count_whole, defBody s_count_whole, defScope s_count_whole, []⟩
theorem sc_count_whole : FnScope N_count_whole ["prime", "size"] (defScope s_count_whole) := ⟨rfl, rfl, rfl, by decide +kernel, rfl, by decide +kernel, by decide +kernel⟩
abbrev s__law_mixed : Stmt := top 39
abbrev N__law_mixed : List Str := ["_law_draw", "_law_turn", "_law_found", "_law_great", "_law_blend", "_law_grain"]
abbrev d__law_mixed : FnA := ⟨.glo "_law_mixed", "_law_mixed", "_law_mixed", defArgs s__law_mixed, defBody s__law_mixed, defScope s__law_mixed, []⟩
theorem sc__law_mixed : FnScope N__law_mixed ["_law_draw"] (defScope s__law_mixed) := ⟨rfl, rfl, rfl, by decide +kernel, rfl, by decide +kernel, by decide +kernel⟩
abbrev s__law_take : Stmt := top 40
abbrev N__law_take : List Str := ["_law_draw", "_law_amount", "_law_found"]
abbrev d__law_take : FnA := ⟨.glo "_law_take", "_law_take", "_law_take", defArgs s__law_take, defBody s__law_take, defScope s__law_take, []⟩
theorem sc__law_take : FnScope N__law_take ["_law_draw", "_law_amount"] (defScope s__law_take) := ⟨rfl, rfl, rfl, by decide +kernel, rfl, by decide +kernel, by decide +kernel⟩
abbrev s__law_pick : Stmt := top 41
abbrev N__law_pick : List Str := ["_law_draw", "_law_some"]
abbrev d__law_pick : FnA := ⟨.glo "_law_pick", "_law_pick", "_law_pick", defArgs s__law_pick, defBody s__law_pick, defScope s__law_pick, []⟩
theorem sc__law_pick : FnScope N__law_pick ["_law_draw", "_law_some"] (defScope s__law_pick) := ⟨rfl, rfl, rfl, by decide +kernel, rfl, by decide +kernel, by decide +kernel⟩
abbrev s__law_field : Stmt := top 42
abbrev N__law_field : List Str := ["_law_draw"]
abbrev d__law_field : FnA := ⟨.glo "_law_field", "_law_field", "_law_field", defArgs s__law_field, defBody s__law_field, defScope s__law_field, []⟩
theorem sc__law_field : FnScope N__law_field ["_law_draw"] (defScope s__law_field) := ⟨rfl, rfl, rfl, by decide +kernel, rfl, by decide +kernel, by decide +kernel⟩
abbrev s__law_caught : Stmt := top 43
abbrev N__law_caught : List Str := ["_law_work", "_law_caught_here", "_law_error"]
abbrev d__law_caught : FnA := ⟨.glo "_law_caught", "_law_caught", "_law_caught", defArgs s__law_caught, defBody s__law_caught, defScope s__law_caught, []⟩
theorem sc__law_caught : FnScope N__law_caught ["_law_work"] (defScope s__law_caught) := ⟨rfl, rfl, rfl, by decide +kernel, rfl, by decide +kernel, by decide +kernel⟩
abbrev s__law_cut : Stmt := top 44
abbrev N__law_cut : List Str := ["_law_some", "_law_found"]
abbrev d__law_cut : FnA := ⟨.glo "_law_cut", "_law_cut", "_law_cut", defArgs s__law_cut, defBody s__law_cut, defScope s__law_cut, []⟩
theorem sc__law_cut : FnScope N__law_cut ["_law_some"] (defScope s__law_cut) := ⟨rfl, rfl, rfl, by decide +kernel, rfl, by decide +kernel, by decide +kernel⟩
abbrev s__law_poly_sum : Stmt := top 45
abbrev N__law_poly_sum : List Str := ["_law_some", "_law_size", "_law_one", "_law_k"]
abbrev d__law_poly_sum : FnA := ⟨.glo "_law_poly_sum", "_law_poly_sum", "_law_poly_sum", defArgs s__law_poly_sum, defBody s__law_poly_sum, defScope s__law_poly_sum, []⟩
theorem sc__law_poly_sum : FnScope N__law_poly_sum ["_law_some"] (defScope s__law_poly_sum) := ⟨rfl, rfl, rfl, by decide +kernel, rfl, by decide +kernel, by decide +kernel⟩
abbrev s__law_poly_product : Stmt := top 46
abbrev N__law_poly_product : List Str := ["_law_some", "_law_found", "_law_one", "_law_sums", "_law_k", "_law_item", "_law_spot", "_law_more"]
abbrev d__law_poly_product : FnA := ⟨.glo "_law_poly_product", "_law_poly_product", "_law_poly_product", defArgs s__law_poly_product, defBody s__law_poly_product, defScope s__law_poly_product, []⟩
theorem sc__law_poly_product : FnScope N__law_poly_product ["_law_some"] (defScope s__law_poly_product) := ⟨rfl, rfl, rfl, by decide +kernel, rfl, by decide +kernel, by decide +kernel⟩
abbrev s__law_power : Stmt := top 47
abbrev N__law_power : List Str := ["_law_power_here"]
abbrev d__law_power : FnA := ⟨.glo "_law_power", "_law_power", "_law_power", defArgs s__law_power, defBody s__law_power, defScope s__law_power, []⟩
theorem sc__law_power : FnScope N__law_power ["_law_power_here"] (defScope s__law_power) := ⟨rfl, rfl, rfl, by decide +kernel, rfl, by decide +kernel, by decide +kernel⟩
abbrev s__law_worth : Stmt := top 48
abbrev N__law_worth : List Str := ["_law_poly", "_law_number", "_law_found", "_law_item"]
abbrev d__law_worth : FnA := ⟨.glo "_law_worth", "_law_worth", "_law_worth", defArgs s__law_worth, defBody s__law_worth, defScope s__law_worth, []⟩
theorem sc__law_worth : FnScope N__law_worth ["_law_poly", "_law_number"] (defScope s__law_worth) := ⟨rfl, rfl, rfl, by decide +kernel, rfl, by decide +kernel, by decide +kernel⟩
abbrev s__law_ends : Stmt := top 49
abbrev N__law_ends : List Str := ["_law_size", "_law_found", "_law_k", "_law_less"]
abbrev d__law_ends : FnA := ⟨.glo "_law_ends", "_law_ends", "_law_ends", defArgs s__law_ends, defBody s__law_ends, defScope s__law_ends, []⟩
theorem sc__law_ends : FnScope N__law_ends ["_law_size"] (defScope s__law_ends) := ⟨rfl, rfl, rfl, by decide +kernel, rfl, by decide +kernel, by decide +kernel⟩
abbrev s__law_choices : Stmt := top 50
abbrev N__law_choices : List Str := ["_law_size", "_law_part_here", "_law_found", "_law_lap", "_law_longer", "_law_k", "_law_stays"]
abbrev d__law_choices : FnA := ⟨.glo "_law_choices", "_law_choices", "_law_choices", defArgs s__law_choices, defBody s__law_choices, defScope s__law_choices, []⟩
theorem sc__law_choices : FnScope N__law_choices ["_law_size", "_law_part_here"] (defScope s__law_choices) := ⟨rfl, rfl, rfl, by decide +kernel, rfl, by decide +kernel, by decide +kernel⟩
abbrev s__law_tally : Stmt := top 51
abbrev N__law_tally : List Str := ["_law_draw", "_law_some", "_law_k"]
abbrev d__law_tally : FnA := ⟨.glo "_law_tally", "_law_tally", "_law_tally", defArgs s__law_tally, defBody s__law_tally, defScope s__law_tally, []⟩
theorem sc__law_tally : FnScope N__law_tally ["_law_draw"] (defScope s__law_tally) := ⟨rfl, rfl, rfl, by decide +kernel, rfl, by decide +kernel, by decide +kernel⟩
abbrev s__law_is_bad : Stmt := top 52
abbrev N__law_is_bad : List Str := ["_law_work"]
abbrev d__law_is_bad : FnA := ⟨.glo "_law_is_bad", "_law_is_bad", "_law_is_bad", defArgs s__law_is_bad, defBody s__law_is_bad, defScope s__law_is_bad, []⟩
theorem sc__law_is_bad : FnScope N__law_is_bad ["_law_work"] (defScope s__law_is_bad) := ⟨rfl, rfl, rfl, by decide +kernel, rfl, by decide +kernel, by decide +kernel⟩
abbrev s__law_part : Stmt := top 53
abbrev N__law_part : List Str := ["_law_work", "_law_error"]
abbrev d__law_part : FnA := ⟨.glo "_law_part", "_law_part", "_law_part", defArgs s__law_part, defBody s__law_part, defScope s__law_part, []⟩
theorem sc__law_part : FnScope N__law_part ["_law_work"] (defScope s__law_part) := ⟨rfl, rfl, rfl, by decide +kernel, rfl, by decide +kernel, by decide +kernel⟩
abbrev s__law_sums_right : Stmt := top 54
abbrev N__law_sums_right : List Str := ["_law_draw", "_law_some", "_law_k", "_law_one", "_law_other", "_law_number", "_law_item", "_law_back", "_law_product_here", "_law_off"]
abbrev d__law_sums_right : FnA := ⟨.glo "_law_sums_right", "_law_sums_right", "_law_sums_right", defArgs s__law_sums_right, defBody s__law_sums_right, defScope s__law_sums_right, []⟩
theorem sc__law_sums_right : FnScope N__law_sums_right ["_law_draw"] (defScope s__law_sums_right) := ⟨rfl, rfl, rfl, by decide +kernel, rfl, by decide +kernel, by decide +kernel⟩
abbrev s__law_rooms_right : Stmt := top 55
abbrev N__law_rooms_right : List Str := ["_law_draw", "_law_size", "_law_part_here", "_law_field_here"]
abbrev d__law_rooms_right : FnA := ⟨.glo "_law_rooms_right", "_law_rooms_right", "_law_rooms_right", defArgs s__law_rooms_right, defBody s__law_rooms_right, defScope s__law_rooms_right, []⟩
theorem sc__law_rooms_right : FnScope N__law_rooms_right ["_law_draw"] (defScope s__law_rooms_right) := ⟨rfl, rfl, rfl, by decide +kernel, rfl, by decide +kernel, by decide +kernel⟩
abbrev s__law_refused : Stmt := top 56
abbrev N__law_refused : List Str := ["_law_draw", "_law_some", "_law_bad", "_law_long_here", "_law_work", "_law_odd", "_law_far"]
abbrev d__law_refused : FnA := ⟨.glo "_law_refused", "_law_refused", "_law_refused", defArgs s__law_refused, defBody s__law_refused, defScope s__law_refused, []⟩
theorem sc__law_refused : FnScope N__law_refused ["_law_draw"] (defScope s__law_refused) := ⟨rfl, rfl, rfl, by decide +kernel, rfl, by decide +kernel, by decide +kernel⟩
abbrev s_law : Stmt := top 57
abbrev N_law : List Str := ["_law_script", "_law_draw", "_law_turn"]
abbrev d_law : FnA := ⟨.glo "law", "law", "law", defArgs s_law, defBody s_law, defScope s_law, []⟩
theorem sc_law : FnScope N_law ["_law_script"] (defScope s_law) := ⟨rfl, rfl, rfl, by decide +kernel, rfl, by decide +kernel, by decide +kernel⟩
abbrev s__law_begun : Stmt := top 38
abbrev N__law_begun : List Str := ["_law_script", "_law_large", "_law_grain"]
abbrev d__law_begun : FnA := ⟨.glo "_law_begun", "_law_begun", "_law_begun", defArgs s__law_begun, defBody s__law_begun, defScope s__law_begun, []⟩
theorem sc__law_begun : FnScope N__law_begun ["_law_script"] (defScope s__law_begun) := ⟨rfl, rfl, rfl, by decide +kernel, rfl, by decide +kernel, by decide +kernel⟩
def C : LawC := { fns := [d_BadNumber_init, d_is_number, d_is_between, d_is_list, d_is_prime, d_need_prime, d_is_tally, d_need_tally, d_need_tallies, d_cut_noughts, d_value_at, d_tally_at, d_tally_plus, d_tally_times, d_raised_tally, d_tally_sum, d_tally_product, d_tally_less, d_quotient_of, d_tally_through, d_whole_of_size, d_whole_tally, d_choices_of, d_choices_tally, d_count_whole, d__law_mixed, d__law_take, d__law_pick, d__law_field, d__law_caught, d__law_cut, d__law_poly_sum, d__law_poly_product, d__law_power, d__law_worth, d__law_ends, d__law_choices, d__law_tally, d__law_is_bad, d__law_part, d__law_sums_right, d__law_rooms_right, d__law_refused, d_law, d__law_begun], glos := [("is_number" : Str), ("is_between" : Str), ("is_list" : Str), ("PRIMES" : Str), ("is_prime" : Str), ("BadPrime" : Str), ("need_prime" : Str), ("is_tally" : Str), ("BadTally" : Str), ("need_tally" : Str), ("need_tallies" : Str), ("cut_noughts" : Str), ("value_at" : Str), ("BadNumber" : Str), ("tally_at" : Str), ("tally_plus" : Str), ("tally_times" : Str), ("raised_tally" : Str), ("tally_sum" : Str), ("tally_product" : Str), ("tally_less" : Str), ("quotient_of" : Str), ("tally_through" : Str), ("whole_of_size" : Str), ("whole_tally" : Str), ("choices_of" : Str), ("choices_tally" : Str), ("count_whole" : Str), ("_law_mixed" : Str), ("_law_take" : Str), ("_law_pick" : Str), ("_law_field" : Str), ("_law_caught" : Str), ("WebError" : Str), ("_law_cut" : Str), ("_law_poly_sum" : Str), ("_law_poly_product" : Str), ("_law_power" : Str), ("_law_worth" : Str), ("_law_ends" : Str), ("_law_choices" : Str), ("_law_tally" : Str), ("_law_is_bad" : Str), ("_law_part" : Str), ("_law_sums_right" : Str), ("_law_rooms_right" : Str), ("_law_refused" : Str), ("law" : Str), ("_law_begun" : Str)], frees := ["int", "isinstance", "bool", "list", "tuple", "len", "all", "super", "max", "enumerate", "any", "sum", "range", "repr", "min", "abs"], nums := [("MOST_ITEMS", 2000), ("MOST_ASKED", 1000000), ("MOST_TALLIED", 12), ("MOST_SIDE", 60)], isas := ⟨[], ["BadNumber", "BadPrime", "BadTally"], [(((.ty "bool"), (.ty "int")), true), (((.ty "bool"), (.ty "bool")), true), (((.ty "bool"), (.ty "list")), false), (((.ty "bool"), (.ty "tuple")), false), (((.ty "bool"), (.own "BadNumber")), false), (((.ty "bool"), (.own "BadPrime")), false), (((.ty "bool"), (.own "BadTally")), false), (((.ty "int"), (.ty "int")), true), (((.ty "int"), (.ty "bool")), false), (((.ty "int"), (.ty "list")), false), (((.ty "int"), (.ty "tuple")), false), (((.ty "int"), (.own "BadNumber")), false), (((.ty "int"), (.own "BadPrime")), false), (((.ty "int"), (.own "BadTally")), false), (((.ty "list"), (.ty "int")), false), (((.ty "list"), (.ty "bool")), false), (((.ty "list"), (.ty "list")), true), (((.ty "list"), (.ty "tuple")), false), (((.ty "list"), (.own "BadNumber")), false), (((.ty "list"), (.own "BadPrime")), false), (((.ty "list"), (.own "BadTally")), false), (((.ty "tuple"), (.ty "int")), false), (((.ty "tuple"), (.ty "bool")), false), (((.ty "tuple"), (.ty "list")), false), (((.ty "tuple"), (.ty "tuple")), true), (((.ty "tuple"), (.own "BadNumber")), false), (((.ty "tuple"), (.own "BadPrime")), false), (((.ty "tuple"), (.own "BadTally")), false), (((.ty "str"), (.ty "int")), false), (((.ty "str"), (.ty "bool")), false), (((.ty "str"), (.ty "list")), false), (((.ty "str"), (.ty "tuple")), false), (((.ty "str"), (.own "BadNumber")), false), (((.ty "str"), (.own "BadPrime")), false), (((.ty "str"), (.own "BadTally")), false), (((.ty "dict"), (.ty "int")), false), (((.ty "dict"), (.ty "bool")), false), (((.ty "dict"), (.ty "list")), false), (((.ty "dict"), (.ty "tuple")), false), (((.ty "dict"), (.own "BadNumber")), false), (((.ty "dict"), (.own "BadPrime")), false), (((.ty "dict"), (.own "BadTally")), false), (((.ty "NoneType"), (.ty "int")), false), (((.ty "NoneType"), (.ty "bool")), false), (((.ty "NoneType"), (.ty "list")), false), (((.ty "NoneType"), (.ty "tuple")), false), (((.ty "NoneType"), (.own "BadNumber")), false), (((.ty "NoneType"), (.own "BadPrime")), false), (((.ty "NoneType"), (.own "BadTally")), false), (((.own "BadNumber"), (.ty "int")), false), (((.own "BadNumber"), (.ty "bool")), false), (((.own "BadNumber"), (.ty "list")), false), (((.own "BadNumber"), (.ty "tuple")), false), (((.own "BadNumber"), (.own "BadNumber")), true), (((.own "BadNumber"), (.own "BadPrime")), false), (((.own "BadNumber"), (.own "BadTally")), false), (((.own "BadPrime"), (.ty "int")), false), (((.own "BadPrime"), (.ty "bool")), false), (((.own "BadPrime"), (.ty "list")), false), (((.own "BadPrime"), (.ty "tuple")), false), (((.own "BadPrime"), (.own "BadNumber")), false), (((.own "BadPrime"), (.own "BadPrime")), true), (((.own "BadPrime"), (.own "BadTally")), false), (((.own "BadTally"), (.ty "int")), false), (((.own "BadTally"), (.ty "bool")), false), (((.own "BadTally"), (.ty "list")), false), (((.own "BadTally"), (.ty "tuple")), false), (((.own "BadTally"), (.own "BadNumber")), false), (((.own "BadTally"), (.own "BadPrime")), false), (((.own "BadTally"), (.own "BadTally")), true)]⟩, tab := [(("BadNumber", "part"), .exc)], mks := [] }
def tfs : List (Wh × Str) := [(.glo "_law_sums_right", (envOfC "_law_sums_right" (defScope s__law_sums_right) 0 0 .none).qual ++ "<lambda>"), (.glo "_law_refused", (envOfC "_law_refused" (defScope s__law_refused) 0 0 .none).qual ++ "<lambda>")]
abbrev tq__law_sums_right : Wh × Str := (.glo "_law_sums_right", (envOfC "_law_sums_right" (defScope s__law_sums_right) 0 0 .none).qual ++ "<lambda>")
theorem tin__law_sums_right : tq__law_sums_right ∈ tfs := List.mem_of_getElem? (i := 0) rfl
abbrev tq__law_refused : Wh × Str := (.glo "_law_refused", (envOfC "_law_refused" (defScope s__law_refused) 0 0 .none).qual ++ "<lambda>")
theorem tin__law_refused : tq__law_refused ∈ tfs := List.mem_of_getElem? (i := 1) rfl
abbrev cs : List Str := ["BadNumber", "BadPrime", "BadTally"]
structure ZZ (P : Program) (K : PySem.W.Frag) (mg : Str → Option Value) (base : Heap) (T : List (Addr × Str)) : Prop extends Zl C tfs "WebError" cs K mg base T where
  su_BadNumber : SuE P K b_BadNumber "BadNumber"
  ef_BadPrime : ExcF K "BadPrime"
  ef_BadTally : ExcF K "BadTally"
  tp_PRIMES : TupK K "PRIMES" [2, 3, 5, 7, 11, 13, 17, 19, 23, 29, 31, 37, 41, 43, 47, 53, 59, 61, 67, 71, 73, 79, 83, 89, 97]
section
variable {P : Program} {w : World} {K : PySem.W.Frag} {mg : Str → Option Value} {base : Heap} {T : List (Addr × Str)}
def t_is_number : TDS := (dRet (dAndV (dCB (isaD C.isas) (dCons (dVar 0) (dCons (dC (.ty "int")) dNil))) (dNotV (dCB (isaD C.isas) (dCons (dVar 0) (dCons (dC (.ty "bool")) dNil))))))
theorem okg_is_number (Z : ZZ P K mg base T) : FnB P w K mg base T d_is_number 1 ["thing"] (dBody N_is_number.length t_is_number) :=
  Z.toZk.fnB 1 rfl rfl rfl sc_is_number fun cdv A outer s H E B hcd hT hr => by
    subst hT
    exact (dss_one (ds_ret (de_and (de_callB call_isa (lc_isa Z.isa) (by rfl) (Z.f 1 rfl) bt_isinstance (da_cons (de_var 0 (pv 0)) (da_cons (de_ty (by rfl) (Z.f 0 rfl) bt_int) da_nil))) (de_one (de_not (de_callB call_isa (lc_isa Z.isa) (by rfl) (Z.f 1 rfl) bt_isinstance (da_cons (de_var 0 (pv 0)) (da_cons (de_ty (by rfl) (Z.f 2 rfl) bt_bool) da_nil))))))))
theorem ok_is_number (Z : ZZ P K mg base T) : FnD P w K mg base T "is_number" 1 ["thing"] (dBody N_is_number.length t_is_number) := (okg_is_number Z).fnD (Z.g 0 rfl) (fun _ _ _ _ _ _ us hl => match us, hl with | [_], _ => rfl)
def t_is_between : TDS := (dRet (dAndV (dCall (dBody N_is_number.length t_is_number) 1 (dCons (dVar 0) dNil)) (dChain leD leD (dVar 1) (dVar 0) (dVar 2))))
theorem okg_is_between (Z : ZZ P K mg base T) : FnB P w K mg base T d_is_between 2 ["thing", "low", "high"] (dBody N_is_between.length t_is_between) :=
  Z.toZk.fnB 2 rfl rfl rfl sc_is_between fun cdv A outer s H E B hcd hT hr => by
    subst hT
    exact (dss_one (ds_ret (de_and (de_call (ok_is_number Z) (hr.mono (by decide)) (by rfl) (da_cons (de_var 0 (pv 0)) da_nil)) (de_one (de_chain op_le l_le op_le l_le (de_var 1 (pv 1)) (de_var 0 (pv 0)) (de_var 2 (pv 2)))))))
theorem ok_is_between (Z : ZZ P K mg base T) : FnD P w K mg base T "is_between" 2 ["thing", "low", "high"] (dBody N_is_between.length t_is_between) := (okg_is_between Z).fnD (Z.g 1 rfl) (fun _ _ _ _ _ _ us hl => match us, hl with | [_, _, _], _ => rfl)
def t_is_list : TDS := (dRet (dCB (isaD C.isas) (dCons (dVar 0) (dCons (dTup (dCons (dC (.ty "list")) (dCons (dC (.ty "tuple")) dNil))) dNil))))
theorem okg_is_list (Z : ZZ P K mg base T) : FnB P w K mg base T d_is_list 1 ["thing"] (dBody N_is_list.length t_is_list) :=
  Z.toZk.fnB 3 rfl rfl rfl sc_is_list fun cdv A outer s H E B hcd hT hr => by
    subst hT
    exact (dss_one (ds_ret (de_callB call_isa (lc_isa Z.isa) (by rfl) (Z.f 1 rfl) bt_isinstance (da_cons (de_var 0 (pv 0)) (da_cons (de_tup (da_cons (de_ty (by rfl) (Z.f 3 rfl) bt_list) (da_cons (de_ty (by rfl) (Z.f 4 rfl) bt_tuple) da_nil))) da_nil)))))
theorem ok_is_list (Z : ZZ P K mg base T) : FnD P w K mg base T "is_list" 1 ["thing"] (dBody N_is_list.length t_is_list) := (okg_is_list Z).fnD (Z.g 2 rfl) (fun _ _ _ _ _ _ us hl => match us, hl with | [_], _ => rfl)
def t_is_prime : TDS := (dRet (dAndV (dCall (dBody N_is_number.length t_is_number) 1 (dCons (dVar 0) dNil)) (d2 (inT fun b => b) (dVar 0) (dC (.tup ([2, 3, 5, 7, 11, 13, 17, 19, 23, 29, 31, 37, 41, 43, 47, 53, 59, 61, 67, 71, 73, 79, 83, 89, 97].map D.int))))))
theorem okg_is_prime (Z : ZZ P K mg base T) : FnB P w K mg base T d_is_prime 2 ["thing"] (dBody N_is_prime.length t_is_prime) :=
  Z.toZk.fnB 4 rfl rfl rfl sc_is_prime fun cdv A outer s H E B hcd hT hr => by
    subst hT
    exact (dss_one (ds_ret (de_and (de_call (ok_is_number Z) (hr.mono (by decide)) (by rfl) (da_cons (de_var 0 (pv 0)) da_nil)) (de_one (de_cmp op_in_seq l_inT (de_var 0 (pv 0)) (de_gtup Z.tp_PRIMES (by rfl) (Z.g 3 rfl)) (by rfl))))))
theorem ok_is_prime (Z : ZZ P K mg base T) : FnD P w K mg base T "is_prime" 2 ["thing"] (dBody N_is_prime.length t_is_prime) := (okg_is_prime Z).fnD (Z.g 4 rfl) (fun _ _ _ _ _ _ us hl => match us, hl with | [_], _ => rfl)
def t_need_prime : TDS := (dIfS (dNot (dTest (dCall (dBody N_is_prime.length t_is_prime) 1 (dCons (dVar 0) dNil)))) (dRaise0 "BadPrime") dNext)
theorem okg_need_prime (Z : ZZ P K mg base T) : FnB P w K mg base T d_need_prime 3 ["thing"] (dBody N_need_prime.length t_need_prime) :=
  Z.toZk.fnB 5 rfl rfl rfl sc_need_prime fun cdv A outer s H E B hcd hT hr => by
    subst hT
    exact (dss_one (ds_if (dt_not (dt_val (de_call (ok_is_prime Z) (hr.mono (by decide)) (by rfl) (da_cons (de_var 0 (pv 0)) da_nil)))) (dss_one (ds_raise0 Z.ef_BadPrime rfl (by rfl) (Z.g 5 rfl))) dss_nil))
theorem ok_need_prime (Z : ZZ P K mg base T) : FnD P w K mg base T "need_prime" 3 ["thing"] (dBody N_need_prime.length t_need_prime) := (okg_need_prime Z).fnD (Z.g 6 rfl) (fun _ _ _ _ _ _ us hl => match us, hl with | [_], _ => rfl)
def t_is_tally : TDS := (dSeq (dIfS (dOr (dNot (dTest (dCB (isaD C.isas) (dCons (dVar 0) (dCons (dC (.ty "tuple")) dNil))))) (dTest (d2 gtD (dCB lenD (dCons (dVar 0) dNil)) (dC (.int 2000))))) (dRet (dC (.bl false))) dNext)
    (dSeq (dIfS (dNot (dTest (dCB (onL allL) (dCons (dFrz (dComp (dSeqI (dVar 0)) (gN 1) dYes (dCall (dBody N_is_number.length t_is_number) 1 (dCons (dVar 1) dNil)) [1])) dNil)))) (dRet (dC (.bl false))) dNext)
    (dRet (dOrV (d2 eqD (dVar 0) (dTup dNil)) (d2 neD (d2 ixD (dVar 0) (d1 negD (dC (.int 1)))) (dC (.int 0)))))))
theorem okg_is_tally (Z : ZZ P K mg base T) : FnB P w K mg base T d_is_tally 2 ["thing"] (dBody N_is_tally.length t_is_tally) :=
  Z.toZk.fnB 6 rfl rfl rfl sc_is_tally fun cdv A outer s H E B hcd hT hr => by
    subst hT
    exact (dss_cons (ds_if (DWh.dt (dw_or (dt_not (dt_val (de_callB call_isa (lc_isa Z.isa) (by rfl) (Z.f 1 rfl) bt_isinstance (da_cons (de_var 0 (pv 0)) (da_cons (de_ty (by rfl) (Z.f 4 rfl) bt_tuple) da_nil))))) (dw_or1 (dt_cmp op_gt l_gt (de_callB call_lenA lc_len (by rfl) (Z.f 5 rfl) bt_len (da_cons (de_var 0 (pv 0)) da_nil)) (de_gint (by rfl) (Z.n 0 rfl)) (by rfl))))) (dss_one (ds_ret de_bl)) dss_nil)
    (dss_cons (ds_if (dt_not (dt_val (de_callB (cr_all (by rfl)) lc_all (by rfl) (Z.f 6 rfl) bt_all (da_cons (de_frz (df_comp (own := [("item", 1)]) rfl sc_is_tally.nd (di_seq (de_var 0 (pv 0))) (blkOk_by (by rfl)) (fun _ _ _ _ _ => (dg_name (i := 1) sc_is_tally.nd rfl (by first | exact Or.inl rfl | exact Or.inr rfl))) (fun _ _ _ _ _ => dts_nil) (fun _ _ _ _ _ => (de_call (ok_is_number Z) (hr.mono (by decide)) (by rfl) (da_cons (de_var 1 (pv 1)) da_nil))))) da_nil)))) (dss_one (ds_ret de_bl)) dss_nil)
    (dss_one (ds_ret (de_or (de_cmp (op_eqD hr.u64) l_eq (de_var 0 (pv 0)) (de_tup da_nil) (by rfl)) (de_one (de_cmp (op_neD hr.u64) l_ne (de_ix (ix_all hr.u1) l_ix (de_var 0 (pv 0)) (de_neg de_int) (by intro _ _; rfl)) de_int (by rfl))))))))
theorem ok_is_tally (Z : ZZ P K mg base T) : FnD P w K mg base T "is_tally" 2 ["thing"] (dBody N_is_tally.length t_is_tally) := (okg_is_tally Z).fnD (Z.g 7 rfl) (fun _ _ _ _ _ _ us hl => match us, hl with | [_], _ => rfl)
def t_need_tally : TDS := (dIfS (dNot (dTest (dCall (dBody N_is_tally.length t_is_tally) 1 (dCons (dVar 0) dNil)))) (dRaise0 "BadTally") dNext)
theorem okg_need_tally (Z : ZZ P K mg base T) : FnB P w K mg base T d_need_tally 3 ["thing"] (dBody N_need_tally.length t_need_tally) :=
  Z.toZk.fnB 7 rfl rfl rfl sc_need_tally fun cdv A outer s H E B hcd hT hr => by
    subst hT
    exact (dss_one (ds_if (dt_not (dt_val (de_call (ok_is_tally Z) (hr.mono (by decide)) (by rfl) (da_cons (de_var 0 (pv 0)) da_nil)))) (dss_one (ds_raise0 Z.ef_BadTally rfl (by rfl) (Z.g 8 rfl))) dss_nil))
theorem ok_need_tally (Z : ZZ P K mg base T) : FnD P w K mg base T "need_tally" 3 ["thing"] (dBody N_need_tally.length t_need_tally) := (okg_need_tally Z).fnD (Z.g 9 rfl) (fun _ _ _ _ _ _ us hl => match us, hl with | [_], _ => rfl)
def t_need_tallies : TDS := (dSeq (dIfS (dNot (dTest (dCall (dBody N_is_list.length t_is_list) 1 (dCons (dVar 0) dNil)))) (dRaise0 "BadTally") dNext)
    (dFor (dSeqI (dVar 0)) (gN 1) (dExpr (dCall (dBody N_need_tally.length t_need_tally) 1 (dCons (dVar 1) dNil)))))
theorem okg_need_tallies (Z : ZZ P K mg base T) : FnB P w K mg base T d_need_tallies 4 ["thing"] (dBody N_need_tallies.length t_need_tallies) :=
  Z.toZk.fnB 8 rfl rfl rfl sc_need_tallies fun cdv A outer s H E B hcd hT hr => by
    subst hT
    exact (dss_cons (ds_if (dt_not (dt_val (de_call (ok_is_list Z) (hr.mono (by decide)) (by rfl) (da_cons (de_var 0 (pv 0)) da_nil)))) (dss_one (ds_raise0 Z.ef_BadTally rfl (by rfl) (Z.g 8 rfl))) dss_nil)
    (dss_one (ds_for (passes_of rfl) rfl (di_seq (de_var 0 (pv 0))) (dg_name (i := 1) sc_need_tallies.nd rfl (by first | exact Or.inl rfl | exact Or.inr rfl)) (dss_one (ds_expr (de_call (ok_need_tally Z) (hr.mono (by decide)) (by rfl) (da_cons (de_var 1 (pv 1)) da_nil)))))))
theorem ok_need_tallies (Z : ZZ P K mg base T) : FnD P w K mg base T "need_tallies" 4 ["thing"] (dBody N_need_tallies.length t_need_tallies) := (okg_need_tallies Z).fnD (Z.g 10 rfl) (fun _ _ _ _ _ _ us hl => match us, hl with | [_], _ => rfl)
def t_cut_noughts : TDS := (dSeq (dSet 1 (dCB lenD (dCons (dVar 0) dNil)))
    (dSeq (dWhile (dAnd (dTest (d2 gtD (dVar 1) (dC (.int 0)))) (dTest (d2 eqD (d2 ixD (dVar 0) (d2 subD (dVar 1) (dC (.int 1)))) (dC (.int 0))))) (dSet 1 (d2 subD (dVar 1) (dC (.int 1)))))
    (dRet (dCB tupD (dCons (dFrz (fSlice (dVar 0) dNoPart (dPart (dVar 1)))) dNil)))))
theorem okg_cut_noughts (Z : ZZ P K mg base T) : FnB P w K mg base T d_cut_noughts 1 ["some"] (dBody N_cut_noughts.length t_cut_noughts) :=
  Z.toZk.fnB 9 rfl rfl rfl sc_cut_noughts fun cdv A outer s H E B hcd hT hr => by
    subst hT
    exact (dss_cons (ds_set sc_cut_noughts.nd (i := 1) rfl (by first | exact Or.inl rfl | exact Or.inr rfl) (de_callB call_lenA lc_len (by rfl) (Z.f 5 rfl) bt_len (da_cons (de_var 0 (pv 0)) da_nil)))
    (dss_cons (ds_while (passes_of rfl) (DWh.dt (dw_and (dt_cmp op_gt l_gt (de_var 1 (pv 1)) de_int (by rfl)) (dw_and1 (dt_cmp (op_eqD hr.u64) l_eq (de_ix (ix_all hr.u1) l_ix (de_var 0 (pv 0)) (de_sub (de_var 1 (pv 1)) de_int) (by intro _ _; rfl)) de_int (by rfl))))) (dss_one (ds_set sc_cut_noughts.nd (i := 1) rfl (by first | exact Or.inl rfl | exact Or.inr rfl) (de_sub (de_var 1 (pv 1)) de_int))))
    (dss_one (ds_ret (de_callTy call_tuple_of lc_tup (by rfl) (Z.f 4 rfl) bt_tuple (da_cons (de_frz (df_slice (de_var 0 (pv 0)) do_none (do_some (de_var 1 (pv 1))))) da_nil))))))
theorem ok_cut_noughts (Z : ZZ P K mg base T) : FnD P w K mg base T "cut_noughts" 1 ["some"] (dBody N_cut_noughts.length t_cut_noughts) := (okg_cut_noughts Z).fnD (Z.g 11 rfl) (fun _ _ _ _ _ _ us hl => match us, hl with | [_], _ => rfl)
def t_value_at : TDS := (dSeq (dSet 2 (dC (.int 0)))
    (dSeq (dFor (dSeqI (dFrz (fRev (dVar 0)))) (gN 3) (dSet 2 (dFrz (f2 addF (dFrz (f2 mulG (dVar 2) (dVar 1))) (dVar 3)))))
    (dRet (dVar 2))))
theorem okg_value_at (Z : ZZ P K mg base T) : FnB P w K mg base T d_value_at 1 ["tally", "number"] (dBody N_value_at.length t_value_at) :=
  Z.toZk.fnB 10 rfl rfl rfl sc_value_at fun cdv A outer s H E B hcd hT hr => by
    subst hT
    exact (dss_cons (ds_set sc_value_at.nd (i := 2) rfl (by first | exact Or.inl rfl | exact Or.inr rfl) de_int)
    (dss_cons (ds_for (passes_of rfl) rfl (di_seq (de_frz (df_rev (de_var 0 (pv 0))))) (dg_name (i := 3) sc_value_at.nd rfl (by first | exact Or.inl rfl | exact Or.inr rfl)) (dss_one (ds_set sc_value_at.nd (i := 2) rfl (by first | exact Or.inl rfl | exact Or.inr rfl) (de_frz (df_add (de_frz (df_mulG (de_var 2 (pv 2)) (de_var 1 (pv 1)))) (de_var 3 (pv 3)))))))
    (dss_one (ds_ret (de_var 2 (pv 2))))))
theorem ok_value_at (Z : ZZ P K mg base T) : FnD P w K mg base T "value_at" 1 ["tally", "number"] (dBody N_value_at.length t_value_at) := (okg_value_at Z).fnD (Z.g 12 rfl) (fun _ _ _ _ _ _ us hl => match us, hl with | [_, _], _ => rfl)
def t_tally_at : TDS := (dSeq (dExpr (dCall (dBody N_need_tally.length t_need_tally) 1 (dCons (dVar 0) dNil)))
    (dSeq (dIfS (dNot (dTest (dCall (dBody N_is_between.length t_is_between) 3 (dCons (dVar 1) (dCons (d2 subD (dC (.int 0)) (dC (.int 1000000))) (dCons (dC (.int 1000000)) dNil)))))) (dRaise "BadNumber" "part" (dC (.str "number"))) dNext)
    (dRet (dCall (dBody N_value_at.length t_value_at) 2 (dCons (dVar 0) (dCons (dVar 1) dNil))))))
theorem okg_tally_at (Z : ZZ P K mg base T) : FnB P w K mg base T d_tally_at 4 ["tally", "number"] (dBody N_tally_at.length t_tally_at) :=
  Z.toZk.fnB 11 rfl rfl rfl sc_tally_at fun cdv A outer s H E B hcd hT hr => by
    subst hT
    exact (dss_cons (ds_expr (de_call (ok_need_tally Z) (hr.mono (by decide)) (by rfl) (da_cons (de_var 0 (pv 0)) da_nil)))
    (dss_cons (ds_if (dt_not (dt_val (de_call (ok_is_between Z) (hr.mono (by decide)) (by rfl) (da_cons (de_var 1 (pv 1)) (da_cons (de_sub de_int (de_gint (by rfl) (Z.n 1 rfl))) (da_cons (de_gint (by rfl) (Z.n 1 rfl)) da_nil)))))) (dss_one (ds_raiseE (b := b_BadNumber) (x := "BadNumber") Z.su_BadNumber.su (by rfl) (hr.mono (by decide)) (Z.f 7 rfl) (by rfl) (Z.g 13 rfl) de_str)) dss_nil)
    (dss_one (ds_ret (de_call (ok_value_at Z) (hr.mono (by decide)) (by rfl) (da_cons (de_var 0 (pv 0)) (da_cons (de_var 1 (pv 1)) da_nil)))))))
theorem ok_tally_at (Z : ZZ P K mg base T) : FnD P w K mg base T "tally_at" 4 ["tally", "number"] (dBody N_tally_at.length t_tally_at) := (okg_tally_at Z).fnD (Z.g 14 rfl) (fun _ _ _ _ _ _ us hl => match us, hl with | [_, _], _ => rfl)
def t_tally_plus : TDS := (dSeq (dSetX 3 (f2 addF (dFrz (fCB listF (dCons (dVar 0) dNil))) (dFrz (f2 mulG (dLst (dCons (dC (.int 0)) dNil)) (dCB maxD (dCons (dC (.int 0)) (dCons (d2 subD (dCB lenD (dCons (dVar 1) dNil)) (dCB lenD (dCons (dVar 0) dNil))) dNil)))))))
    (dSeq (dFor (dEnumB (dVar 1)) (gT 2 (gsCons (gN 4) (gsCons (gN 5) gsNil))) (dSetI 3 (dFrz (f2 addF (dIxO 3 4) (dFrz (f2 mulG (dVar 2) (dVar 5))))) (dVar 4)))
    (dRet (dCall (dBody N_cut_noughts.length t_cut_noughts) 1 (dCons (dVar 3) dNil)))))
theorem okg_tally_plus (Z : ZZ P K mg base T) : FnB P w K mg base T d_tally_plus 2 ["one", "other", "many"] (dBody N_tally_plus.length t_tally_plus) :=
  Z.toZk.fnB 12 rfl rfl rfl sc_tally_plus fun cdv A outer s H E B hcd hT hr => by
    subst hT
    exact (dss_cons (ds_setX sc_tally_plus.nd (i := 3) rfl (by first | exact Or.inl rfl | exact Or.inr rfl) (df_add (de_frz (df_callTy call_list_of lf_list (by rfl) (Z.f 3 rfl) bt_list (da_cons (de_var 0 (pv 0)) da_nil))) (de_frz (df_mulG (de_lst (da_cons de_int da_nil)) (de_callB (call_maxA (by rfl)) lc_max (by rfl) (Z.f 8 rfl) bt_max (da_cons de_int (da_cons (de_sub (de_callB call_lenA lc_len (by rfl) (Z.f 5 rfl) bt_len (da_cons (de_var 1 (pv 1)) da_nil)) (de_callB call_lenA lc_len (by rfl) (Z.f 5 rfl) bt_len (da_cons (de_var 0 (pv 0)) da_nil))) da_nil)))))))
    (dss_cons (ds_for (passes_of rfl) rfl (di_enumB (by rfl) (Z.f 9 rfl) (de_var 1 (pv 1))) (dg_tup rfl (dgs_cons (dg_name (i := 4) sc_tally_plus.nd rfl (by first | exact Or.inl rfl | exact Or.inr rfl)) (dgs_cons (dg_name (i := 5) sc_tally_plus.nd rfl (by first | exact Or.inl rfl | exact Or.inr rfl)) dgs_nil))) (dss_one (ds_setI hr.u1 (j := 3) (show 3 < N_tally_plus.length by decide) (pv 3) (de_frz (df_add (de_ixO hr.u1 (pv 3) (pv 4)) (de_frz (df_mulG (de_var 2 (pv 2)) (de_var 5 (pv 5)))))) (de_var 4 (pv 4)))))
    (dss_one (ds_ret (de_call (ok_cut_noughts Z) (hr.mono (by decide)) (by rfl) (da_cons (de_var 3 (pv 3)) da_nil))))))
theorem ok_tally_plus (Z : ZZ P K mg base T) : FnD P w K mg base T "tally_plus" 2 ["one", "other", "many"] (dBody N_tally_plus.length t_tally_plus) := (okg_tally_plus Z).fnD (Z.g 15 rfl) (fun _ _ _ _ _ _ us hl => match us, hl with | [_, _, _], _ => rfl)
def t_tally_times : TDS := (dSeq (dSetX 2 (f2 mulG (dLst (dCons (dC (.int 0)) dNil)) (dFrz (f2 addF (dCB lenD (dCons (dVar 0) dNil)) (dCB lenD (dCons (dVar 1) dNil))))))
    (dSeq (dFor (dEnumB (dVar 0)) (gT 2 (gsCons (gN 3) (gsCons (gN 4) gsNil))) (dIfS (dTest (d2 neD (dVar 4) (dC (.int 0)))) (dFor (dEnumB (dVar 1)) (gT 2 (gsCons (gN 5) (gsCons (gN 6) gsNil))) (dSetI 2 (dFrz (f2 addF (dBor (d2 ixD (dVar 2) (dFrz (f2 addF (dVar 3) (dVar 5))))) (dFrz (f2 mulG (dVar 4) (dVar 6))))) (dFrz (f2 addF (dVar 3) (dVar 5))))) dNext))
    (dRet (dCall (dBody N_cut_noughts.length t_cut_noughts) 1 (dCons (dVar 2) dNil)))))
theorem okg_tally_times (Z : ZZ P K mg base T) : FnB P w K mg base T d_tally_times 2 ["one", "other"] (dBody N_tally_times.length t_tally_times) :=
  Z.toZk.fnB 13 rfl rfl rfl sc_tally_times fun cdv A outer s H E B hcd hT hr => by
    subst hT
    exact (dss_cons (ds_setX sc_tally_times.nd (i := 2) rfl (by first | exact Or.inl rfl | exact Or.inr rfl) (df_mulG (de_lst (da_cons de_int da_nil)) (de_frz (df_add (de_callB call_lenA lc_len (by rfl) (Z.f 5 rfl) bt_len (da_cons (de_var 0 (pv 0)) da_nil)) (de_callB call_lenA lc_len (by rfl) (Z.f 5 rfl) bt_len (da_cons (de_var 1 (pv 1)) da_nil))))))
    (dss_cons (ds_for (passes_of rfl) rfl (di_enumB (by rfl) (Z.f 9 rfl) (de_var 0 (pv 0))) (dg_tup rfl (dgs_cons (dg_name (i := 3) sc_tally_times.nd rfl (by first | exact Or.inl rfl | exact Or.inr rfl)) (dgs_cons (dg_name (i := 4) sc_tally_times.nd rfl (by first | exact Or.inl rfl | exact Or.inr rfl)) dgs_nil))) (dss_one (ds_if (dt_cmp (op_neD hr.u64) l_ne (de_var 4 (pv 4)) de_int (by rfl)) (dss_one (ds_for (passes_of rfl) rfl (di_enumB (by rfl) (Z.f 9 rfl) (de_var 1 (pv 1))) (dg_tup rfl (dgs_cons (dg_name (i := 5) sc_tally_times.nd rfl (by first | exact Or.inl rfl | exact Or.inr rfl)) (dgs_cons (dg_name (i := 6) sc_tally_times.nd rfl (by first | exact Or.inl rfl | exact Or.inr rfl)) dgs_nil))) (dss_one (ds_setI hr.u1 (j := 2) (show 2 < N_tally_times.length by decide) (pv 2) (de_frz (df_add (de_bor (de_ix (ix_all hr.u1) l_ix (de_var 2 (pv 2)) (de_frz (df_add (de_var 3 (pv 3)) (de_var 5 (pv 5)))) (by intro _ _; rfl))) (de_frz (df_mulG (de_var 4 (pv 4)) (de_var 6 (pv 6)))))) (de_frz (df_add (de_var 3 (pv 3)) (de_var 5 (pv 5)))))))) dss_nil)))
    (dss_one (ds_ret (de_call (ok_cut_noughts Z) (hr.mono (by decide)) (by rfl) (da_cons (de_var 2 (pv 2)) da_nil))))))
theorem ok_tally_times (Z : ZZ P K mg base T) : FnD P w K mg base T "tally_times" 2 ["one", "other"] (dBody N_tally_times.length t_tally_times) := (okg_tally_times Z).fnD (Z.g 16 rfl) (fun _ _ _ _ _ _ us hl => match us, hl with | [_, _], _ => rfl)
def t_raised_tally : TDS := (dRet (dIf (dTest (d2 gtD (dCB lenD (dCons (dVar 0) dNil)) (dC (.int 0)))) (dFrz (f2 addF (dFrz (f2 mulG (dTup (dCons (dC (.int 0)) dNil)) (dVar 1))) (dVar 0))) (dTup dNil)))
theorem okg_raised_tally (Z : ZZ P K mg base T) : FnB P w K mg base T d_raised_tally 1 ["tally", "power"] (dBody N_raised_tally.length t_raised_tally) :=
  Z.toZk.fnB 14 rfl rfl rfl sc_raised_tally fun cdv A outer s H E B hcd hT hr => by
    subst hT
    exact (dss_one (ds_ret (de_ifExp (dt_cmp op_gt l_gt (de_callB call_lenA lc_len (by rfl) (Z.f 5 rfl) bt_len (da_cons (de_var 0 (pv 0)) da_nil)) de_int (by rfl)) (de_frz (df_add (de_frz (df_mulG (de_tup (da_cons de_int da_nil)) (de_var 1 (pv 1)))) (de_var 0 (pv 0)))) (de_tup da_nil))))
theorem ok_raised_tally (Z : ZZ P K mg base T) : FnD P w K mg base T "raised_tally" 1 ["tally", "power"] (dBody N_raised_tally.length t_raised_tally) := (okg_raised_tally Z).fnD (Z.g 17 rfl) (fun _ _ _ _ _ _ us hl => match us, hl with | [_, _], _ => rfl)
def t_tally_sum : TDS := (dSeq (dExpr (dCall (dBody N_need_tallies.length t_need_tallies) 1 (dCons (dVar 0) dNil)))
    (dSeq (dSet 1 (dTup dNil))
    (dSeq (dFor (dSeqI (dVar 0)) (gN 2) (dSet 1 (dCall (dBody N_tally_plus.length t_tally_plus) 3 (dCons (dVar 1) (dCons (dVar 2) (dCons (dC (.int 1)) dNil))))))
    (dRet (dVar 1)))))
theorem okg_tally_sum (Z : ZZ P K mg base T) : FnB P w K mg base T d_tally_sum 5 ["tallies"] (dBody N_tally_sum.length t_tally_sum) :=
  Z.toZk.fnB 15 rfl rfl rfl sc_tally_sum fun cdv A outer s H E B hcd hT hr => by
    subst hT
    exact (dss_cons (ds_expr (de_call (ok_need_tallies Z) (hr.mono (by decide)) (by rfl) (da_cons (de_var 0 (pv 0)) da_nil)))
    (dss_cons (ds_set sc_tally_sum.nd (i := 1) rfl (by first | exact Or.inl rfl | exact Or.inr rfl) (de_tup da_nil))
    (dss_cons (ds_for (passes_of rfl) rfl (di_seq (de_var 0 (pv 0))) (dg_name (i := 2) sc_tally_sum.nd rfl (by first | exact Or.inl rfl | exact Or.inr rfl)) (dss_one (ds_set sc_tally_sum.nd (i := 1) rfl (by first | exact Or.inl rfl | exact Or.inr rfl) (de_call (ok_tally_plus Z) (hr.mono (by decide)) (by rfl) (da_cons (de_var 1 (pv 1)) (da_cons (de_var 2 (pv 2)) (da_cons de_int da_nil)))))))
    (dss_one (ds_ret (de_var 1 (pv 1)))))))
theorem ok_tally_sum (Z : ZZ P K mg base T) : FnD P w K mg base T "tally_sum" 5 ["tallies"] (dBody N_tally_sum.length t_tally_sum) := (okg_tally_sum Z).fnD (Z.g 18 rfl) (fun _ _ _ _ _ _ us hl => match us, hl with | [_], _ => rfl)
def t_tally_product : TDS := (dSeq (dExpr (dCall (dBody N_need_tallies.length t_need_tallies) 1 (dCons (dVar 0) dNil)))
    (dSeq (dIfS (dTest (dCB (onL anyL) (dCons (dFrz (dComp (dSeqI (dVar 0)) (gN 1) dYes (d2 eqD (dCB lenD (dCons (dVar 1) dNil)) (dC (.int 0))) [1])) dNil))) (dRet (dTup dNil)) dNext)
    (dSeq (dIfS (dTest (d2 gtD (dFrz (f2 addF (dCB (onL sumL) (dCons (dFrz (dComp (dSeqI (dVar 0)) (gN 1) dYes (d2 subD (dCB lenD (dCons (dVar 1) dNil)) (dC (.int 1))) [1])) dNil)) (dC (.int 1)))) (dC (.int 2000)))) (dRaise0 "BadTally") dNext)
    (dSeq (dSet 2 (dTup (dCons (dC (.int 1)) dNil)))
    (dSeq (dFor (dSeqI (dVar 0)) (gN 1) (dSet 2 (dCall (dBody N_tally_times.length t_tally_times) 2 (dCons (dVar 2) (dCons (dVar 1) dNil)))))
    (dRet (dVar 2)))))))
theorem okg_tally_product (Z : ZZ P K mg base T) : FnB P w K mg base T d_tally_product 5 ["tallies"] (dBody N_tally_product.length t_tally_product) :=
  Z.toZk.fnB 16 rfl rfl rfl sc_tally_product fun cdv A outer s H E B hcd hT hr => by
    subst hT
    exact (dss_cons (ds_expr (de_call (ok_need_tallies Z) (hr.mono (by decide)) (by rfl) (da_cons (de_var 0 (pv 0)) da_nil)))
    (dss_cons (ds_if (dt_val (de_callB (cr_any (by rfl)) lc_any (by rfl) (Z.f 10 rfl) bt_any (da_cons (de_frz (df_comp (own := [("one", 1)]) rfl sc_tally_product.nd (di_seq (de_var 0 (pv 0))) (blkOk_by (by rfl)) (fun _ _ _ _ _ => (dg_name (i := 1) sc_tally_product.nd rfl (by first | exact Or.inl rfl | exact Or.inr rfl))) (fun _ _ _ _ _ => dts_nil) (fun _ _ _ _ _ => (de_cmp (op_eqD hr.u64) l_eq (de_callB call_lenA lc_len (by rfl) (Z.f 5 rfl) bt_len (da_cons (de_var 1 (pv 1)) da_nil)) de_int (by rfl))))) da_nil))) (dss_one (ds_ret (de_tup da_nil))) dss_nil)
    (dss_cons (ds_if (dt_cmp op_gt l_gt (de_frz (df_add (de_callB (cr_sum (by rfl)) lc_sum (by rfl) (Z.f 11 rfl) bt_sum (da_cons (de_frz (df_comp (own := [("one", 1)]) rfl sc_tally_product.nd (di_seq (de_var 0 (pv 0))) (blkOk_by (by rfl)) (fun _ _ _ _ _ => (dg_name (i := 1) sc_tally_product.nd rfl (by first | exact Or.inl rfl | exact Or.inr rfl))) (fun _ _ _ _ _ => dts_nil) (fun _ _ _ _ _ => (de_sub (de_callB call_lenA lc_len (by rfl) (Z.f 5 rfl) bt_len (da_cons (de_var 1 (pv 1)) da_nil)) de_int)))) da_nil)) de_int)) (de_gint (by rfl) (Z.n 0 rfl)) (by rfl)) (dss_one (ds_raise0 Z.ef_BadTally rfl (by rfl) (Z.g 8 rfl))) dss_nil)
    (dss_cons (ds_set sc_tally_product.nd (i := 2) rfl (by first | exact Or.inl rfl | exact Or.inr rfl) (de_tup (da_cons de_int da_nil)))
    (dss_cons (ds_for (passes_of rfl) rfl (di_seq (de_var 0 (pv 0))) (dg_name (i := 1) sc_tally_product.nd rfl (by first | exact Or.inl rfl | exact Or.inr rfl)) (dss_one (ds_set sc_tally_product.nd (i := 2) rfl (by first | exact Or.inl rfl | exact Or.inr rfl) (de_call (ok_tally_times Z) (hr.mono (by decide)) (by rfl) (da_cons (de_var 2 (pv 2)) (da_cons (de_var 1 (pv 1)) da_nil))))))
    (dss_one (ds_ret (de_var 2 (pv 2)))))))))
theorem ok_tally_product (Z : ZZ P K mg base T) : FnD P w K mg base T "tally_product" 5 ["tallies"] (dBody N_tally_product.length t_tally_product) := (okg_tally_product Z).fnD (Z.g 19 rfl) (fun _ _ _ _ _ _ us hl => match us, hl with | [_], _ => rfl)
def t_tally_less : TDS := (dSeq (dExpr (dCall (dBody N_need_tally.length t_need_tally) 1 (dCons (dVar 0) dNil)))
    (dSeq (dExpr (dCall (dBody N_need_tally.length t_need_tally) 1 (dCons (dVar 1) dNil)))
    (dRet (dCall (dBody N_tally_plus.length t_tally_plus) 3 (dCons (dVar 0) (dCons (dVar 1) (dCons (d1 negD (dC (.int 1))) dNil)))))))
theorem okg_tally_less (Z : ZZ P K mg base T) : FnB P w K mg base T d_tally_less 4 ["one", "other"] (dBody N_tally_less.length t_tally_less) :=
  Z.toZk.fnB 17 rfl rfl rfl sc_tally_less fun cdv A outer s H E B hcd hT hr => by
    subst hT
    exact (dss_cons (ds_expr (de_call (ok_need_tally Z) (hr.mono (by decide)) (by rfl) (da_cons (de_var 0 (pv 0)) da_nil)))
    (dss_cons (ds_expr (de_call (ok_need_tally Z) (hr.mono (by decide)) (by rfl) (da_cons (de_var 1 (pv 1)) da_nil)))
    (dss_one (ds_ret (de_call (ok_tally_plus Z) (hr.mono (by decide)) (by rfl) (da_cons (de_var 0 (pv 0)) (da_cons (de_var 1 (pv 1)) (da_cons (de_neg de_int) da_nil))))))))
theorem ok_tally_less (Z : ZZ P K mg base T) : FnD P w K mg base T "tally_less" 4 ["one", "other"] (dBody N_tally_less.length t_tally_less) := (okg_tally_less Z).fnD (Z.g 20 rfl) (fun _ _ _ _ _ _ us hl => match us, hl with | [_, _], _ => rfl)
def t_quotient_of : TDS := (dSeq (dPar 2 3 (fCB listF (dCons (dVar 0) dNil)) (f2 mulG (dLst (dCons (dC (.int 0)) dNil)) (dCB maxD (dCons (dC (.int 0)) (dCons (dFrz (f2 addF (d2 subD (dCB lenD (dCons (dVar 0) dNil)) (dCB lenD (dCons (dVar 1) dNil))) (dC (.int 1)))) dNil)))))
    (dSeq (dFor (dRange3 (dCons (d2 subD (dCB lenD (dCons (dVar 0) dNil)) (dCB lenD (dCons (dVar 1) dNil))) (dCons (d1 negD (dC (.int 1))) (dCons (d1 negD (dC (.int 1))) dNil)))) (gN 4) (dSeq (dSet 5 (dBor (d2 ixD (dVar 2) (d2 subD (dFrz (f2 addF (dVar 4) (dCB lenD (dCons (dVar 1) dNil)))) (dC (.int 1))))))
    (dSeq (dIfS (dTest (d2 neD (d2 modG (dVar 5) (d2 ixD (dVar 1) (d1 negD (dC (.int 1))))) (dC (.int 0)))) (dRet (dC .non)) dNext)
    (dSeq (dSetI 3 (d2 fdivG (dVar 5) (d2 ixD (dVar 1) (d1 negD (dC (.int 1))))) (dVar 4))
    (dFor (dEnumB (dVar 1)) (gT 2 (gsCons (gN 6) (gsCons (gN 7) gsNil))) (dSetI 2 (d2 subD (dBor (d2 ixD (dVar 2) (dFrz (f2 addF (dVar 4) (dVar 6))))) (dFrz (f2 mulG (dIxO 3 4) (dVar 7)))) (dFrz (f2 addF (dVar 4) (dVar 6)))))))))
    (dRet (dIf (dBorT (dTest (dCB (onL anyL) (dCons (dFrz (dComp (dSeqI (dVar 2)) (gN 7) dYes (d2 neD (dVar 7) (dC (.int 0))) [7])) dNil)))) (dC .non) (dCall (dBody N_cut_noughts.length t_cut_noughts) 1 (dCons (dVar 3) dNil))))))
theorem okg_quotient_of (Z : ZZ P K mg base T) : FnB P w K mg base T d_quotient_of 2 ["one", "other"] (dBody N_quotient_of.length t_quotient_of) :=
  Z.toZk.fnB 18 rfl rfl rfl sc_quotient_of fun cdv A outer s H E B hcd hT hr => by
    subst hT
    exact (dss_cons (ds_par (i := 2) (j := 3) rfl sc_quotient_of.nd rfl rfl (by decide) rfl rfl (df_callTy call_list_of lf_list (by rfl) (Z.f 3 rfl) bt_list (da_cons (de_var 0 (pv 0)) da_nil)) (df_mulG (de_lst (da_cons de_int da_nil)) (de_callB (call_maxA (by rfl)) lc_max (by rfl) (Z.f 8 rfl) bt_max (da_cons de_int (da_cons (de_frz (df_add (de_sub (de_callB call_lenA lc_len (by rfl) (Z.f 5 rfl) bt_len (da_cons (de_var 0 (pv 0)) da_nil)) (de_callB call_lenA lc_len (by rfl) (Z.f 5 rfl) bt_len (da_cons (de_var 1 (pv 1)) da_nil))) de_int)) da_nil)))) (by rfl))
    (dss_cons (ds_for (passes_of rfl) rfl (di_range3 (by rfl) (Z.f 12 rfl) (da_cons (de_sub (de_callB call_lenA lc_len (by rfl) (Z.f 5 rfl) bt_len (da_cons (de_var 0 (pv 0)) da_nil)) (de_callB call_lenA lc_len (by rfl) (Z.f 5 rfl) bt_len (da_cons (de_var 1 (pv 1)) da_nil))) (da_cons (de_neg de_int) (da_cons (de_neg de_int) da_nil)))) (dg_name (i := 4) sc_quotient_of.nd rfl (by first | exact Or.inl rfl | exact Or.inr rfl)) (dss_cons (ds_set sc_quotient_of.nd (i := 5) rfl (by first | exact Or.inl rfl | exact Or.inr rfl) (de_bor (de_ix (ix_all hr.u1) l_ix (de_var 2 (pv 2)) (de_sub (de_frz (df_add (de_var 4 (pv 4)) (de_callB call_lenA lc_len (by rfl) (Z.f 5 rfl) bt_len (da_cons (de_var 1 (pv 1)) da_nil)))) de_int) (by intro _ _; rfl))))
    (dss_cons (ds_if (dt_cmp (op_neD hr.u64) l_ne (de_modG (de_var 5 (pv 5)) (de_ix (ix_all hr.u1) l_ix (de_var 1 (pv 1)) (de_neg de_int) (by intro _ _; rfl))) de_int (by rfl)) (dss_one (ds_ret de_non)) dss_nil)
    (dss_cons (ds_setI hr.u1 (j := 3) (show 3 < N_quotient_of.length by decide) (pv 3) (de_fdivG (de_var 5 (pv 5)) (de_ix (ix_all hr.u1) l_ix (de_var 1 (pv 1)) (de_neg de_int) (by intro _ _; rfl))) (de_var 4 (pv 4)))
    (dss_one (ds_for (passes_of rfl) rfl (di_enumB (by rfl) (Z.f 9 rfl) (de_var 1 (pv 1))) (dg_tup rfl (dgs_cons (dg_name (i := 6) sc_quotient_of.nd rfl (by first | exact Or.inl rfl | exact Or.inr rfl)) (dgs_cons (dg_name (i := 7) sc_quotient_of.nd rfl (by first | exact Or.inl rfl | exact Or.inr rfl)) dgs_nil))) (dss_one (ds_setI hr.u1 (j := 2) (show 2 < N_quotient_of.length by decide) (pv 2) (de_sub (de_bor (de_ix (ix_all hr.u1) l_ix (de_var 2 (pv 2)) (de_frz (df_add (de_var 4 (pv 4)) (de_var 6 (pv 6)))) (by intro _ _; rfl))) (de_frz (df_mulG (de_ixO hr.u1 (pv 3) (pv 4)) (de_var 7 (pv 7))))) (de_frz (df_add (de_var 4 (pv 4)) (de_var 6 (pv 6))))))))))))
    (dss_one (ds_ret (de_ifExp (dt_bor (dt_val (de_callB (cr_any (by rfl)) lc_any (by rfl) (Z.f 10 rfl) bt_any (da_cons (de_frz (df_comp (own := [("item", 7)]) rfl sc_quotient_of.nd (di_seq (de_var 2 (pv 2))) (blkOk_by (by rfl)) (fun _ _ _ _ _ => (dg_name (i := 7) sc_quotient_of.nd rfl (by first | exact Or.inl rfl | exact Or.inr rfl))) (fun _ _ _ _ _ => dts_nil) (fun _ _ _ _ _ => (de_cmp (op_neD hr.u64) l_ne (de_var 7 (pv 7)) de_int (by rfl))))) da_nil)))) de_non (de_call (ok_cut_noughts Z) (hr.mono (by decide)) (by rfl) (da_cons (de_var 3 (pv 3)) da_nil)))))))
theorem ok_quotient_of (Z : ZZ P K mg base T) : FnD P w K mg base T "quotient_of" 2 ["one", "other"] (dBody N_quotient_of.length t_quotient_of) := (okg_quotient_of Z).fnD (Z.g 21 rfl) (fun _ _ _ _ _ _ us hl => match us, hl with | [_, _], _ => rfl)
def t_tally_through : TDS := (dSeq (dExpr (dCall (dBody N_need_tally.length t_need_tally) 1 (dCons (dVar 0) dNil)))
    (dSeq (dExpr (dCall (dBody N_need_tally.length t_need_tally) 1 (dCons (dVar 1) dNil)))
    (dSeq (dIfS (dTest (d2 eqD (dCB lenD (dCons (dVar 1) dNil)) (dC (.int 0)))) (dRaise0 "BadTally") dNext)
    (dRet (dCall (dBody N_quotient_of.length t_quotient_of) 2 (dCons (dVar 0) (dCons (dVar 1) dNil)))))))
theorem okg_tally_through (Z : ZZ P K mg base T) : FnB P w K mg base T d_tally_through 4 ["one", "other"] (dBody N_tally_through.length t_tally_through) :=
  Z.toZk.fnB 19 rfl rfl rfl sc_tally_through fun cdv A outer s H E B hcd hT hr => by
    subst hT
    exact (dss_cons (ds_expr (de_call (ok_need_tally Z) (hr.mono (by decide)) (by rfl) (da_cons (de_var 0 (pv 0)) da_nil)))
    (dss_cons (ds_expr (de_call (ok_need_tally Z) (hr.mono (by decide)) (by rfl) (da_cons (de_var 1 (pv 1)) da_nil)))
    (dss_cons (ds_if (dt_cmp (op_eqD hr.u64) l_eq (de_callB call_lenA lc_len (by rfl) (Z.f 5 rfl) bt_len (da_cons (de_var 1 (pv 1)) da_nil)) de_int (by rfl)) (dss_one (ds_raise0 Z.ef_BadTally rfl (by rfl) (Z.g 8 rfl))) dss_nil)
    (dss_one (ds_ret (de_call (ok_quotient_of Z) (hr.mono (by decide)) (by rfl) (da_cons (de_var 0 (pv 0)) (da_cons (de_var 1 (pv 1)) da_nil))))))))
theorem ok_tally_through (Z : ZZ P K mg base T) : FnD P w K mg base T "tally_through" 4 ["one", "other"] (dBody N_tally_through.length t_tally_through) := (okg_tally_through Z).fnD (Z.g 22 rfl) (fun _ _ _ _ _ _ us hl => match us, hl with | [_, _], _ => rfl)
def t_whole_of_size : TDS := (dSeq (dSet 1 (dTup (dCons (dC (.int 1)) dNil)))
    (dSeq (dFor (dRange1 (dCons (dVar 0) dNil)) (gN 2) (dSet 1 (dCall (dBody N_tally_times.length t_tally_times) 2 (dCons (dVar 1) (dCons (dFrz (f2 addF (dFrz (f2 addF (dFrz (f2 addF (dFrz (f2 mulG (dTup (dCons (dC (.int 0)) dNil)) (dVar 2))) (dTup (dCons (d1 negD (dC (.int 1))) dNil)))) (dFrz (f2 mulG (dTup (dCons (dC (.int 0)) dNil)) (d2 subD (d2 subD (dVar 0) (dVar 2)) (dC (.int 1))))))) (dTup (dCons (dC (.int 1)) dNil)))) dNil)))))
    (dRet (dVar 1))))
theorem okg_whole_of_size (Z : ZZ P K mg base T) : FnB P w K mg base T d_whole_of_size 3 ["size"] (dBody N_whole_of_size.length t_whole_of_size) :=
  Z.toZk.fnB 20 rfl rfl rfl sc_whole_of_size fun cdv A outer s H E B hcd hT hr => by
    subst hT
    exact (dss_cons (ds_set sc_whole_of_size.nd (i := 1) rfl (by first | exact Or.inl rfl | exact Or.inr rfl) (de_tup (da_cons de_int da_nil)))
    (dss_cons (ds_for (passes_of rfl) rfl (di_range1 (by rfl) (Z.f 12 rfl) (da_cons (de_var 0 (pv 0)) da_nil)) (dg_name (i := 2) sc_whole_of_size.nd rfl (by first | exact Or.inl rfl | exact Or.inr rfl)) (dss_one (ds_set sc_whole_of_size.nd (i := 1) rfl (by first | exact Or.inl rfl | exact Or.inr rfl) (de_call (ok_tally_times Z) (hr.mono (by decide)) (by rfl) (da_cons (de_var 1 (pv 1)) (da_cons (de_frz (df_add (de_frz (df_add (de_frz (df_add (de_frz (df_mulG (de_tup (da_cons de_int da_nil)) (de_var 2 (pv 2)))) (de_tup (da_cons (de_neg de_int) da_nil)))) (de_frz (df_mulG (de_tup (da_cons de_int da_nil)) (de_sub (de_sub (de_var 0 (pv 0)) (de_var 2 (pv 2))) de_int))))) (de_tup (da_cons de_int da_nil)))) da_nil))))))
    (dss_one (ds_ret (de_var 1 (pv 1))))))
theorem ok_whole_of_size (Z : ZZ P K mg base T) : FnD P w K mg base T "whole_of_size" 3 ["size"] (dBody N_whole_of_size.length t_whole_of_size) := (okg_whole_of_size Z).fnD (Z.g 23 rfl) (fun _ _ _ _ _ _ us hl => match us, hl with | [_], _ => rfl)
def t_whole_tally : TDS := (dSeq (dIfS (dNot (dTest (dCall (dBody N_is_between.length t_is_between) 3 (dCons (dVar 0) (dCons (dC (.int 0)) (dCons (dC (.int 12)) dNil)))))) (dRaise "BadNumber" "part" (dC (.str "size"))) dNext)
    (dRet (dCall (dBody N_whole_of_size.length t_whole_of_size) 1 (dCons (dVar 0) dNil))))
theorem okg_whole_tally (Z : ZZ P K mg base T) : FnB P w K mg base T d_whole_tally 4 ["size"] (dBody N_whole_tally.length t_whole_tally) :=
  Z.toZk.fnB 21 rfl rfl rfl sc_whole_tally fun cdv A outer s H E B hcd hT hr => by
    subst hT
    exact (dss_cons (ds_if (dt_not (dt_val (de_call (ok_is_between Z) (hr.mono (by decide)) (by rfl) (da_cons (de_var 0 (pv 0)) (da_cons de_int (da_cons (de_gint (by rfl) (Z.n 2 rfl)) da_nil)))))) (dss_one (ds_raiseE (b := b_BadNumber) (x := "BadNumber") Z.su_BadNumber.su (by rfl) (hr.mono (by decide)) (Z.f 7 rfl) (by rfl) (Z.g 13 rfl) de_str)) dss_nil)
    (dss_one (ds_ret (de_call (ok_whole_of_size Z) (hr.mono (by decide)) (by rfl) (da_cons (de_var 0 (pv 0)) da_nil)))))
theorem ok_whole_tally (Z : ZZ P K mg base T) : FnD P w K mg base T "whole_tally" 4 ["size"] (dBody N_whole_tally.length t_whole_tally) := (okg_whole_tally Z).fnD (Z.g 24 rfl) (fun _ _ _ _ _ _ us hl => match us, hl with | [_], _ => rfl)
def t_choices_of : TDS := (dSeq (dIfS (dTest (d2 gtD (dVar 1) (dVar 0))) (dRet (dTup dNil)) dNext)
    (dSeq (dSet 2 (dCall (dBody N_tally_times.length t_tally_times) 2 (dCons (dCall (dBody N_whole_of_size.length t_whole_of_size) 1 (dCons (dVar 1) dNil)) (dCons (dCall (dBody N_whole_of_size.length t_whole_of_size) 1 (dCons (d2 subD (dVar 0) (dVar 1)) dNil)) dNil))))
    (dRet (dCall (dBody N_quotient_of.length t_quotient_of) 2 (dCons (dCall (dBody N_whole_of_size.length t_whole_of_size) 1 (dCons (dVar 0) dNil)) (dCons (dCall (dBody N_raised_tally.length t_raised_tally) 2 (dCons (dVar 2) (dCons (dFrz (f2 mulG (dVar 1) (d2 subD (dVar 0) (dVar 1)))) dNil))) dNil))))))
theorem okg_choices_of (Z : ZZ P K mg base T) : FnB P w K mg base T d_choices_of 4 ["size", "part"] (dBody N_choices_of.length t_choices_of) :=
  Z.toZk.fnB 22 rfl rfl rfl sc_choices_of fun cdv A outer s H E B hcd hT hr => by
    subst hT
    exact (dss_cons (ds_if (dt_cmp op_gt l_gt (de_var 1 (pv 1)) (de_var 0 (pv 0)) (by rfl)) (dss_one (ds_ret (de_tup da_nil))) dss_nil)
    (dss_cons (ds_set sc_choices_of.nd (i := 2) rfl (by first | exact Or.inl rfl | exact Or.inr rfl) (de_call (ok_tally_times Z) (hr.mono (by decide)) (by rfl) (da_cons (de_call (ok_whole_of_size Z) (hr.mono (by decide)) (by rfl) (da_cons (de_var 1 (pv 1)) da_nil)) (da_cons (de_call (ok_whole_of_size Z) (hr.mono (by decide)) (by rfl) (da_cons (de_sub (de_var 0 (pv 0)) (de_var 1 (pv 1))) da_nil)) da_nil))))
    (dss_one (ds_ret (de_call (ok_quotient_of Z) (hr.mono (by decide)) (by rfl) (da_cons (de_call (ok_whole_of_size Z) (hr.mono (by decide)) (by rfl) (da_cons (de_var 0 (pv 0)) da_nil)) (da_cons (de_call (ok_raised_tally Z) (hr.mono (by decide)) (by rfl) (da_cons (de_var 2 (pv 2)) (da_cons (de_frz (df_mulG (de_var 1 (pv 1)) (de_sub (de_var 0 (pv 0)) (de_var 1 (pv 1))))) da_nil))) da_nil)))))))
theorem ok_choices_of (Z : ZZ P K mg base T) : FnD P w K mg base T "choices_of" 4 ["size", "part"] (dBody N_choices_of.length t_choices_of) := (okg_choices_of Z).fnD (Z.g 25 rfl) (fun _ _ _ _ _ _ us hl => match us, hl with | [_, _], _ => rfl)
def t_choices_tally : TDS := (dSeq (dIfS (dNot (dTest (dCall (dBody N_is_between.length t_is_between) 3 (dCons (dVar 0) (dCons (dC (.int 0)) (dCons (dC (.int 12)) dNil)))))) (dRaise "BadNumber" "part" (dC (.str "size"))) dNext)
    (dSeq (dIfS (dNot (dTest (dCall (dBody N_is_between.length t_is_between) 3 (dCons (dVar 1) (dCons (dC (.int 0)) (dCons (dC (.int 12)) dNil)))))) (dRaise "BadNumber" "part" (dC (.str "part"))) dNext)
    (dRet (dCall (dBody N_choices_of.length t_choices_of) 2 (dCons (dVar 0) (dCons (dVar 1) dNil))))))
theorem okg_choices_tally (Z : ZZ P K mg base T) : FnB P w K mg base T d_choices_tally 5 ["size", "part"] (dBody N_choices_tally.length t_choices_tally) :=
  Z.toZk.fnB 23 rfl rfl rfl sc_choices_tally fun cdv A outer s H E B hcd hT hr => by
    subst hT
    exact (dss_cons (ds_if (dt_not (dt_val (de_call (ok_is_between Z) (hr.mono (by decide)) (by rfl) (da_cons (de_var 0 (pv 0)) (da_cons de_int (da_cons (de_gint (by rfl) (Z.n 2 rfl)) da_nil)))))) (dss_one (ds_raiseE (b := b_BadNumber) (x := "BadNumber") Z.su_BadNumber.su (by rfl) (hr.mono (by decide)) (Z.f 7 rfl) (by rfl) (Z.g 13 rfl) de_str)) dss_nil)
    (dss_cons (ds_if (dt_not (dt_val (de_call (ok_is_between Z) (hr.mono (by decide)) (by rfl) (da_cons (de_var 1 (pv 1)) (da_cons de_int (da_cons (de_gint (by rfl) (Z.n 2 rfl)) da_nil)))))) (dss_one (ds_raiseE (b := b_BadNumber) (x := "BadNumber") Z.su_BadNumber.su (by rfl) (hr.mono (by decide)) (Z.f 7 rfl) (by rfl) (Z.g 13 rfl) de_str)) dss_nil)
    (dss_one (ds_ret (de_call (ok_choices_of Z) (hr.mono (by decide)) (by rfl) (da_cons (de_var 0 (pv 0)) (da_cons (de_var 1 (pv 1)) da_nil)))))))
theorem ok_choices_tally (Z : ZZ P K mg base T) : FnD P w K mg base T "choices_tally" 5 ["size", "part"] (dBody N_choices_tally.length t_choices_tally) := (okg_choices_tally Z).fnD (Z.g 26 rfl) (fun _ _ _ _ _ _ us hl => match us, hl with | [_, _], _ => rfl)
def t_count_whole : TDS := (dSeq (dExpr (dCall (dBody N_need_prime.length t_need_prime) 1 (dCons (dVar 0) dNil)))
    (dSeq (dIfS (dNot (dTest (dCall (dBody N_is_between.length t_is_between) 3 (dCons (dVar 1) (dCons (dC (.int 0)) (dCons (dC (.int 60)) dNil)))))) (dRaise "BadNumber" "part" (dC (.str "size"))) dNext)
    (dSeq (dAsg (dTup (dCons (dC (.int 1)) (dCons (dC (.int 1)) (dCons (dC (.int 1)) dNil)))) (gT 3 (gsCons (gN 2) (gsCons (gN 3) (gsCons (gN 4) gsNil)))))
    (dSeq (dFor (dRange1 (dCons (dVar 1) dNil)) (gN 5) (dSet 2 (dFrz (f2 mulG (dVar 2) (dVar 0)))))
    (dSeq (dFor (dRange1 (dCons (dVar 1) dNil)) (gN 5) (dPar 4 3 (f2 mulG (dVar 4) (d2 subD (dVar 2) (dVar 3))) (f2 mulG (dVar 3) (dVar 0))))
    (dRet (dVar 4)))))))
theorem okg_count_whole (Z : ZZ P K mg base T) : FnB P w K mg base T d_count_whole 4 ["prime", "size"] (dBody N_count_whole.length t_count_whole) :=
  Z.toZk.fnB 24 rfl rfl rfl sc_count_whole fun cdv A outer s H E B hcd hT hr => by
    subst hT
    exact (dss_cons (ds_expr (de_call (ok_need_prime Z) (hr.mono (by decide)) (by rfl) (da_cons (de_var 0 (pv 0)) da_nil)))
    (dss_cons (ds_if (dt_not (dt_val (de_call (ok_is_between Z) (hr.mono (by decide)) (by rfl) (da_cons (de_var 1 (pv 1)) (da_cons de_int (da_cons (de_gint (by rfl) (Z.n 3 rfl)) da_nil)))))) (dss_one (ds_raiseE (b := b_BadNumber) (x := "BadNumber") Z.su_BadNumber.su (by rfl) (hr.mono (by decide)) (Z.f 7 rfl) (by rfl) (Z.g 13 rfl) de_str)) dss_nil)
    (dss_cons (ds_asg (de_tup (da_cons de_int (da_cons de_int (da_cons de_int da_nil)))) (dg_tup rfl (dgs_cons (dg_name (i := 2) sc_count_whole.nd rfl (by first | exact Or.inl rfl | exact Or.inr rfl)) (dgs_cons (dg_name (i := 3) sc_count_whole.nd rfl (by first | exact Or.inl rfl | exact Or.inr rfl)) (dgs_cons (dg_name (i := 4) sc_count_whole.nd rfl (by first | exact Or.inl rfl | exact Or.inr rfl)) dgs_nil)))))
    (dss_cons (ds_for (passes_of rfl) rfl (di_range1 (by rfl) (Z.f 12 rfl) (da_cons (de_var 1 (pv 1)) da_nil)) (dg_name (i := 5) sc_count_whole.nd rfl (by first | exact Or.inl rfl | exact Or.inr rfl)) (dss_one (ds_set sc_count_whole.nd (i := 2) rfl (by first | exact Or.inl rfl | exact Or.inr rfl) (de_frz (df_mulG (de_var 2 (pv 2)) (de_var 0 (pv 0)))))))
    (dss_cons (ds_for (passes_of rfl) rfl (di_range1 (by rfl) (Z.f 12 rfl) (da_cons (de_var 1 (pv 1)) da_nil)) (dg_name (i := 5) sc_count_whole.nd rfl (by first | exact Or.inl rfl | exact Or.inr rfl)) (dss_one (ds_par (i := 4) (j := 3) rfl sc_count_whole.nd rfl rfl (by decide) rfl rfl (df_mulG (de_var 4 (pv 4)) (de_sub (de_var 2 (pv 2)) (de_var 3 (pv 3)))) (df_mulG (de_var 3 (pv 3)) (de_var 0 (pv 0))) (by rfl))))
    (dss_one (ds_ret (de_var 4 (pv 4)))))))))
theorem ok_count_whole (Z : ZZ P K mg base T) : FnD P w K mg base T "count_whole" 4 ["prime", "size"] (dBody N_count_whole.length t_count_whole) := (okg_count_whole Z).fnD (Z.g 27 rfl) (fun _ _ _ _ _ _ us hl => match us, hl with | [_, _], _ => rfl)
def t__law_mixed : TDS := (dSeq (dDrwP 0 (dFrz (f2 addF (dDrw 0) (dC (.int 1)))))
    (dSeq (dPar 1 2 (dSh (dCB intD (dCons (dDrw 0) dNil))) (dSh (dC (.int 0))))
    (dSeq (dFor (dSeqI (dLst (dCons (dC (.int 2147483629)) (dCons (dC (.int 2147483587)) (dCons (dC (.int 2147483579)) dNil))))) (gN 3) (dSeq (dSet 4 (d2 modD (dFrz (f2 addF (dFrz (f2 mulF (dVar 1) (dC (.int 69621)))) (d2 fdivD (dVar 3) (dC (.int 7))))) (dVar 3)))
    (dSeq (dFor (dDrwI 0) (gN 5) (dSet 4 (d2 modD (dFrz (f2 addF (dFrz (f2 mulF (dVar 4) (dC (.int 48271)))) (dCB intD (dCons (dVar 5) dNil)))) (dVar 3))))
    (dSet 2 (dFrz (f2 addF (dFrz (f2 mulF (dVar 2) (dC (.int 2147483647)))) (d2 modD (d2 powD (dVar 4) (dC (.int 5))) (dVar 3))))))))
    (dRet (dVar 2)))))
theorem okg__law_mixed (Z : ZZ P K mg base T) : FnB P w K mg base T d__law_mixed 1 ["_law_draw"] (dBody N__law_mixed.length t__law_mixed) :=
  Z.toZk.fnB 25 rfl rfl rfl sc__law_mixed fun cdv A outer s H E B hcd hT hr => by
    subst hT
    exact (dss_cons (ds_drwT (i := 0) hr.u1 (pv 0) (de_frz (df_add (de_drwT (i := 0) hr.u1 (pv 0)) de_int)))
    (dss_cons (ds_par (i := 1) (j := 2) rfl sc__law_mixed.nd rfl rfl (by decide) rfl rfl (df_sh (de_callTy call_int1 lc_int (by rfl) (Z.f 0 rfl) bt_int (da_cons (de_drwT (i := 0) hr.u1 (pv 0)) da_nil))) (df_sh de_int) (by rfl))
    (dss_cons (ds_for (passes_of rfl) rfl (di_seq (de_lst (da_cons de_int (da_cons de_int (da_cons de_int da_nil))))) (dg_name (i := 3) sc__law_mixed.nd rfl (by first | exact Or.inl rfl | exact Or.inr rfl)) (dss_cons (ds_set sc__law_mixed.nd (i := 4) rfl (by first | exact Or.inl rfl | exact Or.inr rfl) (de_mod (de_frz (df_add (de_frz (df_mul (de_var 1 (pv 1)) de_int)) (de_fdiv (de_var 3 (pv 3)) de_int))) (de_var 3 (pv 3))))
    (dss_cons (ds_for (passes_of rfl) rfl (di_drw (i := 0) hr.u1 (pv 0)) (dg_name (i := 5) sc__law_mixed.nd rfl (by first | exact Or.inl rfl | exact Or.inr rfl)) (dss_one (ds_set sc__law_mixed.nd (i := 4) rfl (by first | exact Or.inl rfl | exact Or.inr rfl) (de_mod (de_frz (df_add (de_frz (df_mul (de_var 4 (pv 4)) de_int)) (de_callTy call_int1 lc_int (by rfl) (Z.f 0 rfl) bt_int (da_cons (de_var 5 (pv 5)) da_nil)))) (de_var 3 (pv 3))))))
    (dss_one (ds_set sc__law_mixed.nd (i := 2) rfl (by first | exact Or.inl rfl | exact Or.inr rfl) (de_frz (df_add (de_frz (df_mul (de_var 2 (pv 2)) de_int)) (de_mod (de_pow (de_var 4 (pv 4)) de_int) (de_var 3 (pv 3))))))))))
    (dss_one (ds_ret (de_var 2 (pv 2)))))))
theorem ok__law_mixed (Z : ZZ P K mg base T) : FnD P w K mg base T "_law_mixed" 1 ["_law_draw"] (dBody N__law_mixed.length t__law_mixed) := (okg__law_mixed Z).fnD (Z.g 28 rfl) (fun _ _ _ _ _ _ us hl => match us, hl with | [_], _ => rfl)
def t__law_take : TDS := (dSeq (dIfS (dTest (d2 eqD (dDrw 0) (dC (.int 0)))) (dDrwP 0 (dDrwPop 0 (dCall (dBody N__law_mixed.length t__law_mixed) 1 (dCons (dVar 0) dNil)))) dNext)
    (dSeq (dSet 2 (d2 modD (dCB intD (dCons (dDrw 0) dNil)) (dVar 1)))
    (dSeq (dDrwP 0 (d2 fdivD (dCB intD (dCons (dDrw 0) dNil)) (dVar 1)))
    (dRet (dVar 2)))))
theorem okg__law_take (Z : ZZ P K mg base T) : FnB P w K mg base T d__law_take 2 ["_law_draw", "_law_amount"] (dBody N__law_take.length t__law_take) :=
  Z.toZk.fnB 26 rfl rfl rfl sc__law_take fun cdv A outer s H E B hcd hT hr => by
    subst hT
    exact (dss_cons (ds_if (dt_cmp (op_eqD hr.u64) l_eq (de_drwR (i := 0) hr.u1 (pv 0)) de_int (by rfl)) (dss_one (ds_drwR (i := 0) hr.u1 (pv 0) (de_drwPop (q6 := ⟨0, 0, 0, 0⟩) (i := 0) hr (pv 0) (pv 0) (de_call (ok__law_mixed Z) (hr.mono (by decide)) (by rfl) (da_cons (de_var 0 (pv 0)) da_nil))))) dss_nil)
    (dss_cons (ds_set sc__law_take.nd (i := 2) rfl (by first | exact Or.inl rfl | exact Or.inr rfl) (de_mod (de_callTy call_int1 lc_int (by rfl) (Z.f 0 rfl) bt_int (da_cons (de_drwR (i := 0) hr.u1 (pv 0)) da_nil)) (de_var 1 (pv 1))))
    (dss_cons (ds_drwR (i := 0) hr.u1 (pv 0) (de_fdiv (de_callTy call_int1 lc_int (by rfl) (Z.f 0 rfl) bt_int (da_cons (de_drwR (i := 0) hr.u1 (pv 0)) da_nil)) (de_var 1 (pv 1))))
    (dss_one (ds_ret (de_var 2 (pv 2)))))))
theorem ok__law_take (Z : ZZ P K mg base T) : FnD P w K mg base T "_law_take" 2 ["_law_draw", "_law_amount"] (dBody N__law_take.length t__law_take) := (okg__law_take Z).fnD (Z.g 29 rfl) (fun _ _ _ _ _ _ us hl => match us, hl with | [_, _], _ => rfl)
def t__law_pick : TDS := (dRet (d2 ixD (dVar 1) (dCall (dBody N__law_take.length t__law_take) 2 (dCons (dVar 0) (dCons (dCB lenD (dCons (dVar 1) dNil)) dNil)))))
theorem okg__law_pick (Z : ZZ P K mg base T) : FnB P w K mg base T d__law_pick 3 ["_law_draw", "_law_some"] (dBody N__law_pick.length t__law_pick) :=
  Z.toZk.fnB 27 rfl rfl rfl sc__law_pick fun cdv A outer s H E B hcd hT hr => by
    subst hT
    exact (dss_one (ds_ret (de_ix (ix_all hr.u1) l_ix (de_var 1 (pv 1)) (de_call (ok__law_take Z) (hr.mono (by decide)) (by rfl) (da_cons (de_var 0 (pv 0)) (da_cons (de_callB call_lenA lc_len (by rfl) (Z.f 5 rfl) bt_len (da_cons (de_var 1 (pv 1)) da_nil)) da_nil))) (by intro _ _; rfl))))
theorem ok__law_pick (Z : ZZ P K mg base T) : FnD P w K mg base T "_law_pick" 3 ["_law_draw", "_law_some"] (dBody N__law_pick.length t__law_pick) := (okg__law_pick Z).fnD (Z.g 30 rfl) (fun _ _ _ _ _ _ us hl => match us, hl with | [_, _], _ => rfl)
def t__law_field : TDS := (dRet (dCall (dBody N__law_pick.length t__law_pick) 2 (dCons (dVar 0) (dCons (dLst (dCons (dC (.int 2)) (dCons (dC (.int 2)) (dCons (dC (.int 2)) (dCons (dC (.int 3)) (dCons (dC (.int 3)) (dCons (dC (.int 5)) (dCons (dC (.int 7)) (dCons (dC (.int 97)) dNil))))))))) dNil))))
theorem okg__law_field (Z : ZZ P K mg base T) : FnB P w K mg base T d__law_field 4 ["_law_draw"] (dBody N__law_field.length t__law_field) :=
  Z.toZk.fnB 28 rfl rfl rfl sc__law_field fun cdv A outer s H E B hcd hT hr => by
    subst hT
    exact (dss_one (ds_ret (de_call (ok__law_pick Z) (hr.mono (by decide)) (by rfl) (da_cons (de_var 0 (pv 0)) (da_cons (de_lst (da_cons de_int (da_cons de_int (da_cons de_int (da_cons de_int (da_cons de_int (da_cons de_int (da_cons de_int (da_cons de_int da_nil))))))))) da_nil)))))
theorem ok__law_field (Z : ZZ P K mg base T) : FnD P w K mg base T "_law_field" 4 ["_law_draw"] (dBody N__law_field.length t__law_field) := (okg__law_field Z).fnD (Z.g 31 rfl) (fun _ _ _ _ _ _ us hl => match us, hl with | [_], _ => rfl)
abbrev wg__law_caught : TL → TL := wpCaught cs
theorem okc__law_caught (Z : ZZ P K mg base T) : FnC P w K mg base T "_law_caught" 13 14 wg__law_caught := by
  obtain ⟨fd, F⟩ := Z.toZk.fd (d := d__law_caught) 29 rfl rfl
  have bb := FunD.bindsA (ps := ["_law_work"]) F (fun _ _ _ _ _ _ us hl => match us, hl with | [_], _ => rfl)
  exact fnC_caught (cs := cs) F sc__law_caught (Z.g 32 rfl) (fun s u => bb s [u] rfl) rfl rfl rfl rfl (Z.g 33 rfl) Z.exm (by decide) (by decide) (by decide) (by decide) (by decide) (by decide) (by decide) (by intro _; rfl) (by intro _; rfl) (by intro _; rfl)
def t__law_cut : TDS := (dSeq (dSetX 1 (fCB listF (dCons (dVar 0) dNil)))
    (dSeq (dWhile (dBorT (dAnd (dTest (d2 neD (dVar 1) (dLst dNil))) (dTest (d2 eqD (d2 ixD (dVar 1) (d1 negD (dC (.int 1)))) (dC (.int 0)))))) (dExpr (dMut 1 "list" mPop dNil)))
    (dRet (dCB tupD (dCons (dVar 1) dNil)))))
theorem okg__law_cut (Z : ZZ P K mg base T) : FnB P w K mg base T d__law_cut 1 ["_law_some"] (dBody N__law_cut.length t__law_cut) :=
  Z.toZk.fnB 30 rfl rfl rfl sc__law_cut fun cdv A outer s H E B hcd hT hr => by
    subst hT
    exact (dss_cons (ds_setX sc__law_cut.nd (i := 1) rfl (by first | exact Or.inl rfl | exact Or.inr rfl) (df_callTy call_list_of lf_list (by rfl) (Z.f 3 rfl) bt_list (da_cons (de_var 0 (pv 0)) da_nil)))
    (dss_cons (ds_while (passes_of rfl) (dt_bor (DWh.dt (dw_and (dt_cmp (op_neD hr.u64) l_ne (de_var 1 (pv 1)) (de_lst da_nil) (by rfl)) (dw_and1 (dt_cmp (op_eqD hr.u64) l_eq (de_ix (ix_all hr.u1) l_ix (de_var 1 (pv 1)) (de_neg de_int) (by intro _ _; rfl)) de_int (by rfl)))))) (dss_one (ds_expr (de_mut0 (i := 1) (by decide) PySem.F.plainAttrs_list PySem.F.slot_list_pop PySem.F.type_list_pop mt_pop mop_pop (pv 1) (show 1 < N__law_cut.length by decide)))))
    (dss_one (ds_ret (de_callTy call_tuple_of lc_tup (by rfl) (Z.f 4 rfl) bt_tuple (da_cons (de_var 1 (pv 1)) da_nil))))))
theorem ok__law_cut (Z : ZZ P K mg base T) : FnD P w K mg base T "_law_cut" 1 ["_law_some"] (dBody N__law_cut.length t__law_cut) := (okg__law_cut Z).fnD (Z.g 34 rfl) (fun _ _ _ _ _ _ us hl => match us, hl with | [_], _ => rfl)
def t__law_poly_sum : TDS := (dSeq (dSet 1 (dCB maxD (dCons (dFrz (f2 addF (dFrz (dComp (dSeqI (dVar 0)) (gN 2) dYes (dCB lenD (dCons (dVar 2) dNil)) [2])) (dLst (dCons (dC (.int 0)) dNil)))) dNil)))
    (dRet (dCall (dBody N__law_cut.length t__law_cut) 1 (dCons (dFrz (dComp (dRange1 (dCons (dVar 1) dNil)) (gN 3) dYes (dCB (onL sumL) (dCons (dFrz (dComp (dSeqI (dVar 0)) (gN 2) (dTest (d2 ltD (dVar 3) (dCB lenD (dCons (dVar 2) dNil)))) (d2 ixD (dVar 2) (dVar 3)) [2])) dNil)) [3])) dNil))))
theorem okg__law_poly_sum (Z : ZZ P K mg base T) : FnB P w K mg base T d__law_poly_sum 2 ["_law_some"] (dBody N__law_poly_sum.length t__law_poly_sum) :=
  Z.toZk.fnB 31 rfl rfl rfl sc__law_poly_sum fun cdv A outer s H E B hcd hT hr => by
    subst hT
    exact (dss_cons (ds_set sc__law_poly_sum.nd (i := 1) rfl (by first | exact Or.inl rfl | exact Or.inr rfl) (de_callB (call_maxA (by rfl)) lc_max (by rfl) (Z.f 8 rfl) bt_max (da_cons (de_frz (df_add (de_frz (df_comp (own := [("_law_one", 2)]) rfl sc__law_poly_sum.nd (di_seq (de_var 0 (pv 0))) (blkOk_by (by rfl)) (fun _ _ _ _ _ => (dg_name (i := 2) sc__law_poly_sum.nd rfl (by first | exact Or.inl rfl | exact Or.inr rfl))) (fun _ _ _ _ _ => dts_nil) (fun _ _ _ _ _ => (de_callB call_lenA lc_len (by rfl) (Z.f 5 rfl) bt_len (da_cons (de_var 2 (pv 2)) da_nil))))) (de_lst (da_cons de_int da_nil)))) da_nil)))
    (dss_one (ds_ret (de_call (ok__law_cut Z) (hr.mono (by decide)) (by rfl) (da_cons (de_frz (df_comp (own := [("_law_k", 3)]) rfl sc__law_poly_sum.nd (di_range1 (by rfl) (Z.f 12 rfl) (da_cons (de_var 1 (pv 1)) da_nil)) (blkOk_by (by rfl)) (fun _ _ _ _ _ => (dg_name (i := 3) sc__law_poly_sum.nd rfl (by first | exact Or.inl rfl | exact Or.inr rfl))) (fun _ _ _ _ _ => dts_nil) (fun _ _ _ _ _ => (de_callB (cr_sum (by rfl)) lc_sum (by rfl) (Z.f 11 rfl) bt_sum (da_cons (de_frz (df_comp (own := [("_law_one", 2)]) rfl sc__law_poly_sum.nd (di_seq (de_var 0 (pv 0))) (blkOk_by (by rfl)) (fun _ _ _ _ _ => (dg_name (i := 2) sc__law_poly_sum.nd rfl (by first | exact Or.inl rfl | exact Or.inr rfl))) (fun _ _ _ _ _ => (dts_one (dt_cmp op_lt l_lt (de_var 3 (pv 3)) (de_callB call_lenA lc_len (by rfl) (Z.f 5 rfl) bt_len (da_cons (de_var 2 (pv 2)) da_nil)) (by rfl)))) (fun _ _ _ _ _ => (de_ix (ix_all hr.u1) l_ix (de_var 2 (pv 2)) (de_var 3 (pv 3)) (by intro _ _; rfl))))) da_nil))))) da_nil)))))
theorem ok__law_poly_sum (Z : ZZ P K mg base T) : FnD P w K mg base T "_law_poly_sum" 2 ["_law_some"] (dBody N__law_poly_sum.length t__law_poly_sum) := (okg__law_poly_sum Z).fnD (Z.g 35 rfl) (fun _ _ _ _ _ _ us hl => match us, hl with | [_], _ => rfl)
def t__law_poly_product : TDS := (dSeq (dSet 1 (dTup (dCons (dC (.int 1)) dNil)))
    (dSeq (dFor (dSeqI (dVar 0)) (gN 2) (dSeq (dSetX 3 (f2 mulG (dLst (dCons (dC (.int 0)) dNil)) (dFrz (f2 addF (dCB lenD (dCons (dVar 1) dNil)) (dCB lenD (dCons (dVar 2) dNil))))))
    (dSeq (dFor (dEnumB (dVar 1)) (gT 2 (gsCons (gN 4) (gsCons (gN 5) gsNil))) (dFor (dEnumB (dVar 2)) (gT 2 (gsCons (gN 6) (gsCons (gN 7) gsNil))) (dSetI 3 (dFrz (f2 addF (dBor (d2 ixD (dVar 3) (dFrz (f2 addF (dVar 4) (dVar 6))))) (dFrz (f2 mulG (dVar 5) (dVar 7))))) (dFrz (f2 addF (dVar 4) (dVar 6))))))
    (dSet 1 (dCall (dBody N__law_cut.length t__law_cut) 1 (dCons (dVar 3) dNil))))))
    (dRet (dVar 1))))
theorem okg__law_poly_product (Z : ZZ P K mg base T) : FnB P w K mg base T d__law_poly_product 2 ["_law_some"] (dBody N__law_poly_product.length t__law_poly_product) :=
  Z.toZk.fnB 32 rfl rfl rfl sc__law_poly_product fun cdv A outer s H E B hcd hT hr => by
    subst hT
    exact (dss_cons (ds_set sc__law_poly_product.nd (i := 1) rfl (by first | exact Or.inl rfl | exact Or.inr rfl) (de_tup (da_cons de_int da_nil)))
    (dss_cons (ds_for (passes_of rfl) rfl (di_seq (de_var 0 (pv 0))) (dg_name (i := 2) sc__law_poly_product.nd rfl (by first | exact Or.inl rfl | exact Or.inr rfl)) (dss_cons (ds_setX sc__law_poly_product.nd (i := 3) rfl (by first | exact Or.inl rfl | exact Or.inr rfl) (df_mulG (de_lst (da_cons de_int da_nil)) (de_frz (df_add (de_callB call_lenA lc_len (by rfl) (Z.f 5 rfl) bt_len (da_cons (de_var 1 (pv 1)) da_nil)) (de_callB call_lenA lc_len (by rfl) (Z.f 5 rfl) bt_len (da_cons (de_var 2 (pv 2)) da_nil))))))
    (dss_cons (ds_for (passes_of rfl) rfl (di_enumB (by rfl) (Z.f 9 rfl) (de_var 1 (pv 1))) (dg_tup rfl (dgs_cons (dg_name (i := 4) sc__law_poly_product.nd rfl (by first | exact Or.inl rfl | exact Or.inr rfl)) (dgs_cons (dg_name (i := 5) sc__law_poly_product.nd rfl (by first | exact Or.inl rfl | exact Or.inr rfl)) dgs_nil))) (dss_one (ds_for (passes_of rfl) rfl (di_enumB (by rfl) (Z.f 9 rfl) (de_var 2 (pv 2))) (dg_tup rfl (dgs_cons (dg_name (i := 6) sc__law_poly_product.nd rfl (by first | exact Or.inl rfl | exact Or.inr rfl)) (dgs_cons (dg_name (i := 7) sc__law_poly_product.nd rfl (by first | exact Or.inl rfl | exact Or.inr rfl)) dgs_nil))) (dss_one (ds_setI hr.u1 (j := 3) (show 3 < N__law_poly_product.length by decide) (pv 3) (de_frz (df_add (de_bor (de_ix (ix_all hr.u1) l_ix (de_var 3 (pv 3)) (de_frz (df_add (de_var 4 (pv 4)) (de_var 6 (pv 6)))) (by intro _ _; rfl))) (de_frz (df_mulG (de_var 5 (pv 5)) (de_var 7 (pv 7)))))) (de_frz (df_add (de_var 4 (pv 4)) (de_var 6 (pv 6)))))))))
    (dss_one (ds_set sc__law_poly_product.nd (i := 1) rfl (by first | exact Or.inl rfl | exact Or.inr rfl) (de_call (ok__law_cut Z) (hr.mono (by decide)) (by rfl) (da_cons (de_var 3 (pv 3)) da_nil)))))))
    (dss_one (ds_ret (de_var 1 (pv 1))))))
theorem ok__law_poly_product (Z : ZZ P K mg base T) : FnD P w K mg base T "_law_poly_product" 2 ["_law_some"] (dBody N__law_poly_product.length t__law_poly_product) := (okg__law_poly_product Z).fnD (Z.g 36 rfl) (fun _ _ _ _ _ _ us hl => match us, hl with | [_], _ => rfl)
def t__law_power : TDS := (dRet (dFrz (f2 addF (dFrz (f2 mulG (dTup (dCons (dC (.int 0)) dNil)) (dVar 0))) (dTup (dCons (dC (.int 1)) dNil)))))
theorem okg__law_power (Z : ZZ P K mg base T) : FnB P w K mg base T d__law_power 1 ["_law_power_here"] (dBody N__law_power.length t__law_power) :=
  Z.toZk.fnB 33 rfl rfl rfl sc__law_power fun cdv A outer s H E B hcd hT hr => by
    subst hT
    exact (dss_one (ds_ret (de_frz (df_add (de_frz (df_mulG (de_tup (da_cons de_int da_nil)) (de_var 0 (pv 0)))) (de_tup (da_cons de_int da_nil))))))
theorem ok__law_power (Z : ZZ P K mg base T) : FnD P w K mg base T "_law_power" 1 ["_law_power_here"] (dBody N__law_power.length t__law_power) := (okg__law_power Z).fnD (Z.g 37 rfl) (fun _ _ _ _ _ _ us hl => match us, hl with | [_], _ => rfl)
def t__law_worth : TDS := (dSeq (dSet 2 (dC (.int 0)))
    (dSeq (dFor (dSeqI (dFrz (fRev (dVar 0)))) (gN 3) (dSet 2 (dFrz (f2 addF (dFrz (f2 mulG (dVar 2) (dVar 1))) (dVar 3)))))
    (dRet (dVar 2))))
theorem okg__law_worth (Z : ZZ P K mg base T) : FnB P w K mg base T d__law_worth 1 ["_law_poly", "_law_number"] (dBody N__law_worth.length t__law_worth) :=
  Z.toZk.fnB 34 rfl rfl rfl sc__law_worth fun cdv A outer s H E B hcd hT hr => by
    subst hT
    exact (dss_cons (ds_set sc__law_worth.nd (i := 2) rfl (by first | exact Or.inl rfl | exact Or.inr rfl) de_int)
    (dss_cons (ds_for (passes_of rfl) rfl (di_seq (de_frz (df_rev (de_var 0 (pv 0))))) (dg_name (i := 3) sc__law_worth.nd rfl (by first | exact Or.inl rfl | exact Or.inr rfl)) (dss_one (ds_set sc__law_worth.nd (i := 2) rfl (by first | exact Or.inl rfl | exact Or.inr rfl) (de_frz (df_add (de_frz (df_mulG (de_var 2 (pv 2)) (de_var 1 (pv 1)))) (de_var 3 (pv 3)))))))
    (dss_one (ds_ret (de_var 2 (pv 2))))))
theorem ok__law_worth (Z : ZZ P K mg base T) : FnD P w K mg base T "_law_worth" 1 ["_law_poly", "_law_number"] (dBody N__law_worth.length t__law_worth) := (okg__law_worth Z).fnD (Z.g 38 rfl) (fun _ _ _ _ _ _ us hl => match us, hl with | [_, _], _ => rfl)
def t__law_ends : TDS := (dSeq (dSet 1 (dTup (dCons (dC (.int 1)) dNil)))
    (dSeq (dFor (dRange1 (dCons (dVar 0) dNil)) (gN 2) (dSeq (dSetX 3 (f2 mulG (dLst (dCons (dC (.int 0)) dNil)) (dFrz (f2 addF (dVar 0) (dC (.int 1))))))
    (dSeq (dSetI 3 (dFrz (f2 addF (dIxO 3 0) (dC (.int 1)))) (dVar 0))
    (dSeq (dSetI 3 (d2 subD (dIxO 3 2) (dC (.int 1))) (dVar 2))
    (dSet 1 (dCall (dBody N__law_poly_product.length t__law_poly_product) 1 (dCons (dLst (dCons (dVar 1) (dCons (dCall (dBody N__law_cut.length t__law_cut) 1 (dCons (dVar 3) dNil)) dNil))) dNil)))))))
    (dRet (dVar 1))))
theorem okg__law_ends (Z : ZZ P K mg base T) : FnB P w K mg base T d__law_ends 3 ["_law_size"] (dBody N__law_ends.length t__law_ends) :=
  Z.toZk.fnB 35 rfl rfl rfl sc__law_ends fun cdv A outer s H E B hcd hT hr => by
    subst hT
    exact (dss_cons (ds_set sc__law_ends.nd (i := 1) rfl (by first | exact Or.inl rfl | exact Or.inr rfl) (de_tup (da_cons de_int da_nil)))
    (dss_cons (ds_for (passes_of rfl) rfl (di_range1 (by rfl) (Z.f 12 rfl) (da_cons (de_var 0 (pv 0)) da_nil)) (dg_name (i := 2) sc__law_ends.nd rfl (by first | exact Or.inl rfl | exact Or.inr rfl)) (dss_cons (ds_setX sc__law_ends.nd (i := 3) rfl (by first | exact Or.inl rfl | exact Or.inr rfl) (df_mulG (de_lst (da_cons de_int da_nil)) (de_frz (df_add (de_var 0 (pv 0)) de_int))))
    (dss_cons (ds_setI hr.u1 (j := 3) (show 3 < N__law_ends.length by decide) (pv 3) (de_frz (df_add (de_ixO hr.u1 (pv 3) (pv 0)) de_int)) (de_var 0 (pv 0)))
    (dss_cons (ds_setI hr.u1 (j := 3) (show 3 < N__law_ends.length by decide) (pv 3) (de_sub (de_ixO hr.u1 (pv 3) (pv 2)) de_int) (de_var 2 (pv 2)))
    (dss_one (ds_set sc__law_ends.nd (i := 1) rfl (by first | exact Or.inl rfl | exact Or.inr rfl) (de_call (ok__law_poly_product Z) (hr.mono (by decide)) (by rfl) (da_cons (de_lst (da_cons (de_var 1 (pv 1)) (da_cons (de_call (ok__law_cut Z) (hr.mono (by decide)) (by rfl) (da_cons (de_var 3 (pv 3)) da_nil)) da_nil))) da_nil))))))))
    (dss_one (ds_ret (de_var 1 (pv 1))))))
theorem ok__law_ends (Z : ZZ P K mg base T) : FnD P w K mg base T "_law_ends" 3 ["_law_size"] (dBody N__law_ends.length t__law_ends) := (okg__law_ends Z).fnD (Z.g 39 rfl) (fun _ _ _ _ _ _ us hl => match us, hl with | [_], _ => rfl)
def t__law_choices : TDS := (dSeq (dSet 2 (dLst (dCons (dTup (dCons (dC (.int 1)) dNil)) dNil)))
    (dSeq (dFor (dRange1 (dCons (dVar 0) dNil)) (gN 3) (dSeq (dSetX 4 (dLstF (dCons (dTup (dCons (dC (.int 1)) dNil)) dNil)))
    (dSeq (dFor (dRange2 (dCons (dC (.int 1)) (dCons (dFrz (f2 addF (dCB lenD (dCons (dVar 2) dNil)) (dC (.int 1)))) dNil))) (gN 5) (dSeq (dSet 6 (dIf (dTest (d2 ltD (dVar 5) (dCB lenD (dCons (dVar 2) dNil)))) (dCall (dBody N__law_poly_product.length t__law_poly_product) 1 (dCons (dLst (dCons (dCall (dBody N__law_power.length t__law_power) 1 (dCons (dVar 5) dNil)) (dCons (d2 ixD (dVar 2) (dVar 5)) dNil))) dNil)) (dTup dNil)))
    (dExpr (dMut 4 "list" mAppend (dCons (dCall (dBody N__law_poly_sum.length t__law_poly_sum) 1 (dCons (dLst (dCons (d2 ixD (dVar 2) (d2 subD (dVar 5) (dC (.int 1)))) (dCons (dVar 6) dNil))) dNil)) dNil)))))
    (dSet 2 (dVar 4)))))
    (dRet (dIf (dTest (d2 ltD (dVar 1) (dCB lenD (dCons (dVar 2) dNil)))) (d2 ixD (dVar 2) (dVar 1)) (dTup dNil)))))
theorem okg__law_choices (Z : ZZ P K mg base T) : FnB P w K mg base T d__law_choices 3 ["_law_size", "_law_part_here"] (dBody N__law_choices.length t__law_choices) :=
  Z.toZk.fnB 36 rfl rfl rfl sc__law_choices fun cdv A outer s H E B hcd hT hr => by
    subst hT
    exact (dss_cons (ds_set sc__law_choices.nd (i := 2) rfl (by first | exact Or.inl rfl | exact Or.inr rfl) (de_lst (da_cons (de_tup (da_cons de_int da_nil)) da_nil)))
    (dss_cons (ds_for (passes_of rfl) rfl (di_range1 (by rfl) (Z.f 12 rfl) (da_cons (de_var 0 (pv 0)) da_nil)) (dg_name (i := 3) sc__law_choices.nd rfl (by first | exact Or.inl rfl | exact Or.inr rfl)) (dss_cons (ds_setX sc__law_choices.nd (i := 4) rfl (by first | exact Or.inl rfl | exact Or.inr rfl) (df_lst (da_cons (de_tup (da_cons de_int da_nil)) da_nil)))
    (dss_cons (ds_for (passes_of rfl) rfl (di_range2 (by rfl) (Z.f 12 rfl) (da_cons de_int (da_cons (de_frz (df_add (de_callB call_lenA lc_len (by rfl) (Z.f 5 rfl) bt_len (da_cons (de_var 2 (pv 2)) da_nil)) de_int)) da_nil))) (dg_name (i := 5) sc__law_choices.nd rfl (by first | exact Or.inl rfl | exact Or.inr rfl)) (dss_cons (ds_set sc__law_choices.nd (i := 6) rfl (by first | exact Or.inl rfl | exact Or.inr rfl) (de_ifExp (dt_cmp op_lt l_lt (de_var 5 (pv 5)) (de_callB call_lenA lc_len (by rfl) (Z.f 5 rfl) bt_len (da_cons (de_var 2 (pv 2)) da_nil)) (by rfl)) (de_call (ok__law_poly_product Z) (hr.mono (by decide)) (by rfl) (da_cons (de_lst (da_cons (de_call (ok__law_power Z) (hr.mono (by decide)) (by rfl) (da_cons (de_var 5 (pv 5)) da_nil)) (da_cons (de_ix (ix_all hr.u1) l_ix (de_var 2 (pv 2)) (de_var 5 (pv 5)) (by intro _ _; rfl)) da_nil))) da_nil)) (de_tup da_nil)))
    (dss_one (ds_expr (de_mut (i := 4) (by decide) PySem.F.plainAttrs_list PySem.F.slot_list_append PySem.F.type_list_append mt_append mop_append (pv 4) (show 4 < N__law_choices.length by decide) (da_cons (de_call (ok__law_poly_sum Z) (hr.mono (by decide)) (by rfl) (da_cons (de_lst (da_cons (de_ix (ix_all hr.u1) l_ix (de_var 2 (pv 2)) (de_sub (de_var 5 (pv 5)) de_int) (by intro _ _; rfl)) (da_cons (de_var 6 (pv 6)) da_nil))) da_nil)) da_nil))))))
    (dss_one (ds_set sc__law_choices.nd (i := 2) rfl (by first | exact Or.inl rfl | exact Or.inr rfl) (de_var 4 (pv 4)))))))
    (dss_one (ds_ret (de_ifExp (dt_cmp op_lt l_lt (de_var 1 (pv 1)) (de_callB call_lenA lc_len (by rfl) (Z.f 5 rfl) bt_len (da_cons (de_var 2 (pv 2)) da_nil)) (by rfl)) (de_ix (ix_all hr.u1) l_ix (de_var 2 (pv 2)) (de_var 1 (pv 1)) (by intro _ _; rfl)) (de_tup da_nil))))))
theorem ok__law_choices (Z : ZZ P K mg base T) : FnD P w K mg base T "_law_choices" 3 ["_law_size", "_law_part_here"] (dBody N__law_choices.length t__law_choices) := (okg__law_choices Z).fnD (Z.g 40 rfl) (fun _ _ _ _ _ _ us hl => match us, hl with | [_, _], _ => rfl)
def t__law_tally : TDS := (dSeq (dSet 1 (dLst (dCons (dC (.int 0)) (dCons (dC (.int 0)) (dCons (dC (.int 1)) (dCons (d1 negD (dC (.int 1))) (dCons (dC (.int 2)) (dCons (dC (.int 7)) (dCons (d1 negD (dC (.int 30))) (dCons (d2 powD (dC (.int 10)) (dC (.int 20))) dNil))))))))))
    (dRet (dCall (dBody N__law_cut.length t__law_cut) 1 (dCons (dFrz (dComp (dRange1 (dCons (dCall (dBody N__law_take.length t__law_take) 2 (dCons (dVar 0) (dCons (dC (.int 7)) dNil))) dNil)) (gN 2) dYes (dCall (dBody N__law_pick.length t__law_pick) 2 (dCons (dVar 0) (dCons (dVar 1) dNil))) [2])) dNil))))
theorem okg__law_tally (Z : ZZ P K mg base T) : FnB P w K mg base T d__law_tally 4 ["_law_draw"] (dBody N__law_tally.length t__law_tally) :=
  Z.toZk.fnB 37 rfl rfl rfl sc__law_tally fun cdv A outer s H E B hcd hT hr => by
    subst hT
    exact (dss_cons (ds_set sc__law_tally.nd (i := 1) rfl (by first | exact Or.inl rfl | exact Or.inr rfl) (de_lst (da_cons de_int (da_cons de_int (da_cons de_int (da_cons (de_neg de_int) (da_cons de_int (da_cons de_int (da_cons (de_neg de_int) (da_cons (de_pow de_int de_int) da_nil))))))))))
    (dss_one (ds_ret (de_call (ok__law_cut Z) (hr.mono (by decide)) (by rfl) (da_cons (de_frz (df_comp (own := [("_law_k", 2)]) rfl sc__law_tally.nd (di_range1 (by rfl) (Z.f 12 rfl) (da_cons (de_call (ok__law_take Z) (hr.mono (by decide)) (by rfl) (da_cons (de_var 0 (pv 0)) (da_cons de_int da_nil))) da_nil)) (blkOk_by (by rfl)) (fun _ _ _ _ _ => (dg_name (i := 2) sc__law_tally.nd rfl (by first | exact Or.inl rfl | exact Or.inr rfl))) (fun _ _ _ _ _ => dts_nil) (fun _ _ _ _ _ => (de_call (ok__law_pick Z) (hr.mono (by decide)) (by rfl) (da_cons (de_var 0 (pv 0)) (da_cons (de_var 1 (pv 1)) da_nil)))))) da_nil)))))
theorem ok__law_tally (Z : ZZ P K mg base T) : FnD P w K mg base T "_law_tally" 4 ["_law_draw"] (dBody N__law_tally.length t__law_tally) := (okg__law_tally Z).fnD (Z.g 41 rfl) (fun _ _ _ _ _ _ us hl => match us, hl with | [_], _ => rfl)
def t__law_is_bad (fl : Addr) (tl : TL) : TDS := (dRet (dCB (isaD C.isas) (dCons (dPass 0 fl tl wg__law_caught) (dCons (dC (.glo "BadTally")) dNil))))
abbrev wg__law_is_bad : TL → TL := fun tl P' RX => ∀ fl, dBody N__law_is_bad.length (t__law_is_bad fl tl) [.adr fl] P' RX
theorem okc__law_is_bad (Z : ZZ P K mg base T) : FnC P w K mg base T "_law_is_bad" 13 15 wg__law_is_bad :=
  Z.toZk.fnC (d := d__law_is_bad) 38 rfl rfl rfl (Z.g 42 rfl) sc__law_is_bad (fun _ _ _ _ _ _ us hl => match us, hl with | [_], _ => rfl) fun fl tl cdv A outer s H E B hT hH CA hr => by
    subst hT
    exact (dss_one (ds_ret (de_callB call_isa (lc_isa Z.isa) (by rfl) (Z.f 1 rfl) bt_isinstance (da_cons (de_pass (okc__law_caught Z) CA hH rfl (hr.mono (by decide)) (by rfl) (pv 0)) (da_cons (de_glo (by rfl) (Z.g 8 rfl)) da_nil)))))
def t__law_part (fl : Addr) (tl : TL) : TDS := (dSeq (dSet 1 (dPass 0 fl tl wg__law_caught))
    (dRet (dIf (dTest (dCB (isaD C.isas) (dCons (dVar 1) (dCons (dC (.glo "BadNumber")) dNil)))) (dAttr C.tab "part" (dVar 1)) (dC .non))))
abbrev wg__law_part : TL → TL := fun tl P' RX => ∀ fl, dBody N__law_part.length (t__law_part fl tl) [.adr fl] P' RX
theorem okc__law_part (Z : ZZ P K mg base T) : FnC P w K mg base T "_law_part" 13 15 wg__law_part :=
  Z.toZk.fnC (d := d__law_part) 39 rfl rfl rfl (Z.g 43 rfl) sc__law_part (fun _ _ _ _ _ _ us hl => match us, hl with | [_], _ => rfl) fun fl tl cdv A outer s H E B hT hH CA hr => by
    subst hT
    exact (dss_cons (ds_set sc__law_part.nd (i := 1) rfl (by first | exact Or.inl rfl | exact Or.inr rfl) (de_pass (okc__law_caught Z) CA hH rfl (hr.mono (by decide)) (by rfl) (pv 0)))
    (dss_one (ds_ret (de_ifExp (dt_val (de_callB call_isa (lc_isa Z.isa) (by rfl) (Z.f 1 rfl) bt_isinstance (da_cons (de_var 1 (pv 1)) (da_cons (de_glo (by rfl) (Z.g 13 rfl)) da_nil)))) (de_attr (k := 0) Z.ats (hr.mono (by decide)) (de_var 1 (pv 1))) de_non))))
theorem okk_tally_at_number_tally (Z : ZZ P K mg base T) : FnK P w K mg base T "tally_at" 4 ["tally", "number"] (dBody N_tally_at.length t_tally_at) 0 ["number", "tally"] [1, 0] :=
  (okg_tally_at Z).fnK (Z.g 14 rfl) (fun _ _ _ _ _ _ us ws h1 h2 => match us, ws, h1, h2 with | [], [_, _], _, _ => by rfl)
theorem okk_tally_less_one_other (Z : ZZ P K mg base T) : FnK P w K mg base T "tally_less" 4 ["one", "other"] (dBody N_tally_less.length t_tally_less) 0 ["one", "other"] [0, 1] :=
  (okg_tally_less Z).fnK (Z.g 20 rfl) (fun _ _ _ _ _ _ us ws h1 h2 => match us, ws, h1, h2 with | [], [_, _], _, _ => by rfl)
theorem okk_tally_product_tallies (Z : ZZ P K mg base T) : FnK P w K mg base T "tally_product" 5 ["tallies"] (dBody N_tally_product.length t_tally_product) 0 ["tallies"] [0] :=
  (okg_tally_product Z).fnK (Z.g 19 rfl) (fun _ _ _ _ _ _ us ws h1 h2 => match us, ws, h1, h2 with | [], [_], _, _ => by rfl)
theorem okk_tally_sum_tallies (Z : ZZ P K mg base T) : FnK P w K mg base T "tally_sum" 5 ["tallies"] (dBody N_tally_sum.length t_tally_sum) 0 ["tallies"] [0] :=
  (okg_tally_sum Z).fnK (Z.g 18 rfl) (fun _ _ _ _ _ _ us ws h1 h2 => match us, ws, h1, h2 with | [], [_], _, _ => by rfl)
theorem okk_tally_through_one_other (Z : ZZ P K mg base T) : FnK P w K mg base T "tally_through" 4 ["one", "other"] (dBody N_tally_through.length t_tally_through) 0 ["one", "other"] [0, 1] :=
  (okg_tally_through Z).fnK (Z.g 22 rfl) (fun _ _ _ _ _ _ us ws h1 h2 => match us, ws, h1, h2 with | [], [_, _], _, _ => by rfl)
def t__law_sums_right : TDS := (dSeq (dSetX 1 (dComp (dRange1 (dCons (dCall (dBody N__law_take.length t__law_take) 2 (dCons (dVar 0) (dCons (dC (.int 4)) dNil))) dNil)) (gN 2) dYes (dCall (dBody N__law_tally.length t__law_tally) 1 (dCons (dVar 0) dNil)) [2]))
    (dSeq (dAsg (dTup (dCons (dCall (dBody N__law_tally.length t__law_tally) 1 (dCons (dVar 0) dNil)) (dCons (dCall (dBody N__law_tally.length t__law_tally) 1 (dCons (dVar 0) dNil)) (dCons (dCall (dBody N__law_pick.length t__law_pick) 2 (dCons (dVar 0) (dCons (dLst (dCons (dC (.int 0)) (dCons (dC (.int 1)) (dCons (d1 negD (dC (.int 1))) (dCons (dC (.int 2)) (dCons (dC (.int 97)) (dCons (d2 powD (dC (.int 10)) (dC (.int 6))) (dCons (d2 subD (dC (.int 0)) (d2 powD (dC (.int 10)) (dC (.int 6)))) dNil)))))))) dNil))) dNil)))) (gT 3 (gsCons (gN 3) (gsCons (gN 4) (gsCons (gN 5) gsNil)))))
    (dSeq (dIfS (dNot (dTest (dCB (onL allL) (dCons (dFrz (dComp (dSeqI (dFrz (f2 addF (dVar 1) (dLst (dCons (dVar 3) (dCons (dVar 4) dNil)))))) (gN 6) dYes (dCall (dBody N_is_tally.length t_is_tally) 1 (dCons (dVar 6) dNil)) [6])) dNil)))) (dRet (dC (.bl false))) dNext)
    (dSeq (dIfS (dTest (d2 neD (dCB reprX (dCons (dCallK (dBody N_tally_at.length t_tally_at) 2 0 2 [1, 0] dNil (dCons (dVar 5) (dCons (dVar 3) dNil))) dNil)) (dCB reprX (dCons (dCall (dBody N__law_worth.length t__law_worth) 2 (dCons (dVar 3) (dCons (dVar 5) dNil))) dNil)))) (dRet (dC (.bl false))) dNext)
    (dSeq (dIfS (dOr (dTest (d2 neD (dCB reprX (dCons (dCall (dBody N_tally_sum.length t_tally_sum) 1 (dCons (dVar 1) dNil)) dNil)) (dCB reprX (dCons (dCall (dBody N__law_poly_sum.length t__law_poly_sum) 1 (dCons (dVar 1) dNil)) dNil)))) (dTest (d2 neD (dCB reprX (dCons (dCallK (dBody N_tally_sum.length t_tally_sum) 1 0 1 [0] dNil (dCons (dCB tupD (dCons (dVar 1) dNil)) dNil)) dNil)) (dCB reprX (dCons (dCall (dBody N__law_poly_sum.length t__law_poly_sum) 1 (dCons (dVar 1) dNil)) dNil))))) (dRet (dC (.bl false))) dNext)
    (dSeq (dIfS (dTest (d2 neD (dCB reprX (dCons (dCallK (dBody N_tally_product.length t_tally_product) 1 0 1 [0] dNil (dCons (dVar 1) dNil)) dNil)) (dCB reprX (dCons (dCall (dBody N__law_poly_product.length t__law_poly_product) 1 (dCons (dVar 1) dNil)) dNil)))) (dRet (dC (.bl false))) dNext)
    (dSeq (dSet 7 (dCB tupD (dCons (dFrz (dComp (dSeqI (dVar 4)) (gN 6) dYes (d2 subD (dC (.int 0)) (dVar 6)) [6])) dNil)))
    (dSeq (dIfS (dOr (dTest (d2 neD (dCB reprX (dCons (dCall (dBody N_tally_less.length t_tally_less) 2 (dCons (dVar 3) (dCons (dVar 4) dNil))) dNil)) (dCB reprX (dCons (dCall (dBody N__law_poly_sum.length t__law_poly_sum) 1 (dCons (dLst (dCons (dVar 3) (dCons (dVar 7) dNil))) dNil)) dNil)))) (dTest (d2 neD (dCallK (dBody N_tally_less.length t_tally_less) 2 0 2 [0, 1] dNil (dCons (dVar 3) (dCons (dVar 3) dNil))) (dTup dNil)))) (dRet (dC (.bl false))) dNext)
    (dSeq (dIfS (dTest (d2 eqD (dCB lenD (dCons (dVar 4) dNil)) (dC (.int 0)))) (dRet (dLam wg__law_is_bad (dCall (dBody N_tally_through.length t_tally_through) 2 (dCons (dVar 3) (dCons (dVar 4) dNil))))) dNext)
    (dSeq (dSet 8 (dCall (dBody N__law_poly_product.length t__law_poly_product) 1 (dCons (dLst (dCons (dVar 3) (dCons (dVar 4) dNil))) dNil)))
    (dSeq (dIfS (dOr (dTest (d2 neD (dCB reprX (dCons (dCall (dBody N_tally_through.length t_tally_through) 2 (dCons (dVar 8) (dCons (dVar 4) dNil))) dNil)) (dCB reprX (dCons (dVar 3) dNil)))) (dTest (d2 neD (dCall (dBody N_tally_through.length t_tally_through) 2 (dCons (dTup dNil) (dCons (dVar 4) dNil))) (dTup dNil)))) (dRet (dC (.bl false))) dNext)
    (dSeq (dSet 9 (dCall (dBody N__law_poly_sum.length t__law_poly_sum) 1 (dCons (dLst (dCons (dVar 8) (dCons (dTup (dCons (dC (.int 1)) dNil)) dNil))) dNil)))
    (dRet (dOrV (d2 eqD (dCB lenD (dCons (dVar 4) dNil)) (dC (.int 1))) (d2 isD (dCallK (dBody N_tally_through.length t_tally_through) 2 0 2 [0, 1] dNil (dCons (dVar 9) (dCons (dVar 4) dNil))) (dC .non))))))))))))))))
theorem okg__law_sums_right (Z : ZZ P K mg base T) : FnB P w K mg base T d__law_sums_right 16 ["_law_draw"] (dBody N__law_sums_right.length t__law_sums_right) :=
  Z.toZk.fnB 40 rfl rfl rfl sc__law_sums_right fun cdv A outer s H E B hcd hT hr => by
    subst hT
    exact (dss_cons (ds_comp (i := 1) (own := [("_law_k", 2)]) rfl sc__law_sums_right.nd rfl rfl (sw_true rfl rfl rfl (by decide +kernel)) (di_range1 (by rfl) (Z.f 12 rfl) (da_cons (de_call (ok__law_take Z) (hr.mono (by decide)) (by rfl) (da_cons (de_var 0 (pv 0)) (da_cons de_int da_nil))) da_nil)) (blkOk_by (by rfl)) (fun _ _ _ _ _ => (dg_name (i := 2) sc__law_sums_right.nd rfl (by first | exact Or.inl rfl | exact Or.inr rfl))) (fun _ _ _ _ _ => dts_nil) (fun _ _ _ _ _ => (de_call (ok__law_tally Z) (hr.mono (by decide)) (by rfl) (da_cons (de_var 0 (pv 0)) da_nil))))
    (dss_cons (ds_asg (de_tup (da_cons (de_call (ok__law_tally Z) (hr.mono (by decide)) (by rfl) (da_cons (de_var 0 (pv 0)) da_nil)) (da_cons (de_call (ok__law_tally Z) (hr.mono (by decide)) (by rfl) (da_cons (de_var 0 (pv 0)) da_nil)) (da_cons (de_call (ok__law_pick Z) (hr.mono (by decide)) (by rfl) (da_cons (de_var 0 (pv 0)) (da_cons (de_lst (da_cons de_int (da_cons de_int (da_cons (de_neg de_int) (da_cons de_int (da_cons de_int (da_cons (de_pow de_int de_int) (da_cons (de_sub de_int (de_pow de_int de_int)) da_nil)))))))) da_nil))) da_nil)))) (dg_tup rfl (dgs_cons (dg_name (i := 3) sc__law_sums_right.nd rfl (by first | exact Or.inl rfl | exact Or.inr rfl)) (dgs_cons (dg_name (i := 4) sc__law_sums_right.nd rfl (by first | exact Or.inl rfl | exact Or.inr rfl)) (dgs_cons (dg_name (i := 5) sc__law_sums_right.nd rfl (by first | exact Or.inl rfl | exact Or.inr rfl)) dgs_nil)))))
    (dss_cons (ds_if (dt_not (dt_val (de_callB (cr_all (by rfl)) lc_all (by rfl) (Z.f 6 rfl) bt_all (da_cons (de_frz (df_comp (own := [("_law_item", 6)]) rfl sc__law_sums_right.nd (di_seq (de_frz (df_add (de_var 1 (pv 1)) (de_lst (da_cons (de_var 3 (pv 3)) (da_cons (de_var 4 (pv 4)) da_nil)))))) (blkOk_by (by rfl)) (fun _ _ _ _ _ => (dg_name (i := 6) sc__law_sums_right.nd rfl (by first | exact Or.inl rfl | exact Or.inr rfl))) (fun _ _ _ _ _ => dts_nil) (fun _ _ _ _ _ => (de_call (ok_is_tally Z) (hr.mono (by decide)) (by rfl) (da_cons (de_var 6 (pv 6)) da_nil))))) da_nil)))) (dss_one (ds_ret de_bl)) dss_nil)
    (dss_cons (ds_if (dt_cmp (op_neD hr.u64) l_ne (de_callB (call_reprX hr) (lc_reprX Z.sys) (by rfl) (Z.f 13 rfl) bt_repr (da_cons (de_callK0 (okk_tally_at_number_tally Z) (hr.mono (by decide)) (by rfl) (dk_cons (de_var 5 (pv 5)) (dk_cons (de_var 3 (pv 3)) dk_nil))) da_nil)) (de_callB (call_reprX hr) (lc_reprX Z.sys) (by rfl) (Z.f 13 rfl) bt_repr (da_cons (de_call (ok__law_worth Z) (hr.mono (by decide)) (by rfl) (da_cons (de_var 3 (pv 3)) (da_cons (de_var 5 (pv 5)) da_nil))) da_nil)) (by rfl)) (dss_one (ds_ret de_bl)) dss_nil)
    (dss_cons (ds_if (DWh.dt (dw_or (dt_cmp (op_neD hr.u64) l_ne (de_callB (call_reprX hr) (lc_reprX Z.sys) (by rfl) (Z.f 13 rfl) bt_repr (da_cons (de_call (ok_tally_sum Z) (hr.mono (by decide)) (by rfl) (da_cons (de_var 1 (pv 1)) da_nil)) da_nil)) (de_callB (call_reprX hr) (lc_reprX Z.sys) (by rfl) (Z.f 13 rfl) bt_repr (da_cons (de_call (ok__law_poly_sum Z) (hr.mono (by decide)) (by rfl) (da_cons (de_var 1 (pv 1)) da_nil)) da_nil)) (by rfl)) (dw_or1 (dt_cmp (op_neD hr.u64) l_ne (de_callB (call_reprX hr) (lc_reprX Z.sys) (by rfl) (Z.f 13 rfl) bt_repr (da_cons (de_callK0 (okk_tally_sum_tallies Z) (hr.mono (by decide)) (by rfl) (dk_cons (de_callTy call_tuple_of lc_tup (by rfl) (Z.f 4 rfl) bt_tuple (da_cons (de_var 1 (pv 1)) da_nil)) dk_nil)) da_nil)) (de_callB (call_reprX hr) (lc_reprX Z.sys) (by rfl) (Z.f 13 rfl) bt_repr (da_cons (de_call (ok__law_poly_sum Z) (hr.mono (by decide)) (by rfl) (da_cons (de_var 1 (pv 1)) da_nil)) da_nil)) (by rfl))))) (dss_one (ds_ret de_bl)) dss_nil)
    (dss_cons (ds_if (dt_cmp (op_neD hr.u64) l_ne (de_callB (call_reprX hr) (lc_reprX Z.sys) (by rfl) (Z.f 13 rfl) bt_repr (da_cons (de_callK0 (okk_tally_product_tallies Z) (hr.mono (by decide)) (by rfl) (dk_cons (de_var 1 (pv 1)) dk_nil)) da_nil)) (de_callB (call_reprX hr) (lc_reprX Z.sys) (by rfl) (Z.f 13 rfl) bt_repr (da_cons (de_call (ok__law_poly_product Z) (hr.mono (by decide)) (by rfl) (da_cons (de_var 1 (pv 1)) da_nil)) da_nil)) (by rfl)) (dss_one (ds_ret de_bl)) dss_nil)
    (dss_cons (ds_set sc__law_sums_right.nd (i := 7) rfl (by first | exact Or.inl rfl | exact Or.inr rfl) (de_callTy call_tuple_of lc_tup (by rfl) (Z.f 4 rfl) bt_tuple (da_cons (de_frz (df_comp (own := [("_law_item", 6)]) rfl sc__law_sums_right.nd (di_seq (de_var 4 (pv 4))) (blkOk_by (by rfl)) (fun _ _ _ _ _ => (dg_name (i := 6) sc__law_sums_right.nd rfl (by first | exact Or.inl rfl | exact Or.inr rfl))) (fun _ _ _ _ _ => dts_nil) (fun _ _ _ _ _ => (de_sub de_int (de_var 6 (pv 6)))))) da_nil)))
    (dss_cons (ds_if (DWh.dt (dw_or (dt_cmp (op_neD hr.u64) l_ne (de_callB (call_reprX hr) (lc_reprX Z.sys) (by rfl) (Z.f 13 rfl) bt_repr (da_cons (de_call (ok_tally_less Z) (hr.mono (by decide)) (by rfl) (da_cons (de_var 3 (pv 3)) (da_cons (de_var 4 (pv 4)) da_nil))) da_nil)) (de_callB (call_reprX hr) (lc_reprX Z.sys) (by rfl) (Z.f 13 rfl) bt_repr (da_cons (de_call (ok__law_poly_sum Z) (hr.mono (by decide)) (by rfl) (da_cons (de_lst (da_cons (de_var 3 (pv 3)) (da_cons (de_var 7 (pv 7)) da_nil))) da_nil)) da_nil)) (by rfl)) (dw_or1 (dt_cmp (op_neD hr.u64) l_ne (de_callK0 (okk_tally_less_one_other Z) (hr.mono (by decide)) (by rfl) (dk_cons (de_var 3 (pv 3)) (dk_cons (de_var 3 (pv 3)) dk_nil))) (de_tup da_nil) (by rfl))))) (dss_one (ds_ret de_bl)) dss_nil)
    (dss_cons (ds_if (dt_cmp (op_eqD hr.u64) l_eq (de_callB call_lenA lc_len (by rfl) (Z.f 5 rfl) bt_len (da_cons (de_var 4 (pv 4)) da_nil)) de_int (by rfl)) (dss_one (ds_ret (de_lam (okc__law_is_bad Z) (hr.mono (by decide)) (by rfl) (Z.tb tq__law_sums_right tin__law_sums_right) hcd (Z.tm tq__law_sums_right tin__law_sums_right) (Z.tu tq__law_sums_right tin__law_sums_right) (LamX.lamS_by (by rfl)) rfl (fun _ _ _ _ _ => rfl) (fun f c2 A2 outer2 s2 H2 E2 B2 hT2 hr => by
      have Z := Z
      rw [← hT2] at Z
      exact (de_call (ok_tally_through Z) (hr.mono (by decide)) (by rfl) (da_cons (de_var 3 (pv 3)) (da_cons (de_var 4 (pv 4)) da_nil))))))) dss_nil)
    (dss_cons (ds_set sc__law_sums_right.nd (i := 8) rfl (by first | exact Or.inl rfl | exact Or.inr rfl) (de_call (ok__law_poly_product Z) (hr.mono (by decide)) (by rfl) (da_cons (de_lst (da_cons (de_var 3 (pv 3)) (da_cons (de_var 4 (pv 4)) da_nil))) da_nil)))
    (dss_cons (ds_if (DWh.dt (dw_or (dt_cmp (op_neD hr.u64) l_ne (de_callB (call_reprX hr) (lc_reprX Z.sys) (by rfl) (Z.f 13 rfl) bt_repr (da_cons (de_call (ok_tally_through Z) (hr.mono (by decide)) (by rfl) (da_cons (de_var 8 (pv 8)) (da_cons (de_var 4 (pv 4)) da_nil))) da_nil)) (de_callB (call_reprX hr) (lc_reprX Z.sys) (by rfl) (Z.f 13 rfl) bt_repr (da_cons (de_var 3 (pv 3)) da_nil)) (by rfl)) (dw_or1 (dt_cmp (op_neD hr.u64) l_ne (de_call (ok_tally_through Z) (hr.mono (by decide)) (by rfl) (da_cons (de_tup da_nil) (da_cons (de_var 4 (pv 4)) da_nil))) (de_tup da_nil) (by rfl))))) (dss_one (ds_ret de_bl)) dss_nil)
    (dss_cons (ds_set sc__law_sums_right.nd (i := 9) rfl (by first | exact Or.inl rfl | exact Or.inr rfl) (de_call (ok__law_poly_sum Z) (hr.mono (by decide)) (by rfl) (da_cons (de_lst (da_cons (de_var 8 (pv 8)) (da_cons (de_tup (da_cons de_int da_nil)) da_nil))) da_nil)))
    (dss_one (ds_ret (de_or (de_cmp (op_eqD hr.u64) l_eq (de_callB call_lenA lc_len (by rfl) (Z.f 5 rfl) bt_len (da_cons (de_var 4 (pv 4)) da_nil)) de_int (by rfl)) (de_one (de_cmp op_isN l_is (de_callK0 (okk_tally_through_one_other Z) (hr.mono (by decide)) (by rfl) (dk_cons (de_var 9 (pv 9)) (dk_cons (de_var 4 (pv 4)) dk_nil))) de_non (by rfl))))))))))))))))))
theorem ok__law_sums_right (Z : ZZ P K mg base T) : FnD P w K mg base T "_law_sums_right" 16 ["_law_draw"] (dBody N__law_sums_right.length t__law_sums_right) := (okg__law_sums_right Z).fnD (Z.g 44 rfl) (fun _ _ _ _ _ _ us hl => match us, hl with | [_], _ => rfl)
theorem okk_choices_tally_size_part (Z : ZZ P K mg base T) : FnK P w K mg base T "choices_tally" 5 ["size", "part"] (dBody N_choices_tally.length t_choices_tally) 0 ["size", "part"] [0, 1] :=
  (okg_choices_tally Z).fnK (Z.g 26 rfl) (fun _ _ _ _ _ _ us ws h1 h2 => match us, ws, h1, h2 with | [], [_, _], _, _ => by rfl)
theorem okk_whole_tally_size (Z : ZZ P K mg base T) : FnK P w K mg base T "whole_tally" 4 ["size"] (dBody N_whole_tally.length t_whole_tally) 0 ["size"] [0] :=
  (okg_whole_tally Z).fnK (Z.g 24 rfl) (fun _ _ _ _ _ _ us ws h1 h2 => match us, ws, h1, h2 with | [], [_], _, _ => by rfl)
def t__law_rooms_right : TDS := (dSeq (dPar3 1 2 3 (dCons (dCall (dBody N__law_take.length t__law_take) 2 (dCons (dVar 0) (dCons (dC (.int 8)) dNil))) (dCons (dCall (dBody N__law_take.length t__law_take) 2 (dCons (dVar 0) (dCons (dC (.int 8)) dNil))) (dCons (dCall (dBody N__law_field.length t__law_field) 1 (dCons (dVar 0) dNil)) dNil))))
    (dSeq (dIfS (dOr (dTest (d2 neD (dCB reprX (dCons (dCallK (dBody N_whole_tally.length t_whole_tally) 1 0 1 [0] dNil (dCons (dVar 1) dNil)) dNil)) (dCB reprX (dCons (dCall (dBody N__law_ends.length t__law_ends) 1 (dCons (dVar 1) dNil)) dNil)))) (dTest (d2 neD (dCall (dBody N_tally_at.length t_tally_at) 2 (dCons (dCall (dBody N_whole_tally.length t_whole_tally) 1 (dCons (dVar 1) dNil)) (dCons (dVar 3) dNil))) (dCall (dBody N_count_whole.length t_count_whole) 2 (dCons (dVar 3) (dCons (dVar 1) dNil)))))) (dRet (dC (.bl false))) dNext)
    (dSeq (dIfS (dTest (d2 neD (dCB reprX (dCons (dCallK (dBody N_choices_tally.length t_choices_tally) 2 0 2 [0, 1] dNil (dCons (dVar 1) (dCons (dVar 2) dNil))) dNil)) (dCB reprX (dCons (dCall (dBody N__law_choices.length t__law_choices) 2 (dCons (dVar 1) (dCons (dVar 2) dNil))) dNil)))) (dRet (dC (.bl false))) dNext)
    (dRet (dAndV (d2 eqD (dCB lenD (dCons (dCall (dBody N_whole_tally.length t_whole_tally) 1 (dCons (dC (.int 12)) dNil)) dNil)) (dC (.int 145))) (dAndV (d2 eqD (dCall (dBody N_choices_tally.length t_choices_tally) 2 (dCons (dC (.int 12)) (dCons (dC (.int 12)) dNil))) (dTup (dCons (dC (.int 1)) dNil))) (d2 eqD (dCall (dBody N_choices_tally.length t_choices_tally) 2 (dCons (dC (.int 0)) (dCons (dC (.int 12)) dNil))) (dTup dNil))))))))
theorem okg__law_rooms_right (Z : ZZ P K mg base T) : FnB P w K mg base T d__law_rooms_right 6 ["_law_draw"] (dBody N__law_rooms_right.length t__law_rooms_right) :=
  Z.toZk.fnB 41 rfl rfl rfl sc__law_rooms_right fun cdv A outer s H E B hcd hT hr => by
    subst hT
    exact (dss_cons (ds_par3 (i := 1) (j := 2) (l := 3) rfl sc__law_rooms_right.nd rfl rfl rfl (by decide) (by decide) (by decide) rfl rfl rfl (da_cons (de_call (ok__law_take Z) (hr.mono (by decide)) (by rfl) (da_cons (de_var 0 (pv 0)) (da_cons de_int da_nil))) (da_cons (de_call (ok__law_take Z) (hr.mono (by decide)) (by rfl) (da_cons (de_var 0 (pv 0)) (da_cons de_int da_nil))) (da_cons (de_call (ok__law_field Z) (hr.mono (by decide)) (by rfl) (da_cons (de_var 0 (pv 0)) da_nil)) da_nil))) (by rfl))
    (dss_cons (ds_if (DWh.dt (dw_or (dt_cmp (op_neD hr.u64) l_ne (de_callB (call_reprX hr) (lc_reprX Z.sys) (by rfl) (Z.f 13 rfl) bt_repr (da_cons (de_callK0 (okk_whole_tally_size Z) (hr.mono (by decide)) (by rfl) (dk_cons (de_var 1 (pv 1)) dk_nil)) da_nil)) (de_callB (call_reprX hr) (lc_reprX Z.sys) (by rfl) (Z.f 13 rfl) bt_repr (da_cons (de_call (ok__law_ends Z) (hr.mono (by decide)) (by rfl) (da_cons (de_var 1 (pv 1)) da_nil)) da_nil)) (by rfl)) (dw_or1 (dt_cmp (op_neD hr.u64) l_ne (de_call (ok_tally_at Z) (hr.mono (by decide)) (by rfl) (da_cons (de_call (ok_whole_tally Z) (hr.mono (by decide)) (by rfl) (da_cons (de_var 1 (pv 1)) da_nil)) (da_cons (de_var 3 (pv 3)) da_nil))) (de_call (ok_count_whole Z) (hr.mono (by decide)) (by rfl) (da_cons (de_var 3 (pv 3)) (da_cons (de_var 1 (pv 1)) da_nil))) (by rfl))))) (dss_one (ds_ret de_bl)) dss_nil)
    (dss_cons (ds_if (dt_cmp (op_neD hr.u64) l_ne (de_callB (call_reprX hr) (lc_reprX Z.sys) (by rfl) (Z.f 13 rfl) bt_repr (da_cons (de_callK0 (okk_choices_tally_size_part Z) (hr.mono (by decide)) (by rfl) (dk_cons (de_var 1 (pv 1)) (dk_cons (de_var 2 (pv 2)) dk_nil))) da_nil)) (de_callB (call_reprX hr) (lc_reprX Z.sys) (by rfl) (Z.f 13 rfl) bt_repr (da_cons (de_call (ok__law_choices Z) (hr.mono (by decide)) (by rfl) (da_cons (de_var 1 (pv 1)) (da_cons (de_var 2 (pv 2)) da_nil))) da_nil)) (by rfl)) (dss_one (ds_ret de_bl)) dss_nil)
    (dss_one (ds_ret (de_and (de_cmp (op_eqD hr.u64) l_eq (de_callB call_lenA lc_len (by rfl) (Z.f 5 rfl) bt_len (da_cons (de_call (ok_whole_tally Z) (hr.mono (by decide)) (by rfl) (da_cons de_int da_nil)) da_nil)) de_int (by rfl)) (de_and (de_cmp (op_eqD hr.u64) l_eq (de_call (ok_choices_tally Z) (hr.mono (by decide)) (by rfl) (da_cons de_int (da_cons de_int da_nil))) (de_tup (da_cons de_int da_nil)) (by rfl)) (de_one (de_cmp (op_eqD hr.u64) l_eq (de_call (ok_choices_tally Z) (hr.mono (by decide)) (by rfl) (da_cons de_int (da_cons de_int da_nil))) (de_tup da_nil) (by rfl))))))))))
theorem ok__law_rooms_right (Z : ZZ P K mg base T) : FnD P w K mg base T "_law_rooms_right" 6 ["_law_draw"] (dBody N__law_rooms_right.length t__law_rooms_right) := (okg__law_rooms_right Z).fnD (Z.g 45 rfl) (fun _ _ _ _ _ _ us hl => match us, hl with | [_], _ => rfl)
theorem okk_is_tally_thing (Z : ZZ P K mg base T) : FnK P w K mg base T "is_tally" 2 ["thing"] (dBody N_is_tally.length t_is_tally) 0 ["thing"] [0] :=
  (okg_is_tally Z).fnK (Z.g 7 rfl) (fun _ _ _ _ _ _ us ws h1 h2 => match us, ws, h1, h2 with | [], [_], _, _ => by rfl)
def t__law_refused : TDS := (dSeq (dSet 1 (dLst (dCons (dC .non) (dCons (dC (.bl true)) (dCons (dC (.int 0)) (dCons (dC (.str "1")) (dCons (dLst dNil) (dCons (dLst (dCons (dC (.int 1)) dNil)) (dCons (dTup (dCons (dC (.int 0)) dNil)) (dCons (dTup (dCons (dC (.int 1)) (dCons (dC (.int 0)) dNil))) (dCons (dTup (dCons (dC (.bl true)) dNil)) (dCons (dTup (dCons (dC (.int 1)) (dCons (dC .non) dNil))) (dCons (dTup (dCons (dC (.str "1")) dNil)) (dCons (dTup (dCons (dTup (dCons (dC (.int 1)) dNil)) dNil)) (dCons (dFrz (f2 addF (dFrz (f2 mulG (dTup (dCons (dC (.int 0)) dNil)) (dC (.int 2000)))) (dTup (dCons (dC (.int 1)) dNil)))) (dCons (dFrz fDict0) dNil))))))))))))))))
    (dSeq (dSet 2 (dCall (dBody N__law_pick.length t__law_pick) 2 (dCons (dVar 0) (dCons (dVar 1) dNil))))
    (dSeq (dIfS (dOr (dTest (dCall (dBody N_is_tally.length t_is_tally) 1 (dCons (dVar 2) dNil))) (dOr (dNot (dTest (dCall (dBody N_is_tally.length t_is_tally) 1 (dCons (dTup dNil) dNil)))) (dNot (dTest (dCallK (dBody N_is_tally.length t_is_tally) 1 0 1 [0] dNil (dCons (dFrz (f2 addF (dFrz (f2 mulG (dTup (dCons (dC (.int 0)) dNil)) (dC (.int 1999)))) (dTup (dCons (d1 negD (dC (.int 1))) dNil)))) dNil)))))) (dRet (dC (.bl false))) dNext)
    (dSeq (dSet 3 (dLst (dCons (dFrz (f2 addF (dFrz (f2 mulG (dTup (dCons (dC (.int 0)) dNil)) (dC (.int 999)))) (dTup (dCons (dC (.int 1)) dNil)))) (dCons (dFrz (f2 addF (dFrz (f2 mulG (dTup (dCons (dC (.int 0)) dNil)) (dC (.int 1000)))) (dTup (dCons (dC (.int 1)) dNil)))) (dCons (dTup (dCons (dC (.int 0)) (dCons (dC (.int 1)) dNil))) dNil)))))
    (dSeq (dLams 4 (fun fl tb => (dNot (dTest (dPassL 4 wg__law_is_bad fl tb)))) [(dCall (dBody N_tally_at.length t_tally_at) 2 (dCons (dVar 2) (dCons (dC .non) dNil))), (dCall (dBody N_tally_sum.length t_tally_sum) 1 (dCons (dLst (dCons (dTup (dCons (dC (.int 1)) dNil)) (dCons (dVar 2) dNil))) dNil)), (dCall (dBody N_tally_product.length t_tally_product) 1 (dCons (dLst (dCons (dVar 2) dNil)) dNil)), (dCall (dBody N_tally_less.length t_tally_less) 2 (dCons (dTup dNil) (dCons (dVar 2) dNil))), (dCall (dBody N_tally_less.length t_tally_less) 2 (dCons (dVar 2) (dCons (dTup dNil) dNil))), (dCall (dBody N_tally_through.length t_tally_through) 2 (dCons (dVar 2) (dCons (dTup (dCons (dC (.int 1)) dNil)) dNil))), (dCall (dBody N_tally_through.length t_tally_through) 2 (dCons (dTup (dCons (dC (.int 1)) dNil)) (dCons (dVar 2) dNil))), (dCall (dBody N_tally_sum.length t_tally_sum) 1 (dCons (dC .non) dNil)), (dCall (dBody N_tally_product.length t_tally_product) 1 (dCons (dFrz fDict0) dNil)), (dCall (dBody N_tally_product.length t_tally_product) 1 (dCons (dVar 3) dNil))])
    (dSeq (dSet 5 (dCall (dBody N__law_pick.length t__law_pick) 2 (dCons (dVar 0) (dCons (dLst (dCons (dC .non) (dCons (dC (.bl true)) (dCons (d1 negD (dC (.int 1))) (dCons (dC (.int 13)) (dCons (dC (.str "1")) (dCons (dTup (dCons (dC (.int 1)) dNil)) (dCons (d2 powD (dC (.int 10)) (dC (.int 20))) dNil)))))))) dNil))))
    (dSeq (dSet 6 (dCall (dBody N__law_pick.length t__law_pick) 2 (dCons (dVar 0) (dCons (dLst (dCons (dC .non) (dCons (dC (.bl true)) (dCons (dC (.str "2")) (dCons (dTup (dCons (dC (.int 2)) dNil)) (dCons (dFrz (f2 addF (d2 powD (dC (.int 10)) (dC (.int 6))) (dC (.int 1)))) (dCons (d2 subD (d1 negD (dC (.int 1))) (d2 powD (dC (.int 10)) (dC (.int 6)))) dNil))))))) dNil))))
    (dSeq (dIfS (dTest (d2 neD (dCall (dBody N_tally_product.length t_tally_product) 1 (dCons (dFrz (f2 addF (dVar 3) (dLst (dCons (dTup dNil) dNil)))) dNil)) (dTup dNil))) (dRet (dC (.bl false))) dNext)
    (dSeq (dIfS (dOr (dTest (d2 neD (dLam wg__law_part (dCall (dBody N_whole_tally.length t_whole_tally) 1 (dCons (dVar 5) dNil))) (dC (.str "size")))) (dTest (d2 neD (dCB lenD (dCons (dCall (dBody N_tally_product.length t_tally_product) 1 (dCons (dFrz (fSlice (dVar 3) dNoPart (dPart (dC (.int 2))))) dNil)) dNil)) (dC (.int 2000))))) (dRet (dC (.bl false))) dNext)
    (dSeq (dIfS (dTest (d2 neD (dLam wg__law_part (dCall (dBody N_choices_tally.length t_choices_tally) 2 (dCons (dVar 5) (dCons (dVar 5) dNil)))) (dC (.str "size")))) (dRet (dC (.bl false))) dNext)
    (dSeq (dIfS (dTest (d2 neD (dLam wg__law_part (dCall (dBody N_choices_tally.length t_choices_tally) 2 (dCons (dC (.int 1)) (dCons (dVar 5) dNil)))) (dC (.str "part")))) (dRet (dC (.bl false))) dNext)
    (dRet (d2 eqD (dLam wg__law_part (dCall (dBody N_tally_at.length t_tally_at) 2 (dCons (dTup (dCons (dC (.int 1)) dNil)) (dCons (dVar 6) dNil)))) (dC (.str "number")))))))))))))))
theorem okg__law_refused (Z : ZZ P K mg base T) : FnB P w K mg base T d__law_refused 16 ["_law_draw"] (dBody N__law_refused.length t__law_refused) :=
  Z.toZk.fnB 42 rfl rfl rfl sc__law_refused fun cdv A outer s H E B hcd hT hr => by
    subst hT
    exact (dss_cons (ds_set sc__law_refused.nd (i := 1) rfl (by first | exact Or.inl rfl | exact Or.inr rfl) (de_lst (da_cons de_non (da_cons de_bl (da_cons de_int (da_cons de_str (da_cons (de_lst da_nil) (da_cons (de_lst (da_cons de_int da_nil)) (da_cons (de_tup (da_cons de_int da_nil)) (da_cons (de_tup (da_cons de_int (da_cons de_int da_nil))) (da_cons (de_tup (da_cons de_bl da_nil)) (da_cons (de_tup (da_cons de_int (da_cons de_non da_nil))) (da_cons (de_tup (da_cons de_str da_nil)) (da_cons (de_tup (da_cons (de_tup (da_cons de_int da_nil)) da_nil)) (da_cons (de_frz (df_add (de_frz (df_mulG (de_tup (da_cons de_int da_nil)) de_int)) (de_tup (da_cons de_int da_nil)))) (da_cons (de_frz df_dict0) da_nil))))))))))))))))
    (dss_cons (ds_set sc__law_refused.nd (i := 2) rfl (by first | exact Or.inl rfl | exact Or.inr rfl) (de_call (ok__law_pick Z) (hr.mono (by decide)) (by rfl) (da_cons (de_var 0 (pv 0)) (da_cons (de_var 1 (pv 1)) da_nil))))
    (dss_cons (ds_if (DWh.dt (dw_or (dt_val (de_call (ok_is_tally Z) (hr.mono (by decide)) (by rfl) (da_cons (de_var 2 (pv 2)) da_nil))) (dw_or (dt_not (dt_val (de_call (ok_is_tally Z) (hr.mono (by decide)) (by rfl) (da_cons (de_tup da_nil) da_nil)))) (dw_or1 (dt_not (dt_val (de_callK0 (okk_is_tally_thing Z) (hr.mono (by decide)) (by rfl) (dk_cons (de_frz (df_add (de_frz (df_mulG (de_tup (da_cons de_int da_nil)) de_int)) (de_tup (da_cons (de_neg de_int) da_nil)))) dk_nil)))))))) (dss_one (ds_ret de_bl)) dss_nil)
    (dss_cons (ds_set sc__law_refused.nd (i := 3) rfl (by first | exact Or.inl rfl | exact Or.inr rfl) (de_lst (da_cons (de_frz (df_add (de_frz (df_mulG (de_tup (da_cons de_int da_nil)) de_int)) (de_tup (da_cons de_int da_nil)))) (da_cons (de_frz (df_add (de_frz (df_mulG (de_tup (da_cons de_int da_nil)) de_int)) (de_tup (da_cons de_int da_nil)))) (da_cons (de_tup (da_cons de_int (da_cons de_int da_nil))) da_nil)))))
    (dss_cons (ds_lams (i := 4) (kc := 12) (passes_of rfl) rfl (Z.tb tq__law_refused tin__law_refused) hcd (Z.tm tq__law_refused tin__law_refused) (Z.tu tq__law_refused tin__law_refused) sc__law_refused.nd rfl (by first | exact Or.inl rfl | exact Or.inr rfl) (.cons ⟨_, _, _, _, rfl, LamX.lamS_by (by rfl), rfl, fun _ _ _ _ _ => rfl, fun f c2 A2 outer2 s2 H2 E2 B2 hT2 hr => by
      have Z := Z
      rw [← hT2] at Z
      exact (de_call (ok_tally_at Z) (hr.mono (by decide)) (by rfl) (da_cons (de_var 2 (pv 2)) (da_cons de_non da_nil)))⟩ (by rfl)
    (.cons ⟨_, _, _, _, rfl, LamX.lamS_by (by rfl), rfl, fun _ _ _ _ _ => rfl, fun f c2 A2 outer2 s2 H2 E2 B2 hT2 hr => by
      have Z := Z
      rw [← hT2] at Z
      exact (de_call (ok_tally_sum Z) (hr.mono (by decide)) (by rfl) (da_cons (de_lst (da_cons (de_tup (da_cons de_int da_nil)) (da_cons (de_var 2 (pv 2)) da_nil))) da_nil))⟩ (by rfl)
    (.cons ⟨_, _, _, _, rfl, LamX.lamS_by (by rfl), rfl, fun _ _ _ _ _ => rfl, fun f c2 A2 outer2 s2 H2 E2 B2 hT2 hr => by
      have Z := Z
      rw [← hT2] at Z
      exact (de_call (ok_tally_product Z) (hr.mono (by decide)) (by rfl) (da_cons (de_lst (da_cons (de_var 2 (pv 2)) da_nil)) da_nil))⟩ (by rfl)
    (.cons ⟨_, _, _, _, rfl, LamX.lamS_by (by rfl), rfl, fun _ _ _ _ _ => rfl, fun f c2 A2 outer2 s2 H2 E2 B2 hT2 hr => by
      have Z := Z
      rw [← hT2] at Z
      exact (de_call (ok_tally_less Z) (hr.mono (by decide)) (by rfl) (da_cons (de_tup da_nil) (da_cons (de_var 2 (pv 2)) da_nil)))⟩ (by rfl)
    (.cons ⟨_, _, _, _, rfl, LamX.lamS_by (by rfl), rfl, fun _ _ _ _ _ => rfl, fun f c2 A2 outer2 s2 H2 E2 B2 hT2 hr => by
      have Z := Z
      rw [← hT2] at Z
      exact (de_call (ok_tally_less Z) (hr.mono (by decide)) (by rfl) (da_cons (de_var 2 (pv 2)) (da_cons (de_tup da_nil) da_nil)))⟩ (by rfl)
    (.cons ⟨_, _, _, _, rfl, LamX.lamS_by (by rfl), rfl, fun _ _ _ _ _ => rfl, fun f c2 A2 outer2 s2 H2 E2 B2 hT2 hr => by
      have Z := Z
      rw [← hT2] at Z
      exact (de_call (ok_tally_through Z) (hr.mono (by decide)) (by rfl) (da_cons (de_var 2 (pv 2)) (da_cons (de_tup (da_cons de_int da_nil)) da_nil)))⟩ (by rfl)
    (.cons ⟨_, _, _, _, rfl, LamX.lamS_by (by rfl), rfl, fun _ _ _ _ _ => rfl, fun f c2 A2 outer2 s2 H2 E2 B2 hT2 hr => by
      have Z := Z
      rw [← hT2] at Z
      exact (de_call (ok_tally_through Z) (hr.mono (by decide)) (by rfl) (da_cons (de_tup (da_cons de_int da_nil)) (da_cons (de_var 2 (pv 2)) da_nil)))⟩ (by rfl)
    (.cons ⟨_, _, _, _, rfl, LamX.lamS_by (by rfl), rfl, fun _ _ _ _ _ => rfl, fun f c2 A2 outer2 s2 H2 E2 B2 hT2 hr => by
      have Z := Z
      rw [← hT2] at Z
      exact (de_call (ok_tally_sum Z) (hr.mono (by decide)) (by rfl) (da_cons de_non da_nil))⟩ (by rfl)
    (.cons ⟨_, _, _, _, rfl, LamX.lamS_by (by rfl), rfl, fun _ _ _ _ _ => rfl, fun f c2 A2 outer2 s2 H2 E2 B2 hT2 hr => by
      have Z := Z
      rw [← hT2] at Z
      exact (de_call (ok_tally_product Z) (hr.mono (by decide)) (by rfl) (da_cons (de_frz df_dict0) da_nil))⟩ (by rfl)
    (.cons ⟨_, _, _, _, rfl, LamX.lamS_by (by rfl), rfl, fun _ _ _ _ _ => rfl, fun f c2 A2 outer2 s2 H2 E2 B2 hT2 hr => by
      have Z := Z
      rw [← hT2] at Z
      exact (de_call (ok_tally_product Z) (hr.mono (by decide)) (by rfl) (da_cons (de_var 3 (pv 3)) da_nil))⟩ (by rfl)
    .nil)))))))))) (by decide) (fun fl tb pn B2 hT2 CN => by
      have Z := Z
      rw [← hT2] at Z
      exact (dt_not (dt_val (de_passL (okc__law_is_bad Z) CN (hr.mono (by decide)) (by rfl) (pv 4))))))
    (dss_cons (ds_set sc__law_refused.nd (i := 5) rfl (by first | exact Or.inl rfl | exact Or.inr rfl) (de_call (ok__law_pick Z) (hr.mono (by decide)) (by rfl) (da_cons (de_var 0 (pv 0)) (da_cons (de_lst (da_cons de_non (da_cons de_bl (da_cons (de_neg de_int) (da_cons de_int (da_cons de_str (da_cons (de_tup (da_cons de_int da_nil)) (da_cons (de_pow de_int de_int) da_nil)))))))) da_nil))))
    (dss_cons (ds_set sc__law_refused.nd (i := 6) rfl (by first | exact Or.inl rfl | exact Or.inr rfl) (de_call (ok__law_pick Z) (hr.mono (by decide)) (by rfl) (da_cons (de_var 0 (pv 0)) (da_cons (de_lst (da_cons de_non (da_cons de_bl (da_cons de_str (da_cons (de_tup (da_cons de_int da_nil)) (da_cons (de_frz (df_add (de_pow de_int de_int) de_int)) (da_cons (de_sub (de_neg de_int) (de_pow de_int de_int)) da_nil))))))) da_nil))))
    (dss_cons (ds_if (dt_cmp (op_neD hr.u64) l_ne (de_call (ok_tally_product Z) (hr.mono (by decide)) (by rfl) (da_cons (de_frz (df_add (de_var 3 (pv 3)) (de_lst (da_cons (de_tup da_nil) da_nil)))) da_nil)) (de_tup da_nil) (by rfl)) (dss_one (ds_ret de_bl)) dss_nil)
    (dss_cons (ds_if (DWh.dt (dw_or (dt_cmp (op_neD hr.u64) l_ne (de_lam (okc__law_part Z) (hr.mono (by decide)) (by rfl) (Z.tb tq__law_refused tin__law_refused) hcd (Z.tm tq__law_refused tin__law_refused) (Z.tu tq__law_refused tin__law_refused) (LamX.lamS_by (by rfl)) rfl (fun _ _ _ _ _ => rfl) (fun f c2 A2 outer2 s2 H2 E2 B2 hT2 hr => by
      have Z := Z
      rw [← hT2] at Z
      exact (de_call (ok_whole_tally Z) (hr.mono (by decide)) (by rfl) (da_cons (de_var 5 (pv 5)) da_nil)))) de_str (by rfl)) (dw_or1 (dt_cmp (op_neD hr.u64) l_ne (de_callB call_lenA lc_len (by rfl) (Z.f 5 rfl) bt_len (da_cons (de_call (ok_tally_product Z) (hr.mono (by decide)) (by rfl) (da_cons (de_frz (df_slice (de_var 3 (pv 3)) do_none (do_some de_int))) da_nil)) da_nil)) de_int (by rfl))))) (dss_one (ds_ret de_bl)) dss_nil)
    (dss_cons (ds_if (dt_cmp (op_neD hr.u64) l_ne (de_lam (okc__law_part Z) (hr.mono (by decide)) (by rfl) (Z.tb tq__law_refused tin__law_refused) hcd (Z.tm tq__law_refused tin__law_refused) (Z.tu tq__law_refused tin__law_refused) (LamX.lamS_by (by rfl)) rfl (fun _ _ _ _ _ => rfl) (fun f c2 A2 outer2 s2 H2 E2 B2 hT2 hr => by
      have Z := Z
      rw [← hT2] at Z
      exact (de_call (ok_choices_tally Z) (hr.mono (by decide)) (by rfl) (da_cons (de_var 5 (pv 5)) (da_cons (de_var 5 (pv 5)) da_nil))))) de_str (by rfl)) (dss_one (ds_ret de_bl)) dss_nil)
    (dss_cons (ds_if (dt_cmp (op_neD hr.u64) l_ne (de_lam (okc__law_part Z) (hr.mono (by decide)) (by rfl) (Z.tb tq__law_refused tin__law_refused) hcd (Z.tm tq__law_refused tin__law_refused) (Z.tu tq__law_refused tin__law_refused) (LamX.lamS_by (by rfl)) rfl (fun _ _ _ _ _ => rfl) (fun f c2 A2 outer2 s2 H2 E2 B2 hT2 hr => by
      have Z := Z
      rw [← hT2] at Z
      exact (de_call (ok_choices_tally Z) (hr.mono (by decide)) (by rfl) (da_cons de_int (da_cons (de_var 5 (pv 5)) da_nil))))) de_str (by rfl)) (dss_one (ds_ret de_bl)) dss_nil)
    (dss_one (ds_ret (de_cmp (op_eqD hr.u64) l_eq (de_lam (okc__law_part Z) (hr.mono (by decide)) (by rfl) (Z.tb tq__law_refused tin__law_refused) hcd (Z.tm tq__law_refused tin__law_refused) (Z.tu tq__law_refused tin__law_refused) (LamX.lamS_by (by rfl)) rfl (fun _ _ _ _ _ => rfl) (fun f c2 A2 outer2 s2 H2 E2 B2 hT2 hr => by
      have Z := Z
      rw [← hT2] at Z
      exact (de_call (ok_tally_at Z) (hr.mono (by decide)) (by rfl) (da_cons (de_tup (da_cons de_int da_nil)) (da_cons (de_var 6 (pv 6)) da_nil))))) de_str (by rfl)))))))))))))))
theorem ok__law_refused (Z : ZZ P K mg base T) : FnD P w K mg base T "_law_refused" 16 ["_law_draw"] (dBody N__law_refused.length t__law_refused) := (okg__law_refused Z).fnD (Z.g 46 rfl) (fun _ _ _ _ _ _ us hl => match us, hl with | [_], _ => rfl)
def t_law : TDS := (dSeq (dFor (dRange1 (dCons (dFrz (f2 addF (dC (.int 1)) (dCB minD (dCons (dCB lenD (dCons (dVar 0) dNil)) (dCons (dC (.int 5)) dNil))))) dNil)) (gN 2) (dIfS (dOr (dNot (dTest (dCall (dBody N__law_sums_right.length t__law_sums_right) 1 (dCons (dVar 1) dNil)))) (dOr (dNot (dTest (dCall (dBody N__law_rooms_right.length t__law_rooms_right) 1 (dCons (dVar 1) dNil)))) (dNot (dTest (dCall (dBody N__law_refused.length t__law_refused) 1 (dCons (dVar 1) dNil)))))) (dRet (dC (.bl false))) dNext))
    (dRet (dAndV (d2 eqD (dCall (dBody N_tally_sum.length t_tally_sum) 1 (dCons (dLst dNil) dNil)) (dTup dNil)) (dAndV (d2 eqD (dCall (dBody N_tally_product.length t_tally_product) 1 (dCons (dLst dNil) dNil)) (dTup (dCons (dC (.int 1)) dNil))) (d2 eqD (dCall (dBody N_tally_product.length t_tally_product) 1 (dCons (dLst (dCons (dTup (dCons (dC (.int 1)) (dCons (dC (.int 1)) dNil))) (dCons (dTup dNil) dNil))) dNil)) (dTup dNil))))))
theorem ok_law_rest (Z : ZZ P K mg base T) (cdv : Value) (A : Around) (outer : List PySem.Env) (s : Shared) (H : Hp) (E : XK) (B : Base) (hcd : cdv = .ref (codeAt K (He.ga K "law"))) (hT : B.T = T) (hr : Rm 16 (A.deeper (envOfC "law" d_law.scope s.heap.objs.size (He.ga K "law") cdv))) : DSs (cxOf (L2.CX P w) P w K mg base N_law "law" d_law.scope (He.ga K "law") cdv A outer s H E) B ((defBody s_law).drop 1) t_law := by
    subst hT
    exact (dss_cons (ds_for (passes_of rfl) rfl (di_range1 (by rfl) (Z.f 12 rfl) (da_cons (de_frz (df_add de_int (de_callB (call_minA (by rfl)) lc_min (by rfl) (Z.f 14 rfl) bt_min (da_cons (de_callB call_lenA lc_len (by rfl) (Z.f 5 rfl) bt_len (da_cons (de_var 0 (pv 0)) da_nil)) (da_cons de_int da_nil))))) da_nil)) (dg_name (i := 2) sc_law.nd rfl (by first | exact Or.inl rfl | exact Or.inr rfl)) (dss_one (ds_if (DWh.dt (dw_or (dt_not (dt_val (de_call (ok__law_sums_right Z) (hr.mono (by decide)) (by rfl) (da_cons (de_var 1 (pv 1)) da_nil)))) (dw_or (dt_not (dt_val (de_call (ok__law_rooms_right Z) (hr.mono (by decide)) (by rfl) (da_cons (de_var 1 (pv 1)) da_nil)))) (dw_or1 (dt_not (dt_val (de_call (ok__law_refused Z) (hr.mono (by decide)) (by rfl) (da_cons (de_var 1 (pv 1)) da_nil)))))))) (dss_one (ds_ret de_bl)) dss_nil)))
    (dss_one (ds_ret (de_and (de_cmp (op_eqD hr.u64) l_eq (de_call (ok_tally_sum Z) (hr.mono (by decide)) (by rfl) (da_cons (de_lst da_nil) da_nil)) (de_tup da_nil) (by rfl)) (de_and (de_cmp (op_eqD hr.u64) l_eq (de_call (ok_tally_product Z) (hr.mono (by decide)) (by rfl) (da_cons (de_lst da_nil) da_nil)) (de_tup (da_cons de_int da_nil)) (by rfl)) (de_one (de_cmp (op_eqD hr.u64) l_eq (de_call (ok_tally_product Z) (hr.mono (by decide)) (by rfl) (da_cons (de_lst (da_cons (de_tup (da_cons de_int (da_cons de_int da_nil))) (da_cons (de_tup da_nil) da_nil))) da_nil)) (de_tup da_nil) (by rfl))))))))
theorem okb (Z : ZZ P K mg base T) : ∃ fd, FunD K d__law_begun.name d__law_begun.qual d__law_begun.params d__law_begun.body d__law_begun.scope [] [] (He.ga K "_law_begun") fd ∧ FnG P w K mg base 2 (He.ga K "_law_begun") fd ["_law_script"] (spBegun K T) := by
  obtain ⟨fd, F⟩ := Z.toZk.fd (d := d__law_begun) 44 rfl rfl
  refine ⟨fd, F, begun_ok F sc__law_begun rfl (by decide) (by decide) (fun cdv A outer s H E B hT hr => ?_) (fun cdv A outer s H E B hT hr => ?_)⟩
  · subst hT
    exact (ds_comp (i := 1) (own := [("_law_grain", 2)]) rfl sc__law_begun.nd rfl rfl (sw_true rfl rfl rfl (by decide +kernel)) (di_seq (de_var 0 (pv 0))) (blkOk_by (by rfl)) (fun _ _ _ _ _ => (dg_name (i := 2) sc__law_begun.nd rfl (by first | exact Or.inl rfl | exact Or.inr rfl))) (fun _ _ _ _ _ => (dts_one (dt_cmp op_ge l_ge (de_callB call_abs lc_abs (by rfl) (Z.f 15 rfl) bt_abs (da_cons (de_var 2 (pv 2)) da_nil)) (de_pow de_int de_int) (by rfl)))) (fun _ _ _ _ _ => (de_sub (de_callB call_abs lc_abs (by rfl) (Z.f 15 rfl) bt_abs (da_cons (de_var 2 (pv 2)) da_nil)) (de_pow de_int de_int))))
  · subst hT
    exact (df_comp (own := [("_law_grain", 2)]) rfl sc__law_begun.nd (di_seq (de_var 0 (pv 0))) (blkOk_by (by rfl)) (fun _ _ _ _ _ => (dg_name (i := 2) sc__law_begun.nd rfl (by first | exact Or.inl rfl | exact Or.inr rfl))) (fun _ _ _ _ _ => dts_nil) (fun _ _ _ _ _ => (de_callB call_abs lc_abs (by rfl) (Z.f 15 rfl) bt_abs (da_cons (de_var 2 (pv 2)) da_nil))))
theorem bb_law : BindsD d_law ["_law_script"] := (fun _ _ _ _ _ _ us hl => match us, hl with | [_], _ => rfl)
theorem ok_law (Z : ZZ P K mg base T) (hwp : ∀ ms : List Int, ms.length ≤ 63 → t_law (fun _ => False) { nx := fun _ => False, rt := fun d => d = .bl true } (some (.sh (.kls (ms.map D.int))) :: some (.sh .drw) :: List.replicate (N_law.drop 2).length none)) :
    ∃ fd, FunD K d_law.name d_law.qual d_law.params d_law.body d_law.scope [] [] (He.ga K "law") fd ∧ FnG P w K mg base 17 (He.ga K "law") fd ["_law_script"] (spLaw K T) := by
  obtain ⟨fb, Fb, GB⟩ := okb Z
  obtain ⟨fd, F⟩ := Z.toZk.fd (d := d_law) 43 rfl rfl
  have bb := FunD.bindsA (ps := ["_law_script"]) Fb (fun _ _ _ _ _ _ us hl => match us, hl with | [_], _ => rfl)
  exact ⟨fd, F, law_ok (k := 16) F sc_law (GB.up (by decide)) (Z.g 48 rfl) Fb.kp (fun s u => bb s [u] rfl) rfl (.inl rfl) (.inl rfl) (by decide) (by decide) (by decide) (by intro _; rfl) (fun cdv A outer s H E B hcd hT hr => ok_law_rest Z cdv A outer s H E B hcd hT hr) hwp⟩
end
end K74

namespace K74
open PySem PySem.Spec L2 DL He
open PyProof.Rows hiding St
abbrev RW := PySem.Challenge.rw_boughwebs_k74_tallies_by_their_numbers
def more : List (PySem.W.Frag → Bool) := [suB RW.prog.main.file "BadNumber" "part", exfB "BadPrime", exfB "BadTally", tupB "PRIMES" [2, 3, 5, 7, 11, 13, 17, 19, 23, 29, 31, 37, 41, 43, 47, 53, 59, 61, 67, 71, 73, 79, 83, 89, 97]]
abbrev R : PySem.W.OpenRow := PySem.W.OpenLaw.row RW
abbrev chk : List (PySem.W.Frag → Bool) := chkOf C tfs "WebError" cs ++ more
abbrev hk : PySem.W.Hook := hookY 6 C.fns (tfs.map (·.1)) chk
def ob (s : PySem.W.SharedT) : AlY := obsY 6 C.fns (tfs.map (·.1)) chk (HandSHeadRun.getT s)
theorem ob_eq (s : PySem.W.SharedT) : ob s = hk.obs s.abs := obsY_eq (HandSHeadRun.getT_eq s)
def loose : List Str := [("__name__" : Str), ("WebError" : Str), ("BadPrime" : Str), ("BadNumber" : Str), ("BadTally" : Str), ("PRIMES" : Str), ("MOST_SIDE" : Str), ("is_number" : Str), ("is_between" : Str), ("is_list" : Str), ("is_prime" : Str), ("need_prime" : Str), ("MOST_ITEMS" : Str), ("MOST_TALLIED" : Str), ("MOST_ASKED" : Str), ("is_tally" : Str), ("need_tally" : Str), ("need_tallies" : Str), ("cut_noughts" : Str), ("value_at" : Str), ("tally_at" : Str), ("tally_plus" : Str), ("tally_times" : Str), ("raised_tally" : Str), ("tally_sum" : Str), ("tally_product" : Str), ("tally_less" : Str), ("quotient_of" : Str), ("tally_through" : Str), ("whole_of_size" : Str), ("whole_tally" : Str), ("choices_of" : Str), ("choices_tally" : Str), ("count_whole" : Str), ("_law_begun" : Str), ("_law_mixed" : Str), ("_law_take" : Str), ("_law_pick" : Str), ("_law_field" : Str), ("_law_caught" : Str), ("_law_cut" : Str), ("_law_poly_sum" : Str), ("_law_poly_product" : Str), ("_law_power" : Str), ("_law_worth" : Str), ("_law_ends" : Str), ("_law_choices" : Str), ("_law_tally" : Str), ("_law_is_bad" : Str), ("_law_part" : Str), ("_law_sums_right" : Str), ("_law_rooms_right" : Str), ("_law_refused" : Str)]
theorem run (w : World) : HandSHeadRun.RunEq R (PySem.W.view R.prog [57]) hk ob 20000 loose w := by
  intro os
  kernel_rfl
end K74

namespace K74
open PySem PySem.Spec L2 DL He
open PyProof.Rows hiding St
abbrev HWP : Prop := ∀ ms : List Int, ms.length ≤ 63 → t_law (fun _ => False) { nx := fun _ => False, rt := fun d => d = .bl true } (some (.sh (.kls (ms.map D.int))) :: some (.sh .drw) :: List.replicate (N_law.drop 2).length none)
section
variable {K : PySem.W.Frag} {mg : Str → Option Value} {h : Heap}
theorem atOk (c : SaysY C.fns (tfs.map (·.1)) chk h K) : AtOk K C.tab := by
  have ha : ∀ e ∈ C.tab, atB e K = true := all_ok (c.chk (fun K => C.tab.all fun e => atB e K) (by simp [chk, chkOf]))
  refine atOk_of ha fun x f g hm => ?_
  simp [C] at hm
theorem su_BadNumber (c : SaysY C.fns (tfs.map (·.1)) chk h K) : SuE RW.prog K b_BadNumber "BadNumber" := by
  obtain ⟨fd, z⟩ := suB_ok (P := RW.prog) (b := b_BadNumber) (x := "BadNumber") (d := d_BadNumber_init) (c.chk (suB RW.prog.main.file "BadNumber" "part") (by simp [chk, more])) (c.fns d_BadNumber_init (by simp [C])).1 (c.fns d_BadNumber_init (by simp [C])).2 rfl rfl rfl (by decide +kernel) rfl rfl rfl rfl rfl rfl rfl rfl rfl rfl (by decide) (by decide) ⟨_, fun _ => rfl⟩ (fun _ _ _ _ _ _ _ _ _ => rfl)
  exact ⟨_, fd, z, suK_kw z (c.fns d_BadNumber_init (by simp [C])).1 (c.fns d_BadNumber_init (by simp [C])).2 (fun _ _ _ _ _ _ _ _ _ => rfl)⟩
theorem funD_same {x q : Str} {ps : Arguments} {b : List Stmt} {sc : Scope} {f : Addr} {fd fd' : FuncData} (F : FunD K x q ps b sc [] [] f fd) (F' : FunD K x q ps b sc [] [] f fd') : fd' = fd := by
  obtain ⟨oc, od, dV, kV, doc, pm, an, cdv, ct, osl, e, lk, _⟩ := F.ex
  obtain ⟨oc', od', dV', kV', doc', pm', an', cdv', ct', osl', e', lk', _⟩ := F'.ex
  have z := lk.symm.trans lk'
  simp only [Option.some.injEq, Obj.mk.injEq] at z
  exact Data.func.inj z.2.2.1.symm
theorem facts {w : World} {fa : Addr} (hwp : HWP) (X : K.In h) (G : h.Ns mainGlobals mg) (hfa : mg ("law" : Str) = some (.ref fa)) (c : SaysY C.fns (tfs.map (·.1)) chk h K) :
    ∃ (K : PySem.W.Frag) (fd : FuncData) (cs : List (Addr × Addr)) (T : List (Addr × Str)), K.In h ∧ (∀ p ∈ cs, h.get? p.2 = some { cls := .none, data := .fields #[] }) ∧ (∀ p ∈ cs, K.lookup p.2 = none) ∧ (∀ p ∈ cs, PySem.W.CodeHd h p.1 p.2) ∧ (∀ q ∈ T, ∃ p ∈ cs, p.2 = q.1) ∧
        (∀ (s : Shared) (u : Value), BindsTo s fd ⟨[u], []⟩ [(("_law_script" : Str), u)]) ∧ ∀ base : Heap, K.In base → base.Ns mainGlobals mg → (∀ p ∈ cs, LamX.TabB base mg p.1 p.2) → FnG RW.prog w K mg base 17 fa fd ["_law_script"] (spLaw K T) := by
  have e : fa = He.ga K "law" := by
    have z := hfa.symm.trans (He.glo_ok X G (all_ok (c.chk (fun K => C.glos.all fun x => (Fa.glo x).ok K) (by simp [chk, chkOf])) "law" (by simp [C])))
    cases z; rfl
  subst e
  obtain ⟨fd, F⟩ := FnA.funD (d := d_law) (c.fns d_law (by simp [C])).1 (c.fns d_law (by simp [C])).2 rfl
  refine ⟨K, fd, tfs.map (fun q => cTY K q.1), tfs.map (fun q => ((cTY K q.1).2, q.2)), X, fun p hp => ?_, fun p hp => ?_, fun p hp => ?_, fun q hq => ?_, fun s u => FunD.bindsA (ps := ["_law_script"]) F bb_law s [u] rfl, fun base _ hb tb => ?_⟩
  · obtain ⟨q, hq, rfl⟩ := List.mem_map.mp hp
    exact c.empty q.1 (List.mem_map.mpr ⟨q, hq, rfl⟩)
  · obtain ⟨q, hq, rfl⟩ := List.mem_map.mp hp
    exact c.out q.1 (List.mem_map.mpr ⟨q, hq, rfl⟩)
  · obtain ⟨q, hq, rfl⟩ := List.mem_map.mp hp
    exact PySem.W.codeHd_of_K X (c.hd q.1 (List.mem_map.mpr ⟨q, hq, rfl⟩))
  · obtain ⟨r, hr, rfl⟩ := List.mem_map.mp hq
    exact ⟨_, List.mem_map.mpr ⟨r, hr, rfl⟩, rfl⟩
  · have Z : ZZ RW.prog K mg base (tfs.map (fun q => ((cTY K q.1).2, q.2))) := { toZl := zl_of X G c (atOk c) tb, su_BadNumber := su_BadNumber c, ef_BadPrime := exfB_ok (c.chk (exfB "BadPrime") (by simp [chk, more])), ef_BadTally := exfB_ok (c.chk (exfB "BadTally") (by simp [chk, more])), tp_PRIMES := tupB_ok (c.chk (tupB "PRIMES" [2, 3, 5, 7, 11, 13, 17, 19, 23, 29, 31, 37, 41, 43, 47, 53, 59, 61, 67, 71, 73, 79, 83, 89, 97]) (by simp [chk, more])) }
    obtain ⟨fd', F', g⟩ := ok_law (w := w) Z hwp
    have : fd' = fd := funD_same F F'
    subst this
    exact g
end
end K74
section
open PySem PySem.W PySem.Calls PyProof.Rows
theorem k74_of (hwp : K74.HWP) : PySem.Challenge.rw_boughwebs_k74_tallies_by_their_numbers.Holds := by
  w_on; o_law
  refine HandSHeadRun.head_any (r := OpenLaw.row PySem.Challenge.rw_boughwebs_k74_tallies_by_their_numbers) (q := view (OpenLaw.row PySem.Challenge.rw_boughwebs_k74_tallies_by_their_numbers).prog [57]) (H := K74.hk) (ob := K74.ob) (M := 20000) (loose := K74.loose) (d := HandSHeadRun.topDef (OpenLaw.row PySem.Challenge.rw_boughwebs_k74_tallies_by_their_numbers).prog 57) (kwd := []) K74.ob_eq
    (by kernel_rfl) (fun s => by kernel_rfl) K74.run (by kernel_rfl) (by kernel_rfl) (by kernel_rfl) (by rfl) (by first | assumption | decide +kernel) (by decide +kernel) ⟨rfl, rfl, rfl, rfl, rfl, by decide +kernel⟩ ?hw ?hc
  case hw => w_witness2
  case hc =>
    refine DL.walk_end (l := PySem.Challenge.rw_boughwebs_k74_tallies_by_their_numbers) (k := 17) (x := "_law_script") rfl (by kernel_rfl) ⟨⟨rfl, by decide, by decide⟩, rfl⟩ ?F
    intro w mg fa h Y G hmg0
    obtain ⟨K, KX, c⟩ := Y
    have hmg : mg ("law" : PySem.Str) = some (.ref fa) := by
      have e : (HandSHeadRun.topDef (OpenLaw.row PySem.Challenge.rw_boughwebs_k74_tallies_by_their_numbers).prog 57).name = ("law" : PySem.Str) := by kernel_rfl
      rw [← e]
      exact hmg0
    exact K74.facts hwp KX G hmg c
end

/-! Rows of ints as polynomials: plain mathematics. -/
namespace K74
def co (l : List Int) (i : Nat) : Int := (l[i]?).getD 0
theorem co_lt {l : List Int} {i : Nat} (h : i < l.length) : co l i = l[i] := by unfold co; rw [List.getElem?_eq_getElem h]; rfl
theorem co_ge {l : List Int} {i : Nat} (h : l.length ≤ i) : co l i = 0 := by unfold co; rw [List.getElem?_eq_none h]; rfl
theorem co_nil (i : Nat) : co [] i = 0 := co_ge (Nat.zero_le _)
theorem co_cons0 {x : Int} {l : List Int} : co (x :: l) 0 = x := rfl
theorem co_consS {x : Int} {l : List Int} {i : Nat} : co (x :: l) (i + 1) = co l i := by unfold co; rw [List.getElem?_cons_succ]
theorem co_ext : ∀ {a b : List Int}, a.length = b.length → (∀ i, co a i = co b i) → a = b
  | [], [], _, _ => rfl
  | [], _ :: _, h, _ => by cases h
  | _ :: _, [], h, _ => by cases h
  | x :: a, y :: b, h, e => by
    have e0 := e 0
    rw [co_cons0, co_cons0] at e0
    rw [e0, co_ext (a := a) (b := b) (by simpa using h) fun i => by have z := e (i + 1); rwa [co_consS, co_consS] at z]
theorem co_set {l : List Int} {k i : Nat} {v : Int} (h : k < l.length) : co (l.set k v) i = if i = k then v else co l i := by
  unfold co
  by_cases e : i = k
  · subst e; rw [List.getElem?_set_self h, if_pos rfl]; rfl
  · rw [List.getElem?_set_ne (Ne.symm e), if_neg e]
theorem co_rep {n i : Nat} : co (List.replicate n 0) i = 0 := by
  unfold co
  rw [List.getElem?_replicate]
  by_cases h : i < n
  · rw [if_pos h]; rfl
  · rw [if_neg h]; rfl
theorem co_app {a b : List Int} {i : Nat} : co (a ++ b) i = if i < a.length then co a i else co b (i - a.length) := by
  unfold co
  by_cases h : i < a.length
  · rw [List.getElem?_append_left h, if_pos h]
  · rw [List.getElem?_append_right (by omega), if_neg h]
theorem co_take {l : List Int} {n i : Nat} : co (l.take n) i = if i < n then co l i else 0 := by
  unfold co
  rw [List.getElem?_take]
  by_cases h : i < n
  · rw [if_pos h, if_pos h]
  · rw [if_neg h, if_neg h]; rfl
/-! ### without the noughts at the end -/
def cutN (l : List Int) : Nat → Nat
  | 0 => 0
  | n + 1 => if co l n = 0 then cutN l n else n + 1
def cut (l : List Int) : List Int := l.take (cutN l l.length)
def Ct (l : List Int) : Prop := cutN l l.length = l.length
instance (l : List Int) : Decidable (Ct l) := by unfold Ct; infer_instance
theorem cutN_le (l : List Int) : ∀ n, cutN l n ≤ n
  | 0 => Nat.le_refl _
  | n + 1 => by
    unfold cutN
    by_cases h : co l n = 0
    · rw [if_pos h]; exact Nat.le_succ_of_le (cutN_le l n)
    · rw [if_neg h]; exact Nat.le_refl _
theorem cutN_zero (l : List Int) : ∀ n i, cutN l n ≤ i → i < n → co l i = 0
  | 0, i, _, h => absurd h (Nat.not_lt_zero _)
  | n + 1, i, h1, h2 => by
    unfold cutN at h1
    by_cases h : co l n = 0
    · rw [if_pos h] at h1
      by_cases e : i = n
      · rw [e]; exact h
      · exact cutN_zero l n i h1 (by omega)
    · rw [if_neg h] at h1; omega
theorem cutN_last (l : List Int) : ∀ n m, cutN l n = m + 1 → co l m ≠ 0
  | 0, m, h => by cases h
  | n + 1, m, h => by
    unfold cutN at h
    by_cases e : co l n = 0
    · rw [if_pos e] at h; exact cutN_last l n m h
    · rw [if_neg e] at h
      have : n = m := by omega
      rw [← this]; exact e
theorem cutN_full {l : List Int} {n : Nat} (h : n = 0 ∨ co l (n - 1) ≠ 0) : cutN l n = n := by
  cases n with
  | zero => rfl
  | succ n =>
    unfold cutN
    rcases h with h | h
    · cases h
    · rw [if_neg (by simpa using h)]
theorem ct_iff {l : List Int} : Ct l ↔ l = [] ∨ co l (l.length - 1) ≠ 0 := by
  constructor
  · intro h
    cases e : l with
    | nil => exact .inl rfl
    | cons x r =>
      refine .inr ?_
      rw [← e]
      have hl : l.length = r.length + 1 := by rw [e]; rfl
      have z := cutN_last l l.length r.length (h.trans hl)
      rw [hl]; exact z
  · intro h
    refine cutN_full ?_
    rcases h with h | h
    · left; rw [h]; rfl
    · exact .inr h
theorem len_cut (l : List Int) : (cut l).length = cutN l l.length := by
  unfold cut
  rw [List.length_take]
  exact Nat.min_eq_left (cutN_le l _)
theorem co_cut (l : List Int) (i : Nat) : co (cut l) i = co l i := by
  unfold cut
  rw [co_take]
  by_cases h : i < cutN l l.length
  · rw [if_pos h]
  · rw [if_neg h]
    by_cases h2 : i < l.length
    · exact (cutN_zero l _ i (by omega) h2).symm
    · exact (co_ge (by omega)).symm
theorem ct_cut (l : List Int) : Ct (cut l) := by
  rw [ct_iff]
  cases e : cutN l l.length with
  | zero =>
    left
    have := len_cut l
    rw [e] at this
    exact List.eq_nil_of_length_eq_zero this
  | succ m =>
    right
    rw [co_cut, len_cut, e]
    exact cutN_last l _ m e
theorem ct_len {a b : List Int} (ha : Ct a) (h : ∀ i, co a i = co b i) : a.length ≤ b.length := by
  rcases ct_iff.mp ha with rfl | z
  · exact Nat.zero_le _
  · refine Decidable.byContradiction fun n => z ?_
    rw [h]
    exact co_ge (by omega)
theorem ct_ext {a b : List Int} (ha : Ct a) (hb : Ct b) (h : ∀ i, co a i = co b i) : a = b := co_ext (Nat.le_antisymm (ct_len ha h) (ct_len hb fun i => (h i).symm)) h
theorem cut_eq {a b : List Int} (h : ∀ i, co a i = co b i) : cut a = cut b := ct_ext (ct_cut a) (ct_cut b) fun i => by rw [co_cut, co_cut, h]
theorem cut_ct {a : List Int} (h : Ct a) : cut a = a := ct_ext (ct_cut a) h fun i => co_cut a i
theorem cut_len {l : List Int} {m : Nat} (h : co l m ≠ 0) (z : ∀ i, m < i → co l i = 0) : (cut l).length = m + 1 := by
  have h1 : m < (cut l).length := Decidable.byContradiction fun n => h (by rw [← co_cut]; exact co_ge (by omega))
  refine Nat.le_antisymm (Decidable.byContradiction fun n => ?_) h1
  rcases ct_iff.mp (ct_cut l) with e | e
  · rw [e] at h1; exact absurd h1 (Nat.not_lt_zero _)
  · rw [co_cut] at e
    exact e (z _ (by omega))
/-! ### a row put to another one -/
def addRow (l : List Int) (c : Int) (off : Nat) : List Int → List Int
  | [] => l
  | x :: r => addRow (l.set off (co l off + c * x)) c (off + 1) r
theorem len_addRow (c : Int) : ∀ (r l : List Int) (off : Nat), (addRow l c off r).length = l.length
  | [], _, _ => rfl
  | x :: r, l, off => by
    unfold addRow
    rw [len_addRow c r, List.length_set]
theorem co_addRow (c : Int) : ∀ (r l : List Int) (off i : Nat), off + r.length ≤ l.length → co (addRow l c off r) i = co l i + if off ≤ i then c * co r (i - off) else 0
  | [], l, off, i, _ => by
    unfold addRow
    rw [co_nil, Int.mul_zero, ite_self, Int.add_zero]
  | x :: r, l, off, i, h => by
    rw [List.length_cons] at h
    unfold addRow
    rw [co_addRow c r _ (off + 1) i (by rw [List.length_set]; omega), co_set (by omega)]
    by_cases e : i = off
    · subst e
      rw [if_pos rfl, if_neg (by omega), if_pos (Nat.le_refl _), Nat.sub_self, co_cons0, Int.add_zero]
    · rw [if_neg e]
      by_cases e2 : off ≤ i
      · have e3 : i - off = (i - (off + 1)) + 1 := by omega
        rw [if_pos e2, if_pos (by omega), e3, co_consS]
      · rw [if_neg e2, if_neg (by omega)]
theorem addRow_zero {l r : List Int} {off : Nat} (h : off + r.length ≤ l.length) : addRow l 0 off r = l := co_ext (len_addRow 0 r l off) fun i => by
  rw [co_addRow 0 r l off i h, Int.zero_mul, ite_self, Int.add_zero]
/-! ### products -/
def mulP : List Int → List Int → Nat → Int
  | [], _, _ => 0
  | x :: a, b, i => x * co b i + match i with
    | 0 => 0
    | i + 1 => mulP a b i
def mulRows (acc : List Int) (k : Nat) (b : List Int) : List Int → List Int
  | [] => acc
  | x :: a => mulRows (addRow acc x k b) (k + 1) b a
theorem len_mulRows (b : List Int) : ∀ (a acc : List Int) (k : Nat), (mulRows acc k b a).length = acc.length
  | [], _, _ => rfl
  | x :: a, acc, k => by
    unfold mulRows
    rw [len_mulRows b a, len_addRow]
theorem co_mulRows (b : List Int) : ∀ (a acc : List Int) (k i : Nat), k + a.length + b.length ≤ acc.length → co (mulRows acc k b a) i = co acc i + if k ≤ i then mulP a b (i - k) else 0
  | [], acc, k, i, _ => by
    unfold mulRows mulP
    rw [ite_self, Int.add_zero]
  | x :: a, acc, k, i, h => by
    rw [List.length_cons] at h
    unfold mulRows
    rw [co_mulRows b a _ (k + 1) i (by rw [len_addRow]; omega), co_addRow x b acc k i (by omega)]
    by_cases e : k ≤ i
    · rw [if_pos e, if_pos e]
      by_cases e2 : i = k
      · subst e2
        rw [Nat.sub_self, if_neg (by omega), mulP, Int.add_zero, Int.add_zero]
      · have e3 : i - k = (i - (k + 1)) + 1 := by omega
        rw [if_pos (by omega), e3, mulP, Int.add_assoc]
    · rw [if_neg e, if_neg e, if_neg (by omega), Int.add_zero, Int.add_zero]
def times (a b : List Int) : List Int := cut (mulRows (List.replicate (a.length + b.length) 0) 0 b a)
theorem co_times (a b : List Int) (i : Nat) : co (times a b) i = mulP a b i := by
  unfold times
  rw [co_cut, co_mulRows b a _ 0 i (by simp), co_rep, if_pos (Nat.zero_le _), Nat.sub_zero, Int.zero_add]
theorem mulP_snoc (b : List Int) (x : Int) : ∀ (a : List Int) (i : Nat), mulP (a ++ [x]) b i = mulP a b i + if a.length ≤ i then x * co b (i - a.length) else 0
  | [], i => by
    show x * co b i + _ = 0 + if 0 ≤ i then x * co b (i - 0) else 0
    rw [if_pos (Nat.zero_le _), Nat.sub_zero, Int.zero_add]
    cases i with
    | zero => exact Int.add_zero _
    | succ i => exact Int.add_zero _
  | y :: a, 0 => by
    show y * co b 0 + 0 = (y * co b 0 + 0) + _
    rw [if_neg (by simp)]
    omega
  | y :: a, i + 1 => by
    show y * co b (i + 1) + mulP (a ++ [x]) b i = (y * co b (i + 1) + mulP a b i) + _
    rw [mulP_snoc b x a i, List.length_cons, Int.add_assoc]
    by_cases h : a.length ≤ i
    · rw [if_pos h, if_pos (by omega), Nat.add_sub_add_right]
    · rw [if_neg h, if_neg (by omega)]
theorem mulP_ge (b : List Int) : ∀ (a : List Int) (i : Nat), a.length + b.length ≤ i + 1 → mulP a b i = 0
  | [], _, _ => rfl
  | x :: a, i, h => by
    rw [List.length_cons] at h
    cases i with
    | zero =>
      show x * co b 0 + 0 = 0
      rw [co_ge (by omega)]; omega
    | succ i =>
      show x * co b (i + 1) + mulP a b i = 0
      rw [co_ge (by omega), mulP_ge b a i (by omega)]; omega
theorem mulP_nil (b : List Int) : ∀ (a : List Int) (i : Nat), b = [] → mulP a b i = 0
  | [], _, _ => rfl
  | x :: a, i, h => by
    subst h
    cases i with
    | zero =>
      show x * co [] 0 + 0 = 0
      rw [co_nil]; omega
    | succ i =>
      show x * co [] (i + 1) + mulP a [] i = 0
      rw [co_nil, mulP_nil [] a i rfl]; omega
/-- the last number of a product -/
theorem mulP_lead (b : List Int) : ∀ (a : List Int), a ≠ [] → b ≠ [] → mulP a b (a.length + b.length - 2) = co a (a.length - 1) * co b (b.length - 1)
  | [], h, _ => absurd rfl h
  | [x], _, hb => by
    have : b.length ≠ 0 := fun z => hb (List.eq_nil_of_length_eq_zero z)
    have e : [x].length + b.length - 2 = b.length - 1 := by simp; omega
    rw [e]
    cases q : b.length - 1 with
    | zero => show x * co b 0 + 0 = x * co b 0; omega
    | succ n => show x * co b (n + 1) + 0 = x * co b (n + 1); omega
  | x :: y :: a, _, hb => by
    have h0 : b.length ≠ 0 := fun z => hb (List.eq_nil_of_length_eq_zero z)
    have ih := mulP_lead b (y :: a) (by simp) hb
    have e : (x :: y :: a).length + b.length - 2 = ((y :: a).length + b.length - 2) + 1 := by simp only [List.length_cons]; omega
    rw [e]
    show x * co b _ + mulP (y :: a) b _ = _
    rw [ih, co_ge (by simp only [List.length_cons]; omega), Int.mul_zero, Int.zero_add]
    rfl
theorem ct_last {a : List Int} (h : Ct a) (hn : a ≠ []) : co a (a.length - 1) ≠ 0 := (ct_iff.mp h).resolve_left hn
theorem len_times {a b : List Int} (ha : Ct a) (hb : Ct b) (na : a ≠ []) (nb : b ≠ []) : (times a b).length = a.length + b.length - 1 := by
  have h1 : a.length ≠ 0 := fun z => na (List.eq_nil_of_length_eq_zero z)
  have h2 : b.length ≠ 0 := fun z => nb (List.eq_nil_of_length_eq_zero z)
  have c : ∀ i, co (mulRows (List.replicate (a.length + b.length) 0) 0 b a) i = mulP a b i := fun i => by rw [← co_times, times, co_cut]
  have z := cut_len (l := mulRows (List.replicate (a.length + b.length) 0) 0 b a) (m := a.length + b.length - 2) (by
    rw [c, mulP_lead b a na nb]
    exact Int.mul_ne_zero (ct_last ha na) (ct_last hb nb)) fun i hi => by rw [c]; exact mulP_ge b a i (by omega)
  unfold times
  omega
end K74

/-! Polynomials: sizes of numbers, exact division. -/
namespace K74
def nrm (l : List Int) : Nat := (l.map Int.natAbs).sum
theorem nrm_cons {x : Int} {l : List Int} : nrm (x :: l) = x.natAbs + nrm l := rfl
theorem co_nrm : ∀ (l : List Int) (i : Nat), (co l i).natAbs ≤ nrm l
  | [], i => by rw [co_nil]; exact Nat.zero_le _
  | x :: l, 0 => by rw [co_cons0, nrm_cons]; omega
  | x :: l, i + 1 => by
    rw [co_consS, nrm_cons]
    have := co_nrm l i
    omega
theorem nrm_mem {l : List Int} {x : Int} (h : x ∈ l) : x.natAbs ≤ nrm l := by
  obtain ⟨i, hi⟩ := List.getElem?_of_mem h
  have e : co l i = x := by unfold co; rw [hi]; rfl
  rw [← e]; exact co_nrm l i
theorem nrm_set : ∀ (l : List Int) (k : Nat) (w : Int), nrm (l.set k (co l k + w)) ≤ nrm l + w.natAbs
  | [], k, w => by show nrm [] ≤ _; exact Nat.le_add_right _ _
  | x :: l, 0, w => by
    rw [List.set_cons_zero, nrm_cons, nrm_cons, co_cons0]; omega
  | x :: l, k + 1, w => by
    rw [List.set_cons_succ, nrm_cons, nrm_cons, co_consS]
    have := nrm_set l k w
    omega
theorem nrm_addRow (c : Int) : ∀ (r l : List Int) (off : Nat), nrm (addRow l c off r) ≤ nrm l + c.natAbs * nrm r
  | [], l, off => Nat.le_add_right _ _
  | x :: r, l, off => by
    unfold addRow
    refine Nat.le_trans (nrm_addRow c r _ (off + 1)) ?_
    have h := nrm_set l off (c * x)
    rw [nrm_cons, Nat.mul_add]
    rw [Int.natAbs_mul] at h
    omega
theorem nrm_mulRows (b : List Int) : ∀ (a acc : List Int) (k : Nat), nrm (mulRows acc k b a) ≤ nrm acc + nrm a * nrm b
  | [], acc, k => Nat.le_add_right _ _
  | x :: a, acc, k => by
    unfold mulRows
    refine Nat.le_trans (nrm_mulRows b a _ (k + 1)) ?_
    have h := nrm_addRow x b acc k
    rw [nrm_cons, Nat.add_mul]
    omega
theorem nrm_take : ∀ (l : List Int) (n : Nat), nrm (l.take n) ≤ nrm l
  | _, 0 => Nat.zero_le _
  | [], n + 1 => Nat.le_refl _
  | x :: l, n + 1 => by
    rw [List.take_succ_cons, nrm_cons, nrm_cons]
    have := nrm_take l n
    omega
theorem nrm_rep : ∀ n : Nat, nrm (List.replicate n 0) = 0
  | 0 => rfl
  | n + 1 => by rw [List.replicate_succ, nrm_cons, nrm_rep n]; rfl
theorem nrm_times (a b : List Int) : nrm (times a b) ≤ nrm a * nrm b := by
  unfold times cut
  refine Nat.le_trans (nrm_take _ _) (Nat.le_trans (nrm_mulRows b a _ 0) ?_)
  rw [nrm_rep, Nat.zero_add]; exact Nat.le_refl _
/-! ### division -/
def quo (z : Int) (b : List Int) : Nat → List Int → List Int → Option (List Int × List Int)
  | 0, left, found => some (left, found)
  | k + 1, left, found => if (co left (k + b.length - 1)).fmod z ≠ 0 then none else
      quo z b k (addRow left (-((co left (k + b.length - 1)).fdiv z)) k b) (found.set k ((co left (k + b.length - 1)).fdiv z))
def quotF (a b : List Int) : Option (List Int) := match quo (co b (b.length - 1)) b (a.length + 1 - b.length) a (List.replicate (a.length + 1 - b.length) 0) with
  | none => none
  | some (left, found) => if left.any (fun x => decide (x ≠ 0)) = true then none else some (cut found)
theorem take_snoc {a : List Int} {k : Nat} (h : k < a.length) : a.take (k + 1) = a.take k ++ [co a k] := by
  rw [co_lt h, List.take_succ_eq_append_getElem h]
theorem quo_exact {b a : List Int} (nb : b ≠ []) (hb : Ct b) : ∀ (k : Nat) (left found : List Int), k ≤ a.length → k + b.length ≤ left.length + 1 → k ≤ found.length → (∀ i, co left i = mulP (a.take k) b i) → (∀ i, k ≤ i → co found i = co a i) →
    ∃ left' found', quo (co b (b.length - 1)) b k left found = some (left', found') ∧ (∀ i, co left' i = 0) ∧ (∀ i, co found' i = co a i)
  | 0, left, found, _, _, _, h1, h2 => ⟨left, found, rfl, fun i => h1 i, fun i => h2 i (Nat.zero_le _)⟩
  | k + 1, left, found, ka, kl, kf, h1, h2 => by
    have hz : co b (b.length - 1) ≠ 0 := ct_last hb nb
    have b0 : b.length ≠ 0 := fun z => nb (List.eq_nil_of_length_eq_zero z)
    have top : co left (k + b.length - 1) = co a k * co b (b.length - 1) := by
      have lt : (a.take (k + 1)).length = k + 1 := by rw [List.length_take]; omega
      have z := mulP_lead b (a.take (k + 1)) (fun z => by rw [z] at lt; cases lt) nb
      rw [lt, show k + 1 + b.length - 2 = k + b.length - 1 by omega, Nat.add_sub_cancel, co_take, if_pos (Nat.lt_succ_self _)] at z
      rw [h1, z]
    have m0 : (co left (k + b.length - 1)).fmod (co b (b.length - 1)) = 0 := by rw [top]; exact Int.mul_fmod_left _ _
    have d0 : (co left (k + b.length - 1)).fdiv (co b (b.length - 1)) = co a k := by rw [top]; exact Int.mul_fdiv_cancel _ hz
    unfold quo
    rw [if_neg (by rw [m0]; exact fun z => z rfl), d0]
    refine quo_exact nb hb k _ _ (by omega) (by rw [len_addRow]; omega) (by rw [List.length_set]; omega) (fun i => ?_) fun i hi => ?_
    · rw [co_addRow _ b left k i (by omega), h1, take_snoc (by omega), mulP_snoc, List.length_take, Nat.min_eq_left (by omega)]
      by_cases e : k ≤ i
      · rw [if_pos e, if_pos e, Int.neg_mul]; omega
      · rw [if_neg e, if_neg e]; omega
    · rw [co_set (by omega)]
      by_cases e : i = k
      · rw [if_pos e, e]
      · rw [if_neg e]; exact h2 i (by omega)
theorem mulP_set (b : List Int) (v : Int) : ∀ (l : List Int) (k i : Nat), k < l.length → mulP (l.set k v) b i = mulP l b i + if k ≤ i then (v - co l k) * co b (i - k) else 0
  | [], k, i, h => absurd h (Nat.not_lt_zero _)
  | x :: l, 0, 0, h => by
    show v * co b 0 + 0 = (x * co b 0 + 0) + if 0 ≤ 0 then (v - x) * co b 0 else 0
    rw [if_pos (Nat.zero_le _), Int.sub_mul]; omega
  | x :: l, 0, i + 1, h => by
    show v * co b (i + 1) + mulP l b i = (x * co b (i + 1) + mulP l b i) + if 0 ≤ i + 1 then (v - x) * co b (i + 1) else 0
    rw [if_pos (Nat.zero_le _), Int.sub_mul]; omega
  | x :: l, k + 1, 0, h => by
    rw [List.set_cons_succ, mulP, mulP, if_neg (by omega)]; omega
  | x :: l, k + 1, i + 1, h => by
    rw [List.set_cons_succ]
    show x * co b (i + 1) + mulP (l.set k v) b i = (x * co b (i + 1) + mulP l b i) + _
    rw [mulP_set b v l k i (by simpa using h), co_consS, Int.add_assoc]
    by_cases e : k ≤ i
    · rw [if_pos e, if_pos (by omega), Nat.add_sub_add_right]
    · rw [if_neg e, if_neg (by omega)]
theorem quo_inv {b : List Int} (nb : b ≠ []) {z : Int} : ∀ (k : Nat) (left found left' found' : List Int), k + b.length ≤ left.length + 1 → k ≤ found.length → (∀ i, i < k → co found i = 0) → quo z b k left found = some (left', found') →
    ∀ i, mulP found' b i + co left' i = mulP found b i + co left i
  | 0, left, found, left', found', _, _, _, h, i => by
    cases h; rfl
  | k + 1, left, found, left', found', kl, kf, h0, h, i => by
    have b0 : b.length ≠ 0 := fun z => nb (List.eq_nil_of_length_eq_zero z)
    unfold quo at h
    by_cases c : (co left (k + b.length - 1)).fmod z ≠ 0
    · rw [if_pos c] at h; cases h
    · rw [if_neg c] at h
      rw [quo_inv nb k _ _ _ _ (by rw [len_addRow]; omega) (by rw [List.length_set]; omega) (fun j hj => by rw [co_set (by omega), if_neg (by omega)]; exact h0 j (by omega)) h i,
        mulP_set b _ found k i (by omega), co_addRow _ b left k i (by omega), h0 k (Nat.lt_succ_self _), Int.sub_zero, Int.neg_mul]
      by_cases e : k ≤ i
      · rw [if_pos e, if_pos e]; omega
      · rw [if_neg e, if_neg e]; omega
def dif : List Int → List Int → List Int
  | [], [] => []
  | x :: f, [] => x :: f
  | [], y :: a => (-y) :: dif [] a
  | x :: f, y :: a => (x - y) :: dif f a
theorem mulP_dif (b : List Int) : ∀ (f a : List Int) (i : Nat), mulP (dif f a) b i = mulP f b i - mulP a b i
  | [], [], i => rfl
  | x :: f, [], i => by
    show mulP (x :: f) b i = mulP (x :: f) b i - 0
    omega
  | [], y :: a, 0 => by
    show (-y) * co b 0 + 0 = 0 - (y * co b 0 + 0)
    rw [Int.neg_mul]; omega
  | [], y :: a, i + 1 => by
    show (-y) * co b (i + 1) + mulP (dif [] a) b i = 0 - (y * co b (i + 1) + mulP a b i)
    rw [mulP_dif b [] a i, Int.neg_mul, show mulP [] b i = 0 from rfl]; omega
  | x :: f, y :: a, 0 => by
    show (x - y) * co b 0 + 0 = (x * co b 0 + 0) - (y * co b 0 + 0)
    rw [Int.sub_mul]; omega
  | x :: f, y :: a, i + 1 => by
    show (x - y) * co b (i + 1) + mulP (dif f a) b i = (x * co b (i + 1) + mulP f b i) - (y * co b (i + 1) + mulP a b i)
    rw [mulP_dif b f a i, Int.sub_mul]; omega
theorem mulP_take (b : List Int) : ∀ (l : List Int) (n i : Nat), (∀ j, n ≤ j → co l j = 0) → mulP (l.take n) b i = mulP l b i
  | [], n, i, _ => by rw [List.take_nil]
  | x :: l, 0, i, h => by
    have hx : x = 0 := h 0 (Nat.zero_le _)
    have ih := mulP_take b l 0
    show 0 = mulP (x :: l) b i
    rw [hx]
    cases i with
    | zero => show 0 = 0 * co b 0 + 0; omega
    | succ i =>
      show 0 = 0 * co b (i + 1) + mulP l b i
      have := ih i fun j _ => by have z := h (j + 1) (Nat.zero_le _); rwa [co_consS] at z
      rw [← this]
      show 0 = 0 * co b (i + 1) + 0
      omega
  | x :: l, n + 1, 0, h => rfl
  | x :: l, n + 1, i + 1, h => by
    show x * co b (i + 1) + mulP (l.take n) b i = x * co b (i + 1) + mulP l b i
    rw [mulP_take b l n i fun j hj => by have z := h (j + 1) (by omega); rwa [co_consS] at z]
theorem mulP_cut (b l : List Int) (i : Nat) : mulP (cut l) b i = mulP l b i := mulP_take b l _ i fun j hj => by
  by_cases h : j < l.length
  · exact cutN_zero l _ j hj h
  · exact co_ge (by omega)
/-- 1 is no product of a row of two or more -/
theorem no_one {b d : List Int} (hb : Ct b) (h2 : 2 ≤ b.length) (h : ∀ i, mulP d b i = if i = 0 then 1 else 0) : False := by
  have nb : b ≠ [] := fun z => by rw [z] at h2; exact absurd h2 (by decide)
  have hc : ∀ i, mulP (cut d) b i = if i = 0 then 1 else 0 := fun i => by rw [mulP_cut]; exact h i
  by_cases n : cut d = []
  · have z := hc 0
    rw [n] at z
    exact absurd (show (0 : Int) = 1 from z) (by decide)
  · have z := mulP_lead b (cut d) n nb
    have l0 : (cut d).length ≠ 0 := fun z => n (List.eq_nil_of_length_eq_zero z)
    rw [hc, if_neg (by omega)] at z
    exact Int.mul_ne_zero (ct_last (ct_cut d) n) (ct_last hb nb) z.symm
theorem any_false {l : List Int} : l.any (fun x => decide (x ≠ 0)) = false ↔ ∀ i, co l i = 0 := by
  constructor
  · intro h i
    by_cases hi : i < l.length
    · rw [List.any_eq_false] at h
      have z := h l[i] (List.getElem_mem hi)
      rw [co_lt hi]
      simpa using z
    · exact co_ge (by omega)
  · intro h
    rw [List.any_eq_false]
    intro x hx
    obtain ⟨i, hi⟩ := List.getElem?_of_mem hx
    have e := h i
    unfold co at e
    rw [hi] at e
    have e : x = 0 := e
    simp [e]
theorem quotF_exact {a b : List Int} (ha : Ct a) (hb : Ct b) (nb : b ≠ []) : quotF (times a b) b = some a := by
  have b0 : b.length ≠ 0 := fun z => nb (List.eq_nil_of_length_eq_zero z)
  have ex : ∃ left' found', quo (co b (b.length - 1)) b ((times a b).length + 1 - b.length) (times a b) (List.replicate ((times a b).length + 1 - b.length) 0) = some (left', found') ∧ (∀ i, co left' i = 0) ∧ (∀ i, co found' i = co a i) := by
    by_cases na : a = []
    · subst na
      have e : times [] b = [] := by
        have := len_cut (mulRows (List.replicate (([] : List Int).length + b.length) 0) 0 b [])
        refine ct_ext (ct_cut _) (by rfl) fun i => ?_
        show co (times [] b) i = co [] i
        rw [co_times, co_nil]; rfl
      rw [e]
      have z : ([] : List Int).length + 1 - b.length = 0 := by show 0 + 1 - b.length = 0; omega
      rw [z]
      exact ⟨[], [], rfl, co_nil, fun _ => rfl⟩
    · have l := len_times ha hb na nb
      have a0 : a.length ≠ 0 := fun z => na (List.eq_nil_of_length_eq_zero z)
      have e : (times a b).length + 1 - b.length = a.length := by omega
      rw [e]
      exact quo_exact nb hb a.length _ _ (Nat.le_refl _) (by omega) (by simp) (fun i => by rw [co_times, List.take_length]) fun i hi => by rw [co_rep, co_ge hi]
  obtain ⟨left', found', e, h1, h2⟩ := ex
  unfold quotF
  rw [e]
  show (if left'.any (fun x => decide (x ≠ 0)) = true then none else some (cut found')) = some a
  rw [any_false.mpr h1, if_neg Bool.false_ne_true]
  exact congrArg some (ct_ext (ct_cut _) ha fun i => by rw [co_cut, h2])
theorem quotF_off {a b o : List Int} (hb : Ct b) (h2 : 2 ≤ b.length) (ho : ∀ i, co o i = mulP a b i + if i = 0 then 1 else 0) : quotF o b = none := by
  have nb : b ≠ [] := fun z => by rw [z] at h2; exact absurd h2 (by decide)
  unfold quotF
  cases e : quo (co b (b.length - 1)) b (o.length + 1 - b.length) o (List.replicate (o.length + 1 - b.length) 0) with
  | none => rfl
  | some p =>
    obtain ⟨left, found⟩ := p
    show (if left.any (fun x => decide (x ≠ 0)) = true then none else some (cut found)) = none
    by_cases c : left.any (fun x => decide (x ≠ 0)) = true
    · rw [if_pos c]
    · exfalso
      have z := any_false.mp (Bool.eq_false_iff.mpr c)
      by_cases hlen : b.length ≤ o.length
      · have inv := quo_inv nb _ _ _ _ _ (by omega) (by simp) (fun i _ => co_rep) e
        have rep0 : ∀ i, mulP (List.replicate (o.length + 1 - b.length) 0) b i = 0 := fun i => by
          rw [← mulP_take b _ 0 i fun j _ => co_rep]; rfl
        refine no_one hb h2 (d := dif found a) fun i => ?_
        have q := inv i
        rw [z, rep0, ho] at q
        rw [mulP_dif]; omega
      · have k0 : o.length + 1 - b.length = 0 := by omega
        rw [k0] at e
        cases e
        refine no_one hb h2 (d := dif [] a) fun i => ?_
        have q := z i
        rw [ho] at q
        rw [mulP_dif, show mulP [] b i = 0 from rfl]; omega
end K74

namespace K74
open PySem PySem.Spec L2 DL
open PyProof.Rows hiding St
/-! ### the plain law: tallies -/
abbrev tI (l : List Int) : D := .tup (l.map D.int)
theorem m_number {i : Int} {P E : D → Prop} (h : P (.bl true)) : dBody N_is_number.length t_is_number [.int i] P E := ⟨_, _, _, rfl, rfl, rfl, ⟨_, _, _, rfl, rfl, rfl, h⟩⟩
theorem m_between {i lo hi : Int} {P E : D → Prop} (h : P (.bl (decide (lo ≤ i) && decide (i ≤ hi)))) : dBody N_is_between.length t_is_between [.int i, .int lo, .int hi] P E := by
  refine ⟨rfl, m_number ?_⟩
  show (match D.bl (decide (lo ≤ i)) with
      | .bl true => _
      | .bl false => _
      | _ => False)
  cases hb : decide (lo ≤ i) with
  | true =>
    show P (.bl (decide (i ≤ hi)))
    simpa [hb] using h
  | false =>
    show P (.bl false)
    simpa [hb] using h
theorem eqvAll_ints : ∀ l m : List Int, PyData.eqvAll (l.map PyData.int) (m.map PyData.int) = decide (l = m)
  | [], [] => by simp [PyData.eqvAll]
  | [], _ :: _ => by simp [PyData.eqvAll]
  | _ :: _, [] => by simp [PyData.eqvAll]
  | a :: l, b :: m => by
    rw [List.map_cons, List.map_cons, PyData.eqvAll, eqvAll_ints l m, eqv_int]
    by_cases h : a = b <;> by_cases h2 : l = m <;> simp [h, h2]
theorem lay_ints : ∀ l : List Int, PyData.canLayAll0 (l.map PyData.int) = true ∧ PyData.depthAll (l.map PyData.int) = 0
  | [] => ⟨rfl, rfl⟩
  | a :: l => by
    obtain ⟨h1, h2⟩ := lay_ints l
    refine ⟨?_, ?_⟩
    · show (PyData.canLay0 (.int a) && PyData.canLayAll0 (l.map PyData.int)) = true
      rw [h1]; rfl
    · show max (PyData.depth (.int a)) (PyData.depthAll (l.map PyData.int)) = 0
      rw [h2]; rfl
theorem shaped_tI (l : List Int) : SeqAt.shaped (.tuple (l.map PyData.int)) = true := by
  obtain ⟨h1, h2⟩ := lay_ints l
  show (PyData.canLayAll0 (l.map PyData.int) && decide (PyData.depthAll (l.map PyData.int) + 1 ≤ 64)) = true
  rw [h1, h2]; rfl
theorem pd_tI (l : List Int) : toPD (tI l) = some (.tuple (l.map PyData.int)) := by
  simp only [toPD, toPDs_ofInts, Option.map_some]
theorem q_eqT {l m : List Int} {P : D → Prop} (h : P (.bl (decide (l = m)))) : eqD (tI l) (tI m) P :=
  ⟨_, _, pd_tI l, pd_tI m, shaped_tI l, shaped_tI m, by rw [PyData.eqv, eqvAll_ints]; exact h⟩
theorem q_neT {l m : List Int} {P : D → Prop} (h : P (.bl (!decide (l = m)))) : neD (tI l) (tI m) P :=
  ⟨_, _, pd_tI l, pd_tI m, shaped_tI l, shaped_tI m, by rw [PyData.eqv, eqvAll_ints]; exact h⟩
theorem atI_neg1 {α : Type} {l : List α} (h : l ≠ []) : atI l (-1) = some (l[l.length - 1]'(by
    have : l.length ≠ 0 := fun z => h (List.eq_nil_of_length_eq_zero z)
    omega)) := by
  have h0 : l.length ≠ 0 := fun z => h (List.eq_nil_of_length_eq_zero z)
  have e : ixN l.length (-1) = some (l.length - 1) := by
    unfold ixN
    rw [if_neg (by omega)]
    rw [if_pos (by omega)]
    congr 1
    omega
  unfold atI
  rw [e]
  exact List.getElem?_eq_getElem (by omega)
theorem atI_nat {α : Type} {l : List α} {i : Nat} (h : i < l.length) : atI l (i : Int) = some l[i] := by
  have e : ixN l.length (i : Int) = some i := by
    unfold ixN
    rw [if_pos (by omega), if_pos (by omega)]; rfl
  unfold atI
  rw [e]
  exact List.getElem?_eq_getElem h
theorem atI_ints {l : List Int} {i : Nat} (h : i < l.length) : atI (l.map D.int) (i : Int) = some (.int (co l i)) := by
  rw [atI_nat (by simpa using h), co_lt h, List.getElem_map]
theorem atI_last {l : List Int} (h : l ≠ []) : atI (l.map D.int) (-1) = some (.int (co l (l.length - 1))) := by
  have h0 : l.length ≠ 0 := fun z => h (List.eq_nil_of_length_eq_zero z)
  rw [atI_neg1 (by simpa using h), co_lt (by omega), List.getElem_map]
  simp
theorem iteB {b : Bool} {A B : Prop} (e : b = false) (h : B) : if b = true then A else B := by subst e; exact iteF h
theorem iteBt {b : Bool} {A B : Prop} (e : b = true) (h : A) : if b = true then A else B := by subst e; exact iteT h
theorem m_is_tally {l : List Int} (hl : l.length ≤ 2000) {P E : D → Prop} (h : P (.bl (decide (Ct l)))) : dBody N_is_tally.length t_is_tally [tI l] P E := by
  have g1 : decide ((2000 : Int) < ((l.map D.int).length : Int)) = false := decide_eq_false (by simp; omega)
  refine ⟨_, _, _, rfl, rfl, rfl, iteF (iteB g1 ?_)⟩
  refine q_compM (it := D.int) (f := fun _ => D.bl true) (δ0 := envOfArgs N_is_tally.length [tI l]) l (by omega) (fun a _ Q hq => ⟨rfl, m_number hq⟩) ?_
  refine ⟨_, asB_map (fun _ => true) l, iteB (b := !((l.map fun _ => true).all _root_.id)) (by simp) ?_⟩
  refine ⟨Nat.zero_le _, q_eqT (m := []) ?_⟩
  by_cases n : l = []
  · subst n
    exact h
  · rw [decide_eq_false n]
    refine ⟨_, atI_last n, q_ne (P := P) ?_⟩
    have e : decide (Ct l) = !decide (co l (l.length - 1) = 0) := by
      rw [show decide (Ct l) = decide (co l (l.length - 1) ≠ 0) from decide_eq_decide.mpr ⟨fun z => ct_last z n, fun z => ct_iff.mpr (.inr z)⟩]
      by_cases c : co l (l.length - 1) = 0 <;> simp [c]
    rw [← e]; exact h
theorem dB {m : Nat} {t : TDS} {ds : List D} {Q E : D → Prop} (h : t E { nx := fun _ => Q .non, rt := Q } (envOfArgs m ds)) : dBody m t ds Q E := h
/-- .. and no exception -/
theorem m_need {l : List Int} (hl : l.length ≤ 2000) (hc : Ct l) {P E : D → Prop} (h : P .non) : dBody N_need_tally.length t_need_tally [tI l] P E := by
  refine ⟨rfl, m_is_tally hl ?_⟩
  rw [decide_eq_true hc]
  exact iteF h
/-! cut -/
theorem cut_loop {rx : D → Prop} {DD : DEnds} {d : D} {l : List Int} (hd : d = tI l ∨ d = .lst (l.map D.int)) (k : ∀ m : Nat, m = cutN l l.length → DD.nx [some (.sh d), some (.sh (.int m))]) : ∀ (m : Nat), m ≤ l.length → cutN l l.length = cutN l m →
    dWhileN (dAnd (dTest (d2 gtD (dVar 1) (dC (.int 0)))) (dTest (d2 eqD (d2 ixD (dVar 0) (d2 subD (dVar 1) (dC (.int 1)))) (dC (.int 0))))) (dSet 1 (d2 subD (dVar 1) (dC (.int 1)))) rx DD (m + 1) [some (.sh d), some (.sh (.int m))]
  | 0, h1, h2 => k 0 h2.symm
  | m + 1, h1, h2 => by
    have g1 : decide ((0 : Int) < ((m + 1 : Nat) : Int)) = true := decide_eq_true (by omega)
    refine iteBt g1 ?_
    have e : atI (l.map D.int) (((m + 1 : Nat) : Int) - 1) = some (.int (co l m)) := by
      rw [show ((m + 1 : Nat) : Int) - 1 = (m : Int) by omega]
      exact atI_ints (by omega)
    by_cases c : co l m = 0
    · have st := cut_loop (rx := rx) (DD := DD) hd k m (by omega) (by rw [h2, cutN, if_pos c])
      rw [show ((m : Nat) : Int) = ((m + 1 : Nat) : Int) - 1 by omega] at st
      rcases hd with rfl | rfl
      · refine ⟨_, e, ?_⟩
        simp only [dC]
        refine q_eq ?_
        exact iteBt (decide_eq_true c) st
      · refine ⟨_, e, ?_⟩
        simp only [dC]
        refine q_eq ?_
        exact iteBt (decide_eq_true c) st
    · have st := k (m + 1) (by rw [h2, cutN, if_neg c])
      rcases hd with rfl | rfl
      · refine ⟨_, e, ?_⟩
        simp only [dC]
        refine q_eq ?_
        exact iteB (decide_eq_false c) st
      · refine ⟨_, e, ?_⟩
        simp only [dC]
        refine q_eq ?_
        exact iteB (decide_eq_false c) st
end K74

namespace K74
open PySem PySem.Spec L2 DL
open PyProof.Rows hiding St
theorem cut_map {l : List Int} {m : Nat} (hm : m = cutN l l.length) : DL.cutD (l.map D.int) none (some (m : Int)) = (cut l).map D.int := by
  unfold DL.cutD
  rw [HT.sIx_none, HT.sIx_nat, List.length_map, List.drop_zero, Nat.sub_zero, Nat.min_eq_left (by rw [hm]; exact cutN_le l _), ← List.map_take, hm]
  rfl
theorem m_cut {l : List Int} {P E : D → Prop} (h : P (tI (cut l))) : dBody N_cut_noughts.length t_cut_noughts [.lst (l.map D.int)] P E := by
  refine ⟨l.length + 1, ?_⟩
  show dWhileN _ _ _ _ (l.length + 1) [some (.sh (.lst (l.map D.int))), some (.sh (.int ((l.map D.int).length : Int)))]
  rw [List.length_map]
  refine cut_loop (.inr rfl) (fun m hm => ?_) l.length (Nat.le_refl _) rfl
  show P (.tup (DL.cutD (l.map D.int) none (some (m : Int))))
  rw [cut_map hm]
  exact h
theorem ixN_nat {n i : Nat} (h : i < n) : ixN n (i : Int) = some i := by
  unfold ixN
  rw [if_pos (by omega), if_pos (by omega)]; rfl
theorem mul_small {c x : Int} {a b : Nat} (hc : c.natAbs < 2 ^ a) (hx : x.natAbs < 2 ^ b) (h : a + b ≤ 100000) : CMulX c x := mulx_ok hc hx (by omega)
abbrev zipFrom (j : Nat) (b : List Int) : List D := ((b.map D.int).zipIdx j).map fun q => .tup [.int (q.2 : Nat), q.1]
theorem zipFrom_cons {j : Nat} {x : Int} {b : List Int} : zipFrom j (x :: b) = .tup [.int (j : Nat), .int x] :: zipFrom (j + 1) b := by
  unfold zipFrom
  rw [List.map_cons, List.zipIdx_cons, List.map_cons]
theorem set_map {f : List Int} {k : Nat} {v : Int} : (f.map D.int).set k (.int v) = (f.set k v).map D.int := by rw [List.map_set]
theorem list_ne : ("list" : String) ≠ "" := by decide
/-! ### tally_times -/
abbrev e7 (d0 d1 : D) (f : List Int) (k : Nat) (c : Int) (s m : Option Sl) : DL.Env := [some (.sh d0), some (.sh d1), some (.ol (f.map D.int)), some (.sh (.int (k : Int))), some (.sh (.int c)), s, m]
abbrev tmIn : TDS := dSetI 2 (dFrz (f2 addF (dBor (d2 ixD (dVar 2) (dFrz (f2 addF (dVar 3) (dVar 5))))) (dFrz (f2 mulG (dVar 4) (dVar 6))))) (dFrz (f2 addF (dVar 3) (dVar 5)))
theorem tm_row {rx : D → Prop} {DD : DEnds} {d0 d1 : D} {k : Nat} {c : Int} : ∀ (b : List Int) (j : Nat) (f : List Int) (s m : Option Sl), k + j + b.length ≤ f.length → (∀ x ∈ b, CMulX c x) → (∀ s m, DD.nx (e7 d0 d1 (addRow f c (k + j) b) k c s m)) →
    dForL (gT 2 (gsCons (gN 5) (gsCons (gN 6) gsNil))) tmIn rx DD (zipFrom j b) (e7 d0 d1 f k c s m)
  | [], j, f, s, m, _, _, h => h s m
  | x :: b, j, f, s, m, hl, hm, h => by
    rw [List.length_cons] at hl
    rw [zipFrom_cons]
    have e1 : atI (f.map D.int) ((k : Int) + (j : Int)) = some (.int (co f (k + j))) := by rw [← Int.natCast_add]; exact atI_ints (by omega)
    have e2 : ixN (f.map D.int).length ((k : Int) + (j : Int)) = some (k + j) := by rw [← Int.natCast_add, List.length_map]; exact ixN_nat (by omega)
    refine ⟨rfl, _, e1, rfl, rfl, hm x List.mem_cons_self, list_ne, _, k + j, rfl, e2, ?_⟩
    have st := tm_row (rx := rx) (DD := DD) (d0 := d0) (d1 := d1) (k := k) (c := c) b (j + 1) (f.set (k + j) (co f (k + j) + c * x)) (some (.sh (.int (j : Int)))) (some (.sh (.int x))) (by rw [List.length_set]; omega) (fun y hy => hm y (List.mem_cons_of_mem _ hy)) (fun s m => h s m)
    show dForL _ _ _ _ _ [some (.sh d0), some (.sh d1), some (.ol ((f.map D.int).set (k + j) (.int (co f (k + j) + c * x)))), some (.sh (.int (k : Int))), some (.sh (.int c)), some (.sh (.int (j : Int))), some (.sh (.int x))]
    rw [set_map]
    exact st
abbrev tmOut : TDS := dIfS (dTest (d2 neD (dVar 4) (dC (.int 0)))) (dFor (dEnumB (dVar 1)) (gT 2 (gsCons (gN 5) (gsCons (gN 6) gsNil))) tmIn) dNext
theorem tm_rows {rx : D → Prop} {DD : DEnds} {d0 : D} {b : List Int} {B : Nat} (hb : nrm b < 2 ^ B) (hB : B ≤ 50000) : ∀ (a : List Int) (k : Nat) (f : List Int) (q r s m : Option Sl), k + a.length + b.length ≤ f.length → nrm a < 2 ^ 50000 → (∀ q r s m, DD.nx [some (.sh d0), some (.sh (tI b)), some (.ol ((mulRows f k b a).map D.int)), q, r, s, m]) →
    dForL (gT 2 (gsCons (gN 3) (gsCons (gN 4) gsNil))) tmOut rx DD (zipFrom k a) [some (.sh d0), some (.sh (tI b)), some (.ol (f.map D.int)), q, r, s, m]
  | [], k, f, q, r, s, m, _, _, h => h q r s m
  | x :: a, k, f, q, r, s, m, hl, ha, h => by
    rw [List.length_cons] at hl
    rw [nrm_cons] at ha
    rw [zipFrom_cons]
    refine ⟨rfl, ?_⟩
    have st : ∀ s m, dForL (gT 2 (gsCons (gN 3) (gsCons (gN 4) gsNil))) tmOut rx DD (zipFrom (k + 1) a) (e7 d0 (tI b) (addRow f x k b) k x s m) := fun s m =>
      tm_rows hb hB a (k + 1) (addRow f x k b) _ _ s m (by rw [len_addRow]; omega) (by omega) h
    show (dIfS (dTest (d2 neD (dVar 4) (dC (.int 0)))) (dFor (dEnumB (dVar 1)) (gT 2 (gsCons (gN 5) (gsCons (gN 6) gsNil))) tmIn) dNext) rx _ (e7 d0 (tI b) f k x s m)
    simp only [dIfS, dTest, d2, dVar, dC, List.getElem?_cons_succ, List.getElem?_cons_zero]
    refine q_ne ?_
    by_cases c : x = 0
    · subst c
      have st0 := st s m
      rw [addRow_zero (by omega)] at st0
      exact st0
    · rw [decide_eq_false c]
      refine iteT (A := dFor (dEnumB (dVar 1)) (gT 2 (gsCons (gN 5) (gsCons (gN 6) gsNil))) tmIn rx _ (e7 d0 (tI b) f k x s m)) ?_
      refine tm_row b 0 f s m (by omega) (fun y hy => mul_small (a := 50000) (by omega) (Nat.lt_of_le_of_lt (nrm_mem hy) hb) (by omega)) st
theorem m_times {a b : List Int} {P E : D → Prop} {B : Nat} (hb : nrm b < 2 ^ B) (hB : B ≤ 50000) (ha : nrm a < 2 ^ 50000) (hl : a.length + b.length ≤ 10000) (h : P (tI (times a b))) : dBody N_tally_times.length t_tally_times [tI a, tI b] P E := by
  have e : ((a.map D.int).length : Int) + ((b.map D.int).length : Int) = ((a.length + b.length : Nat) : Int) := by simp
  refine ⟨(by decide : 1 ≤ sizeLine), ⟨by omega, by rw [e]; omega, Nat.le_trans (show 1 * ((((a.map D.int).length : Int) + ((b.map D.int).length : Int)).toNat) ≤ 10000 by rw [e]; omega) (by decide)⟩, ?_⟩
  have e2 : (List.replicate (((a.map D.int).length : Int) + ((b.map D.int).length : Int)).toNat [D.int 0]).flatten = (List.replicate (a.length + b.length) (0 : Int)).map D.int := by
    rw [e, Int.toNat_natCast]
    generalize a.length + b.length = n
    induction n with
    | zero => rfl
    | succ n ih => rw [List.replicate_succ, List.replicate_succ, List.flatten_cons, ih]; rfl
  show dForL _ _ _ _ (zipFrom 0 a) [some (.sh (tI a)), some (.sh (tI b)), some (.ol (List.replicate (((a.map D.int).length : Int) + ((b.map D.int).length : Int)).toNat [D.int 0]).flatten), none, none, none, none]
  rw [e2]
  refine tm_rows hb hB a 0 _ none none none none (by simp) ha fun q r s m => ?_
  exact ⟨rfl, m_cut h⟩
end K74

namespace K74
open PySem PySem.Spec L2 DL
open PyProof.Rows hiding St
theorem rep0 (n : Nat) : (List.replicate n [D.int 0]).flatten = (List.replicate n (0 : Int)).map D.int := by
  induction n with
  | zero => rfl
  | succ n ih => rw [List.replicate_succ, List.replicate_succ, List.flatten_cons, ih]; rfl
theorem mx {a b : Nat} : (if ((b : Int) - (a : Int)) > 0 then ((b : Int) - (a : Int)) else 0).toNat = b - a := by
  split <;> omega
def plus (a b : List Int) (c : Int) : List Int := cut (addRow (a ++ List.replicate (b.length - a.length) 0) c 0 b)
theorem co_plus (a b : List Int) (c : Int) (i : Nat) : co (plus a b c) i = co a i + c * co b i := by
  unfold plus
  rw [co_cut, co_addRow c b _ 0 i (by rw [List.length_append, List.length_replicate]; omega), if_pos (Nat.zero_le _), Nat.sub_zero, co_app]
  by_cases h : i < a.length
  · rw [if_pos h]
  · rw [if_neg h, co_rep, show co a i = 0 from co_ge (by omega)]
abbrev e6 (d0 d1 : D) (c : Int) (f : List Int) (s m : Option Sl) : DL.Env := [some (.sh d0), some (.sh d1), some (.sh (.int c)), some (.ol (f.map D.int)), s, m]
abbrev plIn : TDS := dSetI 3 (dFrz (f2 addF (dIxO 3 4) (dFrz (f2 mulG (dVar 2) (dVar 5))))) (dVar 4)
theorem pl_row {rx : D → Prop} {DD : DEnds} {d0 d1 : D} {c : Int} : ∀ (b : List Int) (j : Nat) (f : List Int) (s m : Option Sl), j + b.length ≤ f.length → (∀ x ∈ b, CMulX c x) → (∀ s m, DD.nx (e6 d0 d1 c (addRow f c j b) s m)) →
    dForL (gT 2 (gsCons (gN 4) (gsCons (gN 5) gsNil))) plIn rx DD (zipFrom j b) (e6 d0 d1 c f s m)
  | [], j, f, s, m, _, _, h => h s m
  | x :: b, j, f, s, m, hl, hm, h => by
    rw [List.length_cons] at hl
    rw [zipFrom_cons]
    have e1 : atI (f.map D.int) (j : Int) = some (.int (co f j)) := atI_ints (by omega)
    have e2 : ixN (f.map D.int).length (j : Int) = some j := by rw [List.length_map]; exact ixN_nat (by omega)
    refine ⟨rfl, _, e1, hm x List.mem_cons_self, list_ne, _, j, rfl, e2, ?_⟩
    have st := pl_row (rx := rx) (DD := DD) (d0 := d0) (d1 := d1) (c := c) b (j + 1) (f.set j (co f j + c * x)) (some (.sh (.int (j : Int)))) (some (.sh (.int x))) (by rw [List.length_set]; omega) (fun y hy => hm y (List.mem_cons_of_mem _ hy)) (fun s m => h s m)
    show dForL _ _ _ _ _ [some (.sh d0), some (.sh d1), some (.sh (.int c)), some (.ol ((f.map D.int).set j (.int (co f j + c * x)))), some (.sh (.int (j : Int))), some (.sh (.int x))]
    rw [set_map]
    exact st
theorem m_plus {a b : List Int} {c : Int} {P E : D → Prop} (hb : nrm b < 2 ^ 50000) (hc : c.natAbs < 2 ^ 50) (hl : a.length + b.length ≤ 10000) (h : P (tI (plus a b c))) : dBody N_tally_plus.length t_tally_plus [tI a, tI b, .int c] P E := by
  have e : (if (((b.map D.int).length : Int) - ((a.map D.int).length : Int)) > 0 then (((b.map D.int).length : Int) - ((a.map D.int).length : Int)) else 0).toNat = b.length - a.length := by rw [mx, List.length_map, List.length_map]
  have la : (a.map D.int).length = a.length := List.length_map _
  have lb : (b.map D.int).length = b.length := List.length_map _
  refine ⟨(by decide : 1 ≤ sizeLine), ⟨by split <;> omega, by split <;> omega, Nat.le_trans (show 1 * _ ≤ 10000 by rw [e]; omega) (by decide)⟩, ?_⟩
  refine ⟨Nat.le_trans (show _ ≤ 10000 by rw [e, rep0, List.length_map, List.length_map, List.length_replicate]; omega) (by decide), ?_⟩
  show dForL _ _ _ _ (zipFrom 0 b) [some (.sh (tI a)), some (.sh (tI b)), some (.sh (.int c)), some (.ol (a.map D.int ++ (List.replicate (if (((b.map D.int).length : Int) - ((a.map D.int).length : Int)) > 0 then (((b.map D.int).length : Int) - ((a.map D.int).length : Int)) else 0).toNat [D.int 0]).flatten)), none, none]
  rw [e, rep0, ← List.map_append]
  refine pl_row b 0 _ none none (by simp; omega) (fun x hx => mul_small (a := 50) (b := 50000) hc (Nat.lt_of_le_of_lt (nrm_mem hx) hb) (by omega)) fun s m => ?_
  exact ⟨rfl, m_cut h⟩
/-! ### lists of tallies -/
theorem m_list {ds : List D} {d : D} {P E : D → Prop} (hd : d = .lst ds ∨ d = .tup ds) (h : P (.bl true)) : dBody N_is_list.length t_is_list [d] P E := by
  rcases hd with rfl | rfl <;> exact ⟨by decide, _, _, _, rfl, rfl, rfl, h⟩
structure Tl (l : List Int) : Prop where
  ct : Ct l
  len : l.length ≤ 2000
  nr : nrm l < 2 ^ 5000
theorem m_needs {ls : List (List Int)} {d : D} {P E : D → Prop} (hd : d = .lst (ls.map tI) ∨ d = .tup (ls.map tI)) (hs : ∀ l ∈ ls, Tl l) (h : P .non) : dBody N_need_tallies.length t_need_tallies [d] P E := by
  have fin : dForL (gN 1) (dExpr (dCall (dBody N_need_tally.length t_need_tally) 1 (dCons (dVar 1) dNil))) E { nx := fun _ => P .non, rt := P } (ls.map tI) [some (.sh d), none] := by
    refine q_forL (fun δ => ∃ x, δ = [some (.sh d), x]) (fun δ _ => h) _ (fun y hy δ ⟨x, hδ⟩ J hJ => ?_) _ ⟨none, rfl⟩
    subst hδ
    obtain ⟨l, hl, rfl⟩ := List.mem_map.mp hy
    exact ⟨rfl, m_need (hs l hl).len (hs l hl).ct (hJ _ ⟨_, rfl⟩)⟩
  refine ⟨rfl, m_list hd ?_⟩
  rcases hd with rfl | rfl <;> exact iteF fin
def sumF : List (List Int) → List Int → List Int
  | [], f => f
  | l :: ls, f => sumF ls (plus f l 1)
theorem len_plus (a b : List Int) (c : Int) : (plus a b c).length ≤ max a.length b.length := by
  unfold plus
  rw [len_cut]
  refine Nat.le_trans (cutN_le _ _) ?_
  rw [len_addRow, List.length_append, List.length_replicate]
  omega
theorem m_sum {ls : List (List Int)} {d : D} {P E : D → Prop} (hd : d = .lst (ls.map tI) ∨ d = .tup (ls.map tI)) (hs : ∀ l ∈ ls, Tl l) (h : P (tI (sumF ls []))) : dBody N_tally_sum.length t_tally_sum [d] P E := by
  have lp : ∀ (r : List (List Int)) (f : List Int) (x : Option Sl), (∀ l ∈ r, Tl l) → f.length ≤ 2000 → P (tI (sumF r f)) → dForL (gN 2) (dSet 1 (dCall (dBody N_tally_plus.length t_tally_plus) 3 (dCons (dVar 1) (dCons (dVar 2) (dCons (dC (.int 1)) dNil))))) E { nx := fun δ' => dRet (dVar 1) E { nx := fun _ => P .non, rt := P } δ', rt := P } (r.map tI) [some (.sh d), some (.sh (tI f)), x] := by
    intro r
    induction r with
    | nil => intro f x _ _ h; exact h
    | cons l r ih =>
      intro f x hr hf h
      have tl := hr l List.mem_cons_self
      have hl := tl.len
      refine ⟨rfl, m_plus (Nat.lt_of_lt_of_le tl.nr (Nat.pow_le_pow_right (by decide) (by decide))) (by decide) (by omega) ?_⟩
      have z := len_plus f l 1
      exact ih (plus f l 1) _ (fun y hy => hr y (List.mem_cons_of_mem _ hy)) (by omega) h
  refine ⟨rfl, m_needs hd hs ⟨Nat.zero_le _, ?_⟩⟩
  rcases hd with rfl | rfl <;> exact lp ls [] none hs (Nat.zero_le _) h
theorem m_less {a b : List Int} {P E : D → Prop} (ha : Tl a) (hb : Tl b) (h : P (tI (plus a b (-1)))) : dBody N_tally_less.length t_tally_less [tI a, tI b] P E := by
  have h1 := ha.len
  have h2 := hb.len
  exact ⟨rfl, m_need ha.len ha.ct ⟨rfl, m_need hb.len hb.ct ⟨rfl, m_plus (Nat.lt_of_lt_of_le hb.nr (Nat.pow_le_pow_right (by decide) (by decide))) (by decide) (by omega) h⟩⟩⟩
end K74

namespace K74
open PySem PySem.Spec L2 DL
open PyProof.Rows hiding St
theorem p5000 {n k : Nat} (h : n < 2 ^ (5000 * k)) (hk : k ≤ 10) : n < 2 ^ 50000 := Nat.lt_of_lt_of_le h (Nat.pow_le_pow_right (by decide) (by omega))
theorem len_times_le (a b : List Int) : (times a b).length ≤ a.length + b.length := by
  unfold times
  rw [len_cut]
  refine Nat.le_trans (cutN_le _ _) ?_
  rw [len_mulRows, List.length_replicate]
  exact Nat.le_refl _
def prodF : List (List Int) → List Int → List Int
  | [], f => f
  | l :: ls, f => prodF ls (times f l)
theorem pr_loop {d : D} {P E : D → Prop} : ∀ (r : List (List Int)) (f : List Int) (x : Option Sl) (k : Nat), (∀ l ∈ r, Tl l) → r.length + k ≤ 4 → f.length ≤ 2001 * k → nrm f < 2 ^ (5000 * k) → P (tI (prodF r f)) →
    dForL (gN 1) (dSet 2 (dCall (dBody N_tally_times.length t_tally_times) 2 (dCons (dVar 2) (dCons (dVar 1) dNil)))) E { nx := fun δ' => dRet (dVar 2) E { nx := fun _ => P .non, rt := P } δ', rt := P } (r.map tI) [some (.sh d), x, some (.sh (tI f))]
  | [], f, x, k, _, _, _, _, h => h
  | l :: r, f, x, k, hr, hk, hf, hn, h => by
    have tl := hr l List.mem_cons_self
    have hl := tl.len
    rw [List.length_cons] at hk
    refine ⟨rfl, m_times (B := 5000) tl.nr (by decide) (p5000 hn (by omega)) (by omega) ?_⟩
    have z := len_times_le f l
    refine pr_loop r (times f l) _ (k + 1) (fun y hy => hr y (List.mem_cons_of_mem _ hy)) (by omega) (by omega) ?_ h
    refine Nat.lt_of_le_of_lt (nrm_times f l) ?_
    rw [Nat.mul_add, Nat.mul_one, Nat.pow_add]
    exact Nat.mul_lt_mul'' hn tl.nr
theorem asI_map {α : Type} (g : α → Int) : ∀ l : List α, asInts (l.map fun a => D.int (g a)) = some (l.map g)
  | [] => rfl
  | a :: l => by
    have := asI_map g l
    simp only [List.map_cons, asInts, this, Option.map_some]
theorem m_product {ls : List (List Int)} {d : D} {P E : D → Prop} (hd : d = .lst (ls.map tI)) (hs : ∀ l ∈ ls, Tl l) (h3 : ls.length ≤ 3) (hz : (∃ l ∈ ls, l.length = 0) → P (tI [])) (hb : (¬ ∃ l ∈ ls, l.length = 0) → 2000 < (ls.map fun l => (l.length : Int) - 1).sum + 1 → E (.exc "BadTally" []))
    (h : (¬ ∃ l ∈ ls, l.length = 0) → (ls.map fun l => (l.length : Int) - 1).sum + 1 ≤ 2000 → P (tI (prodF ls [1]))) : dBody N_tally_product.length t_tally_product [d] P E := by
  subst hd
  refine ⟨rfl, m_needs (.inl rfl) hs ?_⟩
  refine q_compM (it := tI) (f := fun l => D.bl (decide ((l.length : Int) = 0))) (δ0 := [some (.sh (.lst (ls.map tI))), none, none]) ls (by omega) (fun l _ Q hq => ?_) ?_
  · have e : ((l.map D.int).length : Int) = (l.length : Int) := by rw [List.length_map]
    show eqD (.int ((l.map D.int).length : Int)) (.int 0) fun y => Q (some y) [some (.sh (.lst (ls.map tI))), none, none]
    rw [e]
    exact q_eq hq
  refine ⟨_, asB_map (fun l : List Int => decide ((l.length : Int) = 0)) ls, ?_⟩
  by_cases c : ∃ l ∈ ls, l.length = 0
  · refine iteBt (b := (ls.map fun l => decide ((l.length : Int) = 0)).any _root_.id) ?_ ?_
    · obtain ⟨l, hl, e⟩ := c
      rw [List.any_map, List.any_eq_true]
      exact ⟨l, hl, by simp [List.eq_nil_of_length_eq_zero e]⟩
    · exact ⟨Nat.zero_le _, hz c⟩
  · refine iteB (b := (ls.map fun l => decide ((l.length : Int) = 0)).any _root_.id) ?_ ?_
    · rw [List.any_map, List.any_eq_false]
      intro l hl z
      refine c ⟨l, hl, ?_⟩
      have z : decide ((l.length : Int) = 0) = true := z
      have := of_decide_eq_true z
      omega
    · refine q_compM (it := tI) (f := fun l => D.int ((l.length : Int) - 1)) (δ0 := [some (.sh (.lst (ls.map tI))), none, none]) ls (by omega) (fun l _ Q hq => ?_) ?_
      · have e : ((l.map D.int).length : Int) = (l.length : Int) := by rw [List.length_map]
        show Q (some (.int (((l.map D.int).length : Int) - 1))) [some (.sh (.lst (ls.map tI))), none, none]
        rw [e]
        exact hq
      refine ⟨_, asI_map (fun l : List Int => (l.length : Int) - 1) ls, ?_⟩
      by_cases g : 2000 < (ls.map fun l => (l.length : Int) - 1).sum + 1
      · exact iteBt (decide_eq_true g) (hb c g)
      · refine iteB (decide_eq_false g) ⟨(by decide : 1 ≤ sizeLine), ?_⟩
        exact pr_loop ls [1] none 1 hs (by omega) (by decide) (by decide) (h c (by omega))
end K74

namespace K74
open PySem PySem.Spec L2 DL
open PyProof.Rows hiding St
/-! ### what a tally comes to -/
def horner (x : Int) : List Int → Int → Int
  | [], f => f
  | a :: r, f => horner x r (f * x + a)
def worth (l : List Int) (x : Int) : Int := horner x l.reverse 0
theorem wo_loop {d : D} {x : Int} {P E : D → Prop} {DD : DEnds} (hx : x.natAbs < 2 ^ 20) : ∀ (r : List Int) (f : Int) (y : Option Sl) (j : Nat), f.natAbs < 2 ^ (5000 + 21 * j) → r.length + j ≤ 2000 → (∀ a ∈ r, a.natAbs < 2 ^ 5000) → (∀ y, DD.nx [some (.sh d), some (.sh (.int x)), some (.sh (.int (horner x r f))), y]) →
    dForL (gN 3) (dSet 2 (dFrz (f2 addF (dFrz (f2 mulG (dVar 2) (dVar 1))) (dVar 3)))) E DD (r.map D.int) [some (.sh d), some (.sh (.int x)), some (.sh (.int f)), y]
  | [], f, y, j, _, _, _, h => h y
  | a :: r, f, y, j, hf, hj, ha, h => by
    rw [List.length_cons] at hj
    refine ⟨mul_small hf hx (by omega), ?_⟩
    show dForL _ _ _ _ _ [some (.sh d), some (.sh (.int x)), some (.sh (.int (f * x + a))), some (.sh (.int a))]
    refine wo_loop (P := P) hx r (f * x + a) _ (j + 1) ?_ (by omega) (fun b hb => ha b (List.mem_cons_of_mem _ hb)) h
    have h1 : (f * x).natAbs < 2 ^ (5000 + 21 * j) * 2 ^ 20 := by rw [Int.natAbs_mul]; exact Nat.mul_lt_mul'' hf hx
    have h2 : a.natAbs < 2 ^ (5000 + 21 * j) * 2 ^ 20 := Nat.lt_of_lt_of_le (ha a List.mem_cons_self) (by rw [← Nat.pow_add]; exact Nat.pow_le_pow_right (by decide) (by omega))
    have h3 : 2 ^ (5000 + 21 * (j + 1)) = 2 * (2 ^ (5000 + 21 * j) * 2 ^ 20) := by
      rw [show 5000 + 21 * (j + 1) = 1 + (5000 + 21 * j + 20) by omega, Nat.pow_add, Nat.pow_add, Nat.pow_one, Nat.pow_add]
    have h4 := Int.natAbs_add_le (f * x) a
    omega
theorem m_value {l : List Int} {x : Int} {P E : D → Prop} (tl : Tl l) (hx : x.natAbs < 2 ^ 20) (h : P (.int (worth l x))) : dBody N_value_at.length t_value_at [tI l, .int x] P E := by
  show dForL _ _ _ _ (l.map D.int).reverse [some (.sh (tI l)), some (.sh (.int x)), some (.sh (.int 0)), none]
  rw [← List.map_reverse]
  have hl := tl.len
  exact wo_loop (P := P) hx l.reverse 0 none 0 (by show 0 < _; exact Nat.pow_pos (by decide)) (by rw [List.length_reverse]; omega) (fun a ha => Nat.lt_of_le_of_lt (nrm_mem (List.mem_reverse.mp ha)) tl.nr) fun y => h
theorem m_worth {l : List Int} {x : Int} {P E : D → Prop} (tl : Tl l) (hx : x.natAbs < 2 ^ 20) (h : P (.int (worth l x))) : dBody N__law_worth.length t__law_worth [tI l, .int x] P E := m_value tl hx h
theorem m_tally_at {l : List Int} {x : Int} {P E : D → Prop} (tl : Tl l) (h1 : -1000000 ≤ x) (h2 : x ≤ 1000000) (h : P (.int (worth l x))) : dBody N_tally_at.length t_tally_at [tI l, .int x] P E := by
  refine ⟨rfl, m_need tl.len tl.ct ⟨rfl, m_between ?_⟩⟩
  rw [decide_eq_true (show (0 : Int) - 1000000 ≤ x by omega), decide_eq_true h2]
  exact iteF ⟨rfl, m_value tl (by omega) h⟩
/-! ### quotient_of -/
abbrev e8 (d0 : D) (b left found : List Int) (k : Int) (x5 s : Option Sl) (m : Option D) : DL.Env := [some (.sh d0), some (.sh (tI b)), some (.ol (left.map D.int)), some (.ol (found.map D.int)), some (.sh (.int k)), x5, s, m.map Sl.sh]
abbrev qtIn : TDS := dSetI 2 (d2 subD (dBor (d2 ixD (dVar 2) (dFrz (f2 addF (dVar 4) (dVar 6))))) (dFrz (f2 mulG (dIxO 3 4) (dVar 7)))) (dFrz (f2 addF (dVar 4) (dVar 6)))
theorem qt_row {rx : D → Prop} {DD : DEnds} {d0 : D} {k : Nat} {q : Int} {b0 found : List Int} {x5 : Option Sl} (hk : k < found.length) (hq : co found k = q) : ∀ (b : List Int) (j : Nat) (f : List Int) (s : Option Sl) (m : Option D), k + j + b.length ≤ f.length → (∀ x ∈ b, CMulX q x) → (∀ s m, DD.nx (e8 d0 b0 (addRow f (-q) (k + j) b) found k x5 s m)) →
    dForL (gT 2 (gsCons (gN 6) (gsCons (gN 7) gsNil))) qtIn rx DD (zipFrom j b) (e8 d0 b0 f found k x5 s m)
  | [], j, f, s, m, _, _, h => h s m
  | x :: b, j, f, s, m, hl, hm, h => by
    rw [List.length_cons] at hl
    rw [zipFrom_cons]
    have e1 : atI (f.map D.int) ((k : Int) + (j : Int)) = some (.int (co f (k + j))) := by rw [← Int.natCast_add]; exact atI_ints (by omega)
    have e2 : ixN (f.map D.int).length ((k : Int) + (j : Int)) = some (k + j) := by rw [← Int.natCast_add, List.length_map]; exact ixN_nat (by omega)
    have e3 : atI (found.map D.int) (k : Int) = some (.int q) := by rw [atI_ints hk, hq]
    refine ⟨rfl, _, e1, rfl, rfl, _, e3, hm x List.mem_cons_self, list_ne, _, k + j, rfl, e2, ?_⟩
    have st := qt_row (rx := rx) (DD := DD) (d0 := d0) (b0 := b0) (x5 := x5) hk hq b (j + 1) (f.set (k + j) (co f (k + j) + -q * x)) (some (.sh (.int (j : Int)))) (some (.int x)) (by rw [List.length_set]; omega) (fun y hy => hm y (List.mem_cons_of_mem _ hy)) (fun s m => h s m)
    show dForL _ _ _ _ _ [some (.sh d0), some (.sh (tI b0)), some (.ol ((f.map D.int).set (k + j) (.int (co f (k + j) - q * x)))), some (.ol (found.map D.int)), some (.sh (.int (k : Int))), x5, some (.sh (.int (j : Int))), some (.sh (.int x))]
    rw [Int.sub_eq_add_neg, ← Int.neg_mul, set_map]
    exact st
def downL : Nat → List D
  | 0 => []
  | n + 1 => .int (n : Int) :: downL n
theorem down_eq : ∀ (n : Nat) (i : Int), i = (n : Int) - 1 → (List.range n).map (fun (k : Nat) => D.int (i + k * (-1))) = downL n
  | 0, _, _ => rfl
  | n + 1, i, h => by
    rw [List.range_succ_eq_map, List.map_cons, List.map_map, downL]
    have e0 : D.int (i + ((0 : Nat) : Int) * (-1)) = .int (n : Int) := by congr 1; omega
    rw [e0, ← down_eq n (i - 1) (by omega)]
    congr 1
    refine List.map_congr_left fun k _ => ?_
    show D.int (i + ((k + 1 : Nat) : Int) * (-1)) = D.int (i - 1 + (k : Int) * (-1))
    congr 1
    omega
abbrev qtBody : TDS := dSeq (dSet 5 (dBor (d2 ixD (dVar 2) (d2 subD (dFrz (f2 addF (dVar 4) (dCB lenD (dCons (dVar 1) dNil)))) (dC (.int 1))))))
    (dSeq (dIfS (dTest (d2 neD (d2 modG (dVar 5) (d2 ixD (dVar 1) (d1 negD (dC (.int 1))))) (dC (.int 0)))) (dRet (dC .non)) dNext)
    (dSeq (dSetI 3 (d2 fdivG (dVar 5) (d2 ixD (dVar 1) (d1 negD (dC (.int 1))))) (dVar 4))
    (dFor (dEnumB (dVar 1)) (gT 2 (gsCons (gN 6) (gsCons (gN 7) gsNil))) qtIn)))
theorem quot_abs {t z : Int} (h : t.fmod z = 0) (hz : z ≠ 0) : (t.fdiv z).natAbs ≤ t.natAbs := by
  have e := Int.mul_fdiv_add_fmod t z
  rw [h, Int.add_zero] at e
  have e2 : t.natAbs = z.natAbs * (t.fdiv z).natAbs := by rw [← Int.natAbs_mul, e]
  rw [e2]
  exact Nat.le_mul_of_pos_left _ (by omega)
theorem qt_loop {rx : D → Prop} {DD : DEnds} {d0 : D} {b : List Int} (nb : b ≠ []) (hb : Tl b) : ∀ (k : Nat) (left found : List Int) (x4 x5 s : Option Sl) (m : Option D), k + b.length ≤ left.length + 1 → k ≤ found.length → nrm left * (1 + nrm b) ^ k < 2 ^ 40000 →
    (quo (co b (b.length - 1)) b k left found = none → DD.rt .non) → (∀ l' f', quo (co b (b.length - 1)) b k left found = some (l', f') → ∀ x4 x5 s (m : Option D), DD.nx [some (.sh d0), some (.sh (tI b)), some (.ol (l'.map D.int)), some (.ol (f'.map D.int)), x4, x5, s, m.map Sl.sh]) →
    dForL (gN 4) qtBody rx DD (downL k) [some (.sh d0), some (.sh (tI b)), some (.ol (left.map D.int)), some (.ol (found.map D.int)), x4, x5, s, m.map Sl.sh]
  | 0, left, found, x4, x5, s, m, _, _, _, _, h => h left found rfl x4 x5 s m
  | k + 1, left, found, x4, x5, s, m, hl, hf, hn, h0, h => by
    have b0 : b.length ≠ 0 := fun z => nb (List.eq_nil_of_length_eq_zero z)
    have hz : co b (b.length - 1) ≠ 0 := ct_last hb.ct nb
    have e1 : atI (left.map D.int) ((k : Int) + ((b.map D.int).length : Int) - 1) = some (.int (co left (k + b.length - 1))) := by
      rw [List.length_map, show (k : Int) + (b.length : Int) - 1 = ((k + b.length - 1 : Nat) : Int) by omega]
      exact atI_ints (by omega)
    have n1 : nrm left * (1 + nrm b) * (1 + nrm b) ^ k < 2 ^ 40000 := by rw [Nat.mul_assoc, Nat.mul_comm (1 + nrm b), ← Nat.pow_succ]; exact hn
    have pp : 1 ≤ (1 + nrm b) ^ k := Nat.pow_pos (by omega)
    have n2 : nrm left < 2 ^ 40000 := Nat.lt_of_le_of_lt (Nat.le_trans (Nat.le_mul_of_pos_right _ (by omega)) (Nat.le_mul_of_pos_right _ pp)) n1
    refine ⟨_, e1, rfl, rfl, ?_⟩
    refine ⟨_, atI_last nb, hz, ?_⟩
    simp only [dC]
    refine q_ne ?_
    by_cases c : (co left (k + b.length - 1)).fmod (co b (b.length - 1)) = 0
    · have qa := quot_abs c hz
      have ca := co_nrm left (k + b.length - 1)
      refine iteB (by rw [decide_eq_true c]; rfl) ?_
      have pyl : CDivG (co left (k + b.length - 1)) (co b (b.length - 1)) := ⟨hz, PyProof.noPylong_of_log2 (Nat.lt_of_lt_of_le (PySem.Flt.log2_lt_of (k := 5000) (by decide) (Nat.lt_of_le_of_lt (co_nrm b _) hb.nr)) (by decide))⟩
      have e3 : ixN (found.map D.int).length (k : Int) = some k := by rw [List.length_map]; exact ixN_nat (by omega)
      refine ⟨_, atI_last nb, pyl, list_ne, _, k, rfl, e3, ?_⟩
      unfold quo at h0 h
      rw [if_neg (by rw [c]; exact fun z => z rfl)] at h0
      have h' : ∀ l' f', quo (co b (b.length - 1)) b k (addRow left (-((co left (k + b.length - 1)).fdiv (co b (b.length - 1)))) k b) (found.set k ((co left (k + b.length - 1)).fdiv (co b (b.length - 1)))) = some (l', f') → ∀ x4 x5 s (m : Option D), DD.nx [some (.sh d0), some (.sh (tI b)), some (.ol (l'.map D.int)), some (.ol (f'.map D.int)), x4, x5, s, m.map Sl.sh] := fun l' f' e => h l' f' (by rw [if_neg (by rw [c]; exact fun z => z rfl)]; exact e)
      show dForL _ _ _ _ (zipFrom 0 b) [some (.sh d0), some (.sh (tI b)), some (.ol (left.map D.int)), some (.ol ((found.map D.int).set k (.int ((co left (k + b.length - 1)).fdiv (co b (b.length - 1)))))), some (.sh (.int (k : Int))), some (.sh (.int (co left (k + b.length - 1)))), s, m.map Sl.sh]
      revert h0 h' qa
      generalize (co left (k + b.length - 1)).fdiv (co b (b.length - 1)) = q
      intro qa h0 h'
      have q40 : q.natAbs < 2 ^ 40000 := by omega
      have st : ∀ s m, dForL (gN 4) qtBody rx DD (downL k) (e8 d0 b (addRow left (-q) k b) (found.set k q) k (some (.sh (.int (co left (k + b.length - 1))))) s m) := fun s m =>
        qt_loop nb hb k _ _ _ _ s m (by rw [len_addRow]; omega) (by rw [List.length_set]; omega) (by
          refine Nat.lt_of_le_of_lt (Nat.mul_le_mul_right _ ?_) n1
          refine Nat.le_trans (nrm_addRow _ b left k) ?_
          rw [Int.natAbs_neg, Nat.mul_add, Nat.mul_one]
          exact Nat.add_le_add_left (Nat.mul_le_mul_right _ (Nat.le_trans qa ca)) _) h0 h'
      have row := qt_row (rx := rx) (DD := { nx := dForL (gN 4) qtBody rx DD (downL k), rt := DD.rt, bk := DD.nx, ct := dForL (gN 4) qtBody rx DD (downL k) }) (d0 := d0) (k := k) (q := q) (b0 := b) (found := found.set k q) (x5 := some (.sh (.int (co left (k + b.length - 1)))))
        (by rw [List.length_set]; omega) (by rw [co_set (by omega), if_pos rfl]) b 0 left s m (by omega) (fun y hy => mul_small q40 (Nat.lt_of_le_of_lt (nrm_mem hy) hb.nr) (by decide)) st
      rw [set_map]
      exact row
    · refine iteBt (by rw [decide_eq_false c]; rfl) ?_
      refine h0 ?_
      unfold quo
      rw [if_pos c]
theorem qt_ret {d0 : D} {b l f : List Int} {x4 x5 s : Option Sl} {m : Option D} {P E : D → Prop} (hl : l.length < 16000000) (h0 : l.any (fun x => decide (x ≠ 0)) = true → P .non) (h : l.any (fun x => decide (x ≠ 0)) = false → P (tI (cut f))) :
    (dRet (dIf (dBorT (dTest (dCB (onL anyL) (dCons (dFrz (dComp (dSeqI (dVar 2)) (gN 7) dYes (d2 neD (dVar 7) (dC (.int 0))) [7])) dNil)))) (dC .non) (dCall (dBody N_cut_noughts.length t_cut_noughts) 1 (dCons (dVar 3) dNil)))) E { nx := fun _ => P .non, rt := P }
      [some (.sh d0), some (.sh (tI b)), some (.ol (l.map D.int)), some (.ol (f.map D.int)), x4, x5, s, m.map Sl.sh] := by
  refine q_compM (it := D.int) (f := fun x => D.bl (!decide (x = 0))) (δ0 := [some (.sh d0), some (.sh (tI b)), some (.sh (.lst (l.map D.int))), some (.sh (.lst (f.map D.int))), DL.frz1 x4, DL.frz1 x5, DL.frz1 s, none]) l (by omega) (fun x _ Q hq => ?_) ?_
  · show neD (.int x) (.int 0) fun y => Q (some y) [some (.sh d0), some (.sh (tI b)), some (.sh (.lst (l.map D.int))), some (.sh (.lst (f.map D.int))), DL.frz1 x4, DL.frz1 x5, DL.frz1 s, none]
    exact q_ne hq
  · have e : (l.map fun x => !decide (x = 0)).any _root_.id = l.any (fun x => decide (x ≠ 0)) := by
      rw [List.any_map]
      congr 1
      funext x
      by_cases c : x = 0 <;> simp [c]
    refine ⟨_, asB_map (fun x : Int => !decide (x = 0)) l, by cases m <;> rfl, ?_⟩
    rw [e]
    by_cases c : l.any (fun x => decide (x ≠ 0)) = true
    · rw [c]
      exact iteT (h0 c)
    · rw [Bool.eq_false_iff.mpr c]
      exact iteF ⟨rfl, m_cut (h (Bool.eq_false_iff.mpr c))⟩
theorem quo_len {z : Int} {b : List Int} : ∀ (k : Nat) (left found l' f' : List Int), quo z b k left found = some (l', f') → l'.length = left.length
  | 0, left, found, l', f', h => by cases h; rfl
  | k + 1, left, found, l', f', h => by
    unfold quo at h
    by_cases c : (co left (k + b.length - 1)).fmod z ≠ 0
    · rw [if_pos c] at h; cases h
    · rw [if_neg c] at h
      rw [quo_len k _ _ _ _ h, len_addRow]
theorem m_quot {a b : List Int} {P E : D → Prop} (ha : nrm a < 2 ^ 15000) (la : a.length ≤ 4000) (hk : a.length + 1 - b.length ≤ 13 ∧ nrm b < 2 ^ 1000) (nb : b ≠ []) (hb : Tl b) (h0 : quotF a b = none → P .non) (h : ∀ l, quotF a b = some l → P (tI l)) : dBody N_quotient_of.length t_quotient_of [tI a, tI b] P E := by
  have hlb := hb.len
  have ea : (a.map D.int).length = a.length := List.length_map _
  have eb : (b.map D.int).length = b.length := List.length_map _
  have e : (if (((a.map D.int).length : Int) - ((b.map D.int).length : Int) + 1) > 0 then (((a.map D.int).length : Int) - ((b.map D.int).length : Int) + 1) else 0).toNat = a.length + 1 - b.length := by rw [ea, eb]; split <;> omega
  refine ⟨(by decide : 1 ≤ sizeLine), ⟨by split <;> omega, by split <;> omega, Nat.le_trans (show 1 * _ ≤ 10000 by rw [e]; omega) (by decide)⟩, ?_⟩
  refine ⟨rfl, ⟨⟨by omega, by omega⟩, ⟨by decide, by decide⟩⟩, ?_⟩
  have ed : downD (((a.map D.int).length : Int) - ((b.map D.int).length : Int)) (-1) = downL (a.length + 1 - b.length) := by
    unfold downD
    rw [ea, eb]
    by_cases c : b.length ≤ a.length + 1
    · rw [show ((a.length : Int) - (b.length : Int) - (-1)).toNat = a.length + 1 - b.length by omega]
      exact down_eq _ _ (by omega)
    · rw [show ((a.length : Int) - (b.length : Int) - (-1)).toNat = 0 by omega, show a.length + 1 - b.length = 0 by omega]; rfl
  show dForL _ _ _ _ (downD (((a.map D.int).length : Int) - ((b.map D.int).length : Int)) (-1)) [some (.sh (tI a)), some (.sh (tI b)), some (.ol (a.map D.int)), some (.ol (List.replicate (if (((a.map D.int).length : Int) - ((b.map D.int).length : Int) + 1) > 0 then (((a.map D.int).length : Int) - ((b.map D.int).length : Int) + 1) else 0).toNat [D.int 0]).flatten), none, none, none, none]
  rw [ed, e, rep0]
  by_cases long : b.length ≤ a.length + 1
  · refine qt_loop nb hb _ _ _ none none none none (by omega) (by rw [List.length_replicate]; omega) ?_ ?_ ?_
    · have h1 : (1 + nrm b) ^ (a.length + 1 - b.length) ≤ (2 ^ 1000) ^ 13 := Nat.le_trans (Nat.pow_le_pow_left (by omega) _) (Nat.pow_le_pow_right (Nat.pow_pos (by decide)) hk.1)
      rw [← Nat.pow_mul] at h1
      refine Nat.lt_of_le_of_lt (Nat.mul_le_mul_left _ h1) ?_
      refine Nat.lt_of_lt_of_le (Nat.mul_lt_mul_of_pos_right ha (Nat.pow_pos (by decide))) ?_
      rw [← Nat.pow_add]
      exact Nat.pow_le_pow_right (by decide) (by decide)
    · intro q
      refine h0 ?_
      unfold quotF
      rw [q]
    · intro l' f' q x4 x5 s m
      have qF : quotF a b = if l'.any (fun x => decide (x ≠ 0)) = true then none else some (cut f') := by unfold quotF; rw [q]
      have ll := quo_len _ _ _ _ _ q
      refine qt_ret (by omega) (fun c => h0 ?_) (fun c => h _ ?_)
      · rw [qF, if_pos c]
      · rw [qF, if_neg (by rw [c]; exact Bool.false_ne_true)]
  · have k0 : a.length + 1 - b.length = 0 := by omega
    have qF : quotF a b = if a.any (fun x => decide (x ≠ 0)) = true then none else some (cut (List.replicate (a.length + 1 - b.length) 0)) := by
      unfold quotF
      have q : quo (co b (b.length - 1)) b (a.length + 1 - b.length) a (List.replicate (a.length + 1 - b.length) 0) = some (a, List.replicate (a.length + 1 - b.length) 0) := by rw [k0]; rfl
      rw [q]
    rw [show downL (a.length + 1 - b.length) = [] by rw [k0]; rfl]
    refine qt_ret (x4 := none) (x5 := none) (s := none) (m := none) (by omega) (fun c => h0 ?_) (fun c => h _ ?_)
    · rw [qF, if_pos c]
    · rw [qF, if_neg (by rw [c]; exact Bool.false_ne_true)]
theorem m_through {a b : List Int} {P E : D → Prop} (ha : Tl a) (na : nrm a < 2 ^ 15000) (hk : a.length + 1 - b.length ≤ 13 ∧ nrm b < 2 ^ 1000) (hb : Tl b) (nb : b ≠ []) (h0 : quotF a b = none → P .non) (h : ∀ l, quotF a b = some l → P (tI l)) : dBody N_tally_through.length t_tally_through [tI a, tI b] P E := by
  have e : decide (((b.map D.int).length : Int) = 0) = false := decide_eq_false (by
    rw [List.length_map]
    intro z
    exact nb (List.eq_nil_of_length_eq_zero (by omega)))
  refine ⟨rfl, m_need ha.len ha.ct ⟨rfl, m_need hb.len hb.ct ?_⟩⟩
  refine ⟨_, _, rfl, rfl, rfl, rfl, iteB (b := PyData.eqv (.int ((b.map D.int).length : Int)) (.int 0)) ?_ ?_⟩
  · rw [eqv_int]; exact e
  · exact ⟨rfl, m_quot na (by have := ha.len; omega) hk nb hb h0 h⟩
end K74

namespace K74
open PySem PySem.Spec L2 DL
open PyProof.Rows hiding St
/-! ### the law's own lists -/
theorem lc_loop {rx : D → Prop} {DD : DEnds} {d : D} {l : List Int} (k : ∀ m : Nat, m = cutN l l.length → DD.nx [some (.sh d), some (.ol ((l.take m).map D.int))]) : ∀ (m : Nat), m ≤ l.length → cutN l l.length = cutN l m →
    dWhileN (dBorT (dAnd (dTest (d2 neD (dVar 1) (dLst dNil))) (dTest (d2 eqD (d2 ixD (dVar 1) (d1 negD (dC (.int 1)))) (dC (.int 0)))))) (dExpr (dMut 1 "list" mPop dNil)) rx DD (m + 1) [some (.sh d), some (.ol ((l.take m).map D.int))]
  | 0, h1, h2 => by
    refine ⟨Nat.zero_le _, q_neL (l := []) nofun ?_⟩
    exact ⟨rfl, k 0 h2.symm⟩
  | m + 1, h1, h2 => by
    have lt : (l.take (m + 1)).length = m + 1 := by rw [List.length_take]; omega
    have ne : l.take (m + 1) ≠ [] := fun z => by rw [z] at lt; cases lt
    have e : atI ((l.take (m + 1)).map D.int) (-1) = some (.int (co l m)) := by
      rw [atI_last ne, lt, Nat.add_sub_cancel, co_take, if_pos (Nat.lt_succ_self _)]
    refine ⟨Nat.zero_le _, q_neL (l := (l.take (m + 1)).map D.int) (fun x hx => ?_) ?_⟩
    · obtain ⟨i, _, rfl⟩ := List.mem_map.mp hx
      exact Pd.int i
    · have n2 : (!decide ((l.take (m + 1)).map D.int = [])) = true := by
        rw [decide_eq_false (show ¬ ((l.take (m + 1)).map D.int = []) from fun z => ne (List.map_eq_nil_iff.mp z))]; rfl
      refine iteBt n2 ⟨_, e, ?_⟩
      by_cases c : co l m = 0
      · refine ⟨_, _, rfl, rfl, rfl, rfl, rfl, iteBt (b := PyData.eqv (.int (co l m)) (.int 0)) (by rw [eqv_int]; exact decide_eq_true c) ?_⟩
        refine ⟨rfl, rfl, .int (co l m), ?_, ?_⟩
        · rw [List.length_map, lt, Nat.add_sub_cancel, List.getElem?_map, List.getElem?_take, if_pos (Nat.lt_succ_self _), List.getElem?_eq_getElem (by omega), co_lt (by omega)]; rfl
        · have st := lc_loop (rx := rx) (DD := DD) k m (by omega) (by rw [h2, cutN, if_pos c])
          have ed : ((l.take (m + 1)).map D.int).dropLast = (l.take m).map D.int := by
            rw [List.dropLast_eq_take, List.length_map, lt, Nat.add_sub_cancel, ← List.map_take, List.take_take, Nat.min_eq_left (by omega)]
          show dWhileN _ _ _ _ _ [some (.sh d), some (.ol ((l.take (m + 1)).map D.int).dropLast)]
          rw [ed]
          exact st
      · exact ⟨_, _, rfl, rfl, rfl, rfl, rfl, iteB (b := PyData.eqv (.int (co l m)) (.int 0)) (by rw [eqv_int]; exact decide_eq_false c) (k (m + 1) (by rw [h2, cutN, if_neg c]))⟩
theorem m_lcut {l : List Int} {P E : D → Prop} (h : P (tI (cut l))) : dBody N__law_cut.length t__law_cut [.lst (l.map D.int)] P E := by
  refine ⟨l.length + 1, ?_⟩
  have st := lc_loop (rx := E) (DD := { nx := fun δ' => dRet (dCB tupD (dCons (dVar 1) dNil)) E { nx := fun _ => P .non, rt := P } δ', rt := P }) (d := .lst (l.map D.int)) (l := l) (fun m hm => by
    subst hm
    exact h) l.length (Nat.le_refl _) rfl
  rw [List.take_length] at st
  exact st
def S (ls : List (List Int)) (i : Nat) : Int := (ls.map fun l => co l i).sum
theorem S_cons {l : List Int} {ls : List (List Int)} {i : Nat} : S (l :: ls) i = co l i + S ls i := by unfold S; rw [List.map_cons, List.sum_cons]
theorem co_sumF : ∀ (ls : List (List Int)) (f : List Int) (i : Nat), co (sumF ls f) i = co f i + S ls i
  | [], f, i => by show co f i = co f i + 0; omega
  | l :: ls, f, i => by
    show co (sumF ls (plus f l 1)) i = _
    rw [co_sumF ls, co_plus, S_cons]; omega
theorem ct_sumF : ∀ (ls : List (List Int)) (f : List Int), Ct f → Ct (sumF ls f)
  | [], f, h => h
  | l :: ls, f, _ => ct_sumF ls _ (ct_cut _)
def pick (k : Nat) (l : List Int) : Option Int := if k < l.length then some (co l k) else none
theorem pick_sum (k : Nat) : ∀ ls : List (List Int), (ls.filterMap (pick k)).sum = S ls k
  | [] => rfl
  | l :: ls => by
    rw [S_cons, List.filterMap_cons]
    unfold pick
    by_cases h : k < l.length
    · rw [if_pos h]
      show (co l k :: ls.filterMap (pick k)).sum = _
      rw [List.sum_cons, pick_sum k ls]
    · rw [if_neg h]
      show (ls.filterMap (pick k)).sum = _
      rw [pick_sum k ls, co_ge (by omega), Int.zero_add]
theorem pick_map (k : Nat) : ∀ ls : List (List Int), ls.filterMap (fun l => (pick k l).map D.int) = (ls.filterMap (pick k)).map D.int
  | [] => rfl
  | l :: ls => by
    rw [List.filterMap_cons, List.filterMap_cons, pick_map k ls]
    cases pick k l <;> rfl
theorem m_psum {ls : List (List Int)} {P E : D → Prop} (hs : ∀ l ∈ ls, l.length ≤ 2000) (h10 : ls.length ≤ 10) (h : ∀ r, Ct r → (∀ i, co r i = S ls i) → P (tI r)) : dBody N__law_poly_sum.length t__law_poly_sum [.lst (ls.map tI)] P E := by
  refine q_compM (it := tI) (f := fun l => D.int (l.length : Int)) (δ0 := [some (.sh (.lst (ls.map tI))), none, none, none]) ls (by omega) (fun l _ Q hq => ?_) ?_
  · have e : ((l.map D.int).length : Int) = (l.length : Int) := by rw [List.length_map]
    show Q (some (.int ((l.map D.int).length : Int))) [some (.sh (.lst (ls.map tI))), none, none, none]
    rw [e]
    exact hq
  refine ⟨(by decide : 1 ≤ sizeLine), Nat.le_trans (show _ ≤ 11 by rw [List.length_map]; simp; omega) (by decide), ?_⟩
  have ei : asInts ((ls.map fun l => D.int (l.length : Int)) ++ [D.int 0]) = some ((ls.map fun l => (l.length : Int)) ++ [0]) := by
    have z := asI_map (fun x : Int => x) ((ls.map fun l => (l.length : Int)) ++ [0])
    rw [List.map_append, List.map_map] at z
    rw [List.map_id'] at z
    exact z
  refine ⟨_, ei, by simp, fun M hM hle => ?_⟩
  have M0 : 0 ≤ M := hle 0 (by simp)
  have MB : M ≤ 2000 := by
    rcases List.mem_append.mp hM with z | z
    · obtain ⟨l, hl, rfl⟩ := List.mem_map.mp z
      have := hs l hl
      omega
    · have : M = 0 := by simpa using z
      omega
  have Mge : ∀ l ∈ ls, (l.length : Int) ≤ M := fun l hl => hle _ (List.mem_append_left _ (List.mem_map.mpr ⟨l, hl, rfl⟩))
  refine ⟨⟨by omega, by omega⟩, ?_⟩
  show dCompL _ _ _ _ _ ((List.range (M - 0).toNat).map fun (i : Nat) => D.int (0 + i)) [] [some (.sh (.lst (ls.map tI))), some (.sh (.int M)), none, none]
  refine q_compM (it := fun (i : Nat) => D.int (0 + i)) (f := fun i => D.int (S ls i)) (δ0 := [some (.sh (.lst (ls.map tI))), some (.sh (.int M)), none, none]) _ (by rw [List.length_range]; omega) (fun k hk Q hq => ?_) ?_
  · show dCompL _ _ _ _ _ (ls.map tI) [] [some (.sh (.lst (ls.map tI))), some (.sh (.int M)), none, some (.sh (.int (0 + (k : Int))))]
    refine q_comp (it := tI) (f := fun l => (pick k l).map D.int) (δ0 := [some (.sh (.lst (ls.map tI))), some (.sh (.int M)), none, some (.sh (.int (0 + (k : Int))))]) ls [] (by simp; omega) (fun l hl Q' hq' => ?_) ?_
    · by_cases c : k < l.length
      · refine iteBt (b := decide ((0 : Int) + (k : Int) < ((l.map D.int).length : Int))) (decide_eq_true (by rw [List.length_map]; omega)) ⟨.int (co l k), ?_, ?_⟩
        · rw [Int.zero_add]; exact atI_ints c
        · have e : (pick k l).map D.int = some (.int (co l k)) := by unfold pick; rw [if_pos c]; rfl
          rw [e] at hq'
          exact hq'
      · refine iteB (b := decide ((0 : Int) + (k : Int) < ((l.map D.int).length : Int))) (decide_eq_false (by rw [List.length_map]; omega)) ?_
        have e : (pick k l).map D.int = none := by unfold pick; rw [if_neg c]; rfl
        rw [e] at hq'
        exact hq'
    · rw [List.nil_append, pick_map]
      have z := asI_map (fun x : Int => x) (ls.filterMap (pick k))
      rw [List.map_id'] at z
      refine ⟨_, z, ?_⟩
      rw [pick_sum]
      exact hq
  · have e : (List.range (M - 0).toNat).map (fun i => D.int (S ls i)) = ((List.range M.toNat).map (S ls)).map D.int := by rw [List.map_map, Int.sub_zero]; rfl
    rw [e]
    refine ⟨rfl, m_lcut (h _ (ct_cut _) fun i => ?_)⟩
    rw [co_cut]
    by_cases c : i < M.toNat
    · rw [co_lt (by simpa using c)]
      simp
    · rw [co_ge (by simpa using c)]
      unfold S
      have : ∀ r : List (List Int), (∀ l ∈ r, (l.length : Int) ≤ M) → (r.map fun l => co l i).sum = 0 := fun r => by
        induction r with
        | nil => intro _; rfl
        | cons l r ih =>
          intro hr
          have := hr l List.mem_cons_self
          rw [List.map_cons, List.sum_cons, ih fun y hy => hr y (List.mem_cons_of_mem _ hy), co_ge (by omega)]; rfl
      exact (this ls Mge).symm
end K74

namespace K74
open PySem PySem.Spec L2 DL
open PyProof.Rows hiding St
abbrev ppIn : TDS := dSetI 3 (dFrz (f2 addF (dBor (d2 ixD (dVar 3) (dFrz (f2 addF (dVar 4) (dVar 6))))) (dFrz (f2 mulG (dVar 5) (dVar 7))))) (dFrz (f2 addF (dVar 4) (dVar 6)))
abbrev e9 (d0 d1 d2 : D) (f : List Int) (k : Nat) (c : Int) (s m : Option Sl) : DL.Env := [some (.sh d0), some (.sh d1), some (.sh d2), some (.ol (f.map D.int)), some (.sh (.int (k : Int))), some (.sh (.int c)), s, m]
theorem pp_row {rx : D → Prop} {DD : DEnds} {d0 d1 d2 : D} {k : Nat} {c : Int} : ∀ (b : List Int) (j : Nat) (f : List Int) (s m : Option Sl), k + j + b.length ≤ f.length → (∀ x ∈ b, CMulX c x) → (∀ s m, DD.nx (e9 d0 d1 d2 (addRow f c (k + j) b) k c s m)) →
    dForL (gT 2 (gsCons (gN 6) (gsCons (gN 7) gsNil))) ppIn rx DD (zipFrom j b) (e9 d0 d1 d2 f k c s m)
  | [], j, f, s, m, _, _, h => h s m
  | x :: b, j, f, s, m, hl, hm, h => by
    rw [List.length_cons] at hl
    rw [zipFrom_cons]
    have e1 : atI (f.map D.int) ((k : Int) + (j : Int)) = some (.int (co f (k + j))) := by rw [← Int.natCast_add]; exact atI_ints (by omega)
    have e2 : ixN (f.map D.int).length ((k : Int) + (j : Int)) = some (k + j) := by rw [← Int.natCast_add, List.length_map]; exact ixN_nat (by omega)
    refine ⟨rfl, _, e1, rfl, rfl, hm x List.mem_cons_self, list_ne, _, k + j, rfl, e2, ?_⟩
    have st := pp_row (rx := rx) (DD := DD) (d0 := d0) (d1 := d1) (d2 := d2) (k := k) (c := c) b (j + 1) (f.set (k + j) (co f (k + j) + c * x)) (some (.sh (.int (j : Int)))) (some (.sh (.int x))) (by rw [List.length_set]; omega) (fun y hy => hm y (List.mem_cons_of_mem _ hy)) (fun s m => h s m)
    show dForL _ _ _ _ _ [some (.sh d0), some (.sh d1), some (.sh d2), some (.ol ((f.map D.int).set (k + j) (.int (co f (k + j) + c * x)))), some (.sh (.int (k : Int))), some (.sh (.int c)), some (.sh (.int (j : Int))), some (.sh (.int x))]
    rw [set_map]
    exact st
abbrev ppOut : TDS := dFor (dEnumB (dVar 2)) (gT 2 (gsCons (gN 6) (gsCons (gN 7) gsNil))) ppIn
theorem pp_rows {rx : D → Prop} {DD : DEnds} {d0 d1 : D} {b : List Int} (hb : nrm b < 2 ^ 5000) : ∀ (a : List Int) (k : Nat) (f : List Int) (q r s m : Option Sl), k + a.length + b.length ≤ f.length → nrm a < 2 ^ 50000 → (∀ q r s m, DD.nx [some (.sh d0), some (.sh d1), some (.sh (tI b)), some (.ol ((mulRows f k b a).map D.int)), q, r, s, m]) →
    dForL (gT 2 (gsCons (gN 4) (gsCons (gN 5) gsNil))) ppOut rx DD (zipFrom k a) [some (.sh d0), some (.sh d1), some (.sh (tI b)), some (.ol (f.map D.int)), q, r, s, m]
  | [], k, f, q, r, s, m, _, _, h => h q r s m
  | x :: a, k, f, q, r, s, m, hl, ha, h => by
    rw [List.length_cons] at hl
    rw [nrm_cons] at ha
    rw [zipFrom_cons]
    refine ⟨rfl, ?_⟩
    have st : ∀ s m, dForL (gT 2 (gsCons (gN 4) (gsCons (gN 5) gsNil))) ppOut rx DD (zipFrom (k + 1) a) (e9 d0 d1 (tI b) (addRow f x k b) k x s m) := fun s m =>
      pp_rows hb a (k + 1) (addRow f x k b) _ _ s m (by rw [len_addRow]; omega) (by omega) h
    exact pp_row (DD := { nx := dForL (gT 2 (gsCons (gN 4) (gsCons (gN 5) gsNil))) ppOut rx DD (zipFrom (k + 1) a), rt := DD.rt, bk := DD.nx, ct := dForL (gT 2 (gsCons (gN 4) (gsCons (gN 5) gsNil))) ppOut rx DD (zipFrom (k + 1) a) }) b 0 f s m (by omega) (fun y hy => mul_small (a := 50000) (by omega) (Nat.lt_of_le_of_lt (nrm_mem hy) hb) (by omega)) st
abbrev ppBody : TDS := dSeq (dSetX 3 (f2 mulG (dLst (dCons (dC (.int 0)) dNil)) (dFrz (f2 addF (dCB lenD (dCons (dVar 1) dNil)) (dCB lenD (dCons (dVar 2) dNil))))))
    (dSeq (dFor (dEnumB (dVar 1)) (gT 2 (gsCons (gN 4) (gsCons (gN 5) gsNil))) ppOut)
    (dSet 1 (dCall (dBody N__law_cut.length t__law_cut) 1 (dCons (dVar 3) dNil))))
structure Sm (l : List Int) : Prop where
  len : l.length ≤ 2000
  nr : nrm l < 2 ^ 5000
theorem pp_loop {d : D} {P E : D → Prop} : ∀ (r : List (List Int)) (f : List Int) (x2 x3 x4 x5 x6 x7 : Option Sl) (k : Nat), (∀ l ∈ r, Sm l) → r.length + k ≤ 4 → f.length ≤ 2001 * k → nrm f < 2 ^ (5000 * k) → P (tI (prodF r f)) →
    dForL (gN 2) ppBody E { nx := fun δ' => dRet (dVar 1) E { nx := fun _ => P .non, rt := P } δ', rt := P } (r.map tI) [some (.sh d), some (.sh (tI f)), x2, x3, x4, x5, x6, x7]
  | [], f, x2, x3, x4, x5, x6, x7, k, _, _, _, _, h => h
  | l :: r, f, x2, x3, x4, x5, x6, x7, k, hr, hk, hf, hn, h => by
    have tl := hr l List.mem_cons_self
    have hl := tl.len
    rw [List.length_cons] at hk
    have e : ((f.map D.int).length : Int) + ((l.map D.int).length : Int) = ((f.length + l.length : Nat) : Int) := by simp
    refine ⟨(by decide : 1 ≤ sizeLine), ⟨by omega, by rw [e]; omega, Nat.le_trans (show 1 * ((((f.map D.int).length : Int) + ((l.map D.int).length : Int)).toNat) ≤ 100000 by rw [e]; omega) (by decide)⟩, ?_⟩
    show dForL _ _ _ _ (zipFrom 0 f) [some (.sh d), some (.sh (tI f)), some (.sh (tI l)), some (.ol (List.replicate (((f.map D.int).length : Int) + ((l.map D.int).length : Int)).toNat [D.int 0]).flatten), x4, x5, x6, x7]
    rw [e, Int.toNat_natCast, rep0]
    refine pp_rows tl.nr f 0 _ x4 x5 x6 x7 (by simp) (p5000 hn (by omega)) fun q4 q5 q6 q7 => ?_
    refine ⟨rfl, m_lcut ?_⟩
    have z := len_times_le f l
    refine pp_loop r (times f l) _ _ _ _ _ _ (k + 1) (fun y hy => hr y (List.mem_cons_of_mem _ hy)) (by omega) (by omega) ?_ h
    refine Nat.lt_of_le_of_lt (nrm_times f l) ?_
    rw [Nat.mul_add, Nat.mul_one, Nat.pow_add]
    exact Nat.mul_lt_mul'' hn tl.nr
theorem m_pprod {ls : List (List Int)} {P E : D → Prop} (hs : ∀ l ∈ ls, Sm l) (h3 : ls.length ≤ 3) (h : P (tI (prodF ls [1]))) : dBody N__law_poly_product.length t__law_poly_product [.lst (ls.map tI)] P E :=
  ⟨(by decide : 1 ≤ sizeLine), pp_loop ls [1] none none none none none none 1 hs (by omega) (by decide) (by decide) h⟩
theorem m_power {k : Nat} (hk : k ≤ 1000) {P E : D → Prop} (h : P (tI (List.replicate k 0 ++ [1]))) : dBody N__law_power.length t__law_power [.int k] P E := by
  refine ⟨(by decide : 1 ≤ sizeLine), ⟨nofun, by omega, by omega, Nat.le_trans (show 1 * (k : Int).toNat ≤ 1000 by omega) (by decide)⟩, (by decide : 1 ≤ sizeLine), ?_⟩
  refine ⟨Nat.le_trans (show _ ≤ 1001 by rw [rep0]; simp; omega) (by decide), ?_⟩
  show P (.tup ((List.replicate (k : Int).toNat [D.int 0]).flatten ++ [D.int 1]))
  rw [rep0, Int.toNat_natCast]
  rw [show (List.replicate k (0 : Int)).map D.int ++ [D.int 1] = (List.replicate k (0 : Int) ++ [1]).map D.int by rw [List.map_append]; rfl]
  exact h
def drawn8 : List Int := [0, 0, 1, -1, 2, 7, -30, 10 ^ 20]
theorem d8_small : ∀ x ∈ drawn8, x.natAbs ≤ 10 ^ 20 := by decide
theorem nrm_le {l : List Int} (h : ∀ x ∈ l, x ∈ drawn8) : nrm l ≤ l.length * 10 ^ 20 := by
  induction l with
  | nil => exact Nat.le_refl _
  | cons a l ih =>
    have h1 := ih fun x hx => h x (List.mem_cons_of_mem _ hx)
    have h2 := d8_small a (h a List.mem_cons_self)
    rw [nrm_cons, List.length_cons, Nat.add_mul]
    omega
theorem ta_loop {Pf : List D → DL.Env → Prop} {w : D} (hw : w = .lst (drawn8.map D.int)) : ∀ (js : List D) (acc : List Int), acc.length + js.length ≤ 6 → (∀ x ∈ acc, x ∈ drawn8) → (∀ l : List Int, l.length ≤ 6 → (∀ x ∈ l, x ∈ drawn8) → Pf (l.map D.int) [some (.sh .drw), some (.sh w), none]) →
    dCompL (gN 2) dYes (dCall (dBody N__law_pick.length t__law_pick) 2 (dCons (dVar 0) (dCons (dVar 1) dNil))) [2] Pf js (acc.map D.int) [some (.sh .drw), some (.sh w), none]
  | [], acc, hl, ha, h => h acc (by simpa using hl) ha
  | j :: js, acc, hl, ha, h => by
    rw [List.length_cons] at hl
    refine ⟨rfl, p_pick (l := drawn8.map D.int) (.inl hw) (by decide) (by decide) fun x hx => ?_⟩
    obtain ⟨i, hi, rfl⟩ := List.mem_map.mp hx
    refine ⟨Nat.lt_of_le_of_lt (show _ ≤ 6 by rw [List.length_map]; omega) (by decide), ?_⟩
    have st := ta_loop (Pf := Pf) hw js (acc ++ [i]) (by rw [List.length_append]; simp; omega) (fun x hx => by
      rcases List.mem_append.mp hx with z | z
      · exact ha x z
      · rw [List.mem_singleton.mp z]; exact hi) h
    rw [List.map_append] at st
    exact st
theorem m_ltally {P E : D → Prop} (h : ∀ l, Ct l → l.length ≤ 6 → nrm l < 2 ^ 100 → P (tI l)) : dBody N__law_tally.length t__law_tally [.drw] P E := by
  refine ⟨⟨by decide, by decide, by decide⟩, (by decide : 8 ≤ sizeLine), rfl, p_take (by decide) (by decide) fun r r0 r1 => ⟨⟨by omega, by omega⟩, ?_⟩⟩
  refine ta_loop (w := .lst (drawn8.map D.int)) rfl (rangeD 0 r) [] (by unfold rangeD; rw [List.length_map, List.length_range]; simp; omega) nofun fun l hl hd => ?_
  refine ⟨rfl, m_lcut (h _ (ct_cut l) ?_ ?_)⟩
  · rw [len_cut]
    exact Nat.le_trans (cutN_le _ _) hl
  · refine Nat.lt_of_le_of_lt (nrm_take _ _) (Nat.lt_of_le_of_lt (nrm_le hd) ?_)
    exact Nat.lt_of_le_of_lt (Nat.mul_le_mul_right _ hl) (by decide)
end K74

namespace K74
open PySem PySem.Spec L2 DL
open PyProof.Rows hiding St
theorem rangeN (n : Nat) : rangeD 0 (n : Int) = (List.range n).map fun (i : Nat) => D.int (i : Int) := by
  unfold rangeD
  rw [Int.sub_zero, Int.toNat_natCast]
  refine List.map_congr_left fun k _ => ?_
  rw [Int.zero_add]
def row (n k : Nat) : List Int := List.replicate k 0 ++ [-1] ++ List.replicate (n - k - 1) 0 ++ [1]
def wf (n : Nat) : List Nat → List Int → List Int
  | [], f => f
  | k :: ks, f => wf n ks (times f (row n k))
def wholeF (n : Nat) : List Int := wf n (List.range n) [1]
theorem nrm_app : ∀ a b : List Int, nrm (a ++ b) = nrm a + nrm b
  | [], b => by rw [List.nil_append, show nrm [] = 0 from rfl, Nat.zero_add]
  | x :: a, b => by rw [List.cons_append, nrm_cons, nrm_cons, nrm_app a b, Nat.add_assoc]
theorem nrm_row (n k : Nat) : nrm (row n k) = 2 := by
  unfold row
  rw [nrm_app, nrm_app, nrm_app, nrm_rep, nrm_rep]; rfl
theorem wl_loop {P E : D → Prop} {n : Nat} (hn : n ≤ 12) : ∀ (ks : List Nat) (f : List Int) (x : Option Sl) (j : Nat), (∀ k ∈ ks, k < n) → ks.length + j ≤ 12 → f.length ≤ 1 + 14 * j → nrm f < 2 ^ (1 + 2 * j) → P (tI (wf n ks f)) →
    dForL (gN 2) (dSet 1 (dCall (dBody N_tally_times.length t_tally_times) 2 (dCons (dVar 1) (dCons (dFrz (f2 addF (dFrz (f2 addF (dFrz (f2 addF (dFrz (f2 mulG (dTup (dCons (dC (.int 0)) dNil)) (dVar 2))) (dTup (dCons (d1 negD (dC (.int 1))) dNil)))) (dFrz (f2 mulG (dTup (dCons (dC (.int 0)) dNil)) (d2 subD (d2 subD (dVar 0) (dVar 2)) (dC (.int 1))))))) (dTup (dCons (dC (.int 1)) dNil)))) dNil)))) E { nx := fun δ' => dRet (dVar 1) E { nx := fun _ => P .non, rt := P } δ', rt := P }
      (ks.map fun (i : Nat) => D.int (i : Int)) [some (.sh (.int (n : Int))), some (.sh (tI f)), x]
  | [], f, x, j, _, _, _, _, h => h
  | k :: ks, f, x, j, hk, hj, hf, hfn, h => by
    have kn := hk k List.mem_cons_self
    rw [List.length_cons] at hj
    have ek : (List.replicate (k : Int).toNat [D.int 0]).flatten = (List.replicate k (0 : Int)).map D.int := by rw [Int.toNat_natCast, rep0]
    have en : (List.replicate ((n : Int) - (k : Int) - 1).toNat [D.int 0]).flatten = (List.replicate (n - k - 1) (0 : Int)).map D.int := by
      rw [show ((n : Int) - (k : Int) - 1).toNat = n - k - 1 by omega, rep0]
    have er : (((List.replicate (k : Int).toNat [D.int 0]).flatten ++ [D.int (-1)]) ++ (List.replicate ((n : Int) - (k : Int) - 1).toNat [D.int 0]).flatten) ++ [D.int 1] = (row n k).map D.int := by
      rw [ek, en]
      unfold row
      rw [List.map_append, List.map_append, List.map_append]; rfl
    refine ⟨(by decide : 1 ≤ sizeLine), ⟨nofun, by omega, by omega, Nat.le_trans (show 1 * (k : Int).toNat ≤ 1000 by omega) (by decide)⟩, (by decide : 1 ≤ sizeLine), ?_⟩
    refine ⟨Nat.le_trans (show _ ≤ 1001 by rw [ek]; simp; omega) (by decide), (by decide : 1 ≤ sizeLine), ⟨nofun, by omega, by omega, Nat.le_trans (show 1 * ((n : Int) - (k : Int) - 1).toNat ≤ 1000 by omega) (by decide)⟩, ?_⟩
    refine ⟨Nat.le_trans (show _ ≤ 1001 by rw [ek, en]; simp; omega) (by decide), (by decide : 1 ≤ sizeLine), ?_⟩
    refine ⟨Nat.le_trans (show _ ≤ 1001 by rw [ek, en]; simp; omega) (by decide), ?_⟩
    rw [er]
    have lr : (row n k).length = n + 1 := by unfold row; simp; omega
    refine ⟨rfl, m_times (B := 2) (by rw [nrm_row]; decide) (by decide) (Nat.lt_of_lt_of_le hfn (Nat.pow_le_pow_right (by decide) (by omega))) (by omega) ?_⟩
    have z := len_times_le f (row n k)
    refine wl_loop hn ks (times f (row n k)) _ (j + 1) (fun y hy => hk y (List.mem_cons_of_mem _ hy)) (by omega) (by omega) ?_ h
    refine Nat.lt_of_le_of_lt (nrm_times f (row n k)) ?_
    rw [nrm_row, show 1 + 2 * (j + 1) = 1 + 2 * j + 2 by omega, Nat.pow_add]
    omega
theorem m_whole {n : Nat} (hn : n ≤ 12) {P E : D → Prop} (h : P (tI (wholeF n))) : dBody N_whole_of_size.length t_whole_of_size [.int (n : Int)] P E := by
  refine ⟨(by decide : 1 ≤ sizeLine), ⟨by omega, by omega⟩, ?_⟩
  rw [rangeN]
  exact wl_loop hn (List.range n) [1] none 0 (fun k hk => List.mem_range.mp hk) (by rw [List.length_range]; omega) (by decide) (by decide) h
theorem m_whole_tally {n : Nat} (hn : n ≤ 12) {P E : D → Prop} (h : P (tI (wholeF n))) : dBody N_whole_tally.length t_whole_tally [.int (n : Int)] P E := by
  refine ⟨rfl, m_between ?_⟩
  rw [decide_eq_true (show (0 : Int) ≤ n by omega), decide_eq_true (show (n : Int) ≤ 12 by omega)]
  exact iteF ⟨rfl, m_whole hn h⟩
def raised (l : List Int) (p : Nat) : List Int := if 0 < l.length then List.replicate p 0 ++ l else []
theorem m_raised {l : List Int} {p : Nat} (hp : p ≤ 1000) (hl : l.length ≤ 2000) {P E : D → Prop} (h : P (tI (raised l p))) : dBody N_raised_tally.length t_raised_tally [tI l, .int (p : Int)] P E := by
  unfold raised at h
  by_cases c : 0 < l.length
  · rw [if_pos c] at h
    refine iteBt (b := decide ((0 : Int) < ((l.map D.int).length : Int))) (decide_eq_true (by rw [List.length_map]; omega)) ?_
    have ek : (List.replicate (p : Int).toNat [D.int 0]).flatten = (List.replicate p (0 : Int)).map D.int := by rw [Int.toNat_natCast, rep0]
    refine ⟨(by decide : 1 ≤ sizeLine), ⟨nofun, by omega, by omega, Nat.le_trans (show 1 * (p : Int).toNat ≤ 1000 by omega) (by decide)⟩, ?_⟩
    refine ⟨Nat.le_trans (show _ ≤ 10000 by rw [ek]; simp; omega) (by decide), ?_⟩
    show P (.tup ((List.replicate (p : Int).toNat [D.int 0]).flatten ++ l.map D.int))
    rw [ek, ← List.map_append]
    exact h
  · rw [if_neg c] at h
    exact iteB (b := decide ((0 : Int) < ((l.map D.int).length : Int))) (decide_eq_false (by rw [List.length_map]; omega)) ⟨Nat.zero_le _, h⟩
/-- what choices_of divides -/
def under (n p : Nat) : List Int := raised (times (wholeF p) (wholeF (n - p))) (p * (n - p))
def okC (n p : Nat) (r : List Int) : Bool := decide (nrm (wholeF p) < 2 ^ 100) && decide (nrm (wholeF (n - p)) < 2 ^ 100) && decide ((wholeF p).length + (wholeF (n - p)).length ≤ 1000) && decide (nrm (wholeF n) < 2 ^ 100) && decide ((wholeF n).length ≤ 1000) && decide ((wholeF n).length + 1 - (under n p).length ≤ 13) &&
  decide (nrm (under n p) < 2 ^ 1000) && decide (under n p ≠ []) && decide (Ct (under n p)) && decide ((under n p).length ≤ 2000) && decide (quotF (wholeF n) (under n p) = some r)
theorem m_choices {n p : Nat} {r : List Int} (hn : n ≤ 12) (hp : p ≤ 12) (hpn : p ≤ n) (ok : okC n p r = true) {P E : D → Prop} (h : P (tI r)) : dBody N_choices_of.length t_choices_of [.int (n : Int), .int (p : Int)] P E := by
  unfold okC at ok
  simp only [Bool.and_eq_true, decide_eq_true_eq] at ok
  obtain ⟨⟨⟨⟨⟨⟨⟨⟨⟨⟨o1, o2⟩, o3⟩, o4⟩, o5⟩, o6⟩, o7⟩, o8⟩, o9⟩, o10⟩, o11⟩ := ok
  have big : ∀ {x : Nat}, x < 2 ^ 100 → x < 2 ^ 50000 := fun h => Nat.lt_of_lt_of_le h (Nat.pow_le_pow_right (by decide) (by decide))
  refine iteB (b := decide ((n : Int) < (p : Int))) (decide_eq_false (by omega)) ?_
  have e1 : (n : Int) - (p : Int) = ((n - p : Nat) : Int) := by omega
  have e2 : (p : Int) * ((n : Int) - (p : Int)) = ((p * (n - p) : Nat) : Int) := by rw [e1, ← Int.natCast_mul]
  refine ⟨rfl, m_whole (n := p) hp ⟨rfl, ?_⟩⟩
  show dBody N_whole_of_size.length t_whole_of_size [.int ((n : Int) - (p : Int))] _ _
  rw [e1]
  refine m_whole (by omega) ⟨rfl, m_times (B := 100) o2 (by decide) (big o1) (by omega) ?_⟩
  refine ⟨rfl, m_whole hn ⟨mul_small (a := 4) (b := 4) (by omega) (by omega) (by decide), rfl, ?_⟩⟩
  show dBody N_raised_tally.length t_raised_tally [tI (times (wholeF p) (wholeF (n - p))), .int ((p : Int) * ((n : Int) - (p : Int)))] _ _
  rw [e2]
  have pm : p * (n - p) ≤ 12 * 12 := Nat.mul_le_mul hp (by omega)
  have lt := len_times_le (wholeF p) (wholeF (n - p))
  refine m_raised (by omega) (by omega) ⟨rfl, ?_⟩
  refine m_quot (a := wholeF n) (b := under n p) (Nat.lt_of_lt_of_le o4 (Nat.pow_le_pow_right (by decide) (by decide))) (by omega) ⟨o6, o7⟩ o8 ⟨o9, o10, Nat.lt_of_lt_of_le o7 (Nat.pow_le_pow_right (by decide) (by decide))⟩ (fun z => ?_) fun l z => ?_
  · rw [o11] at z; cases z
  · rw [o11] at z
    cases z
    exact h
theorem m_choices_none {n p : Nat} (hpn : n < p) {P E : D → Prop} (h : P (tI [])) : dBody N_choices_of.length t_choices_of [.int (n : Int), .int (p : Int)] P E :=
  iteBt (b := decide ((n : Int) < (p : Int))) (decide_eq_true (by omega)) ⟨Nat.zero_le _, h⟩
def choF (n p : Nat) (r : List Int) : Prop := (n < p ∧ r = []) ∨ (p ≤ n ∧ okC n p r = true)
theorem m_choices_tally {n p : Nat} {r : List Int} (hn : n ≤ 12) (hp : p ≤ 12) (ok : choF n p r) {P E : D → Prop} (h : P (tI r)) : dBody N_choices_tally.length t_choices_tally [.int (n : Int), .int (p : Int)] P E := by
  refine ⟨rfl, m_between ?_⟩
  rw [decide_eq_true (show (0 : Int) ≤ n by omega), decide_eq_true (show (n : Int) ≤ 12 by omega)]
  refine iteF ⟨rfl, m_between ?_⟩
  rw [decide_eq_true (show (0 : Int) ≤ p by omega), decide_eq_true (show (p : Int) ≤ 12 by omega)]
  refine iteF ⟨rfl, ?_⟩
  rcases ok with ⟨c, rfl⟩ | ⟨c, ok⟩
  · exact m_choices_none c h
  · exact m_choices hn hp c ok h
/-! count_whole -/
def cw1 (p : Int) : Nat → Int → Int
  | 0, w => w
  | n + 1, w => cw1 p n (w * p)
def cw2 (p w : Int) : Nat → Int → Int → Int
  | 0, _, f => f
  | n + 1, t, f => cw2 p w n (t * p) (f * (w - t))
def cntF (p : Int) (n : Nat) : Int := cw2 p (cw1 p n 1) n 1 1
theorem m_prime {p : Int} (hp : p ∈ [2, 3, 5, 7, 97]) {P E : D → Prop} (h : P .non) : dBody N_need_prime.length t_need_prime [.int p] P E := by
  refine ⟨rfl, rfl, m_number ⟨[2, 3, 5, 7, 11, 13, 17, 19, 23, 29, 31, 37, 41, 43, 47, 53, 59, 61, 67, 71, 73, 79, 83, 89, 97], rfl, ?_⟩⟩
  have e : decide (p ∈ [2, 3, 5, 7, 11, 13, 17, 19, 23, 29, 31, 37, 41, 43, 47, 53, 59, 61, 67, 71, 73, 79, 83, 89, 97]) = true := by
    simp only [List.mem_cons, List.not_mem_nil, or_false] at hp
    rcases hp with rfl | rfl | rfl | rfl | rfl <;> decide
  rw [e]
  exact h
theorem c1_loop {rx : D → Prop} {DD : DEnds} {p : Int} {s t f : Option Sl} (pb : p.natAbs < 2 ^ 7) : ∀ (ks : List D) (w : Int) (x : Option Sl) (j : Nat), w.natAbs < 2 ^ (1 + 7 * j) → ks.length + j ≤ 7 → (∀ x, DD.nx [some (.sh (.int p)), s, some (.sh (.int (cw1 p ks.length w))), t, f, x]) →
    dForL (gN 5) (dSet 2 (dFrz (f2 mulG (dVar 2) (dVar 0)))) rx DD ks [some (.sh (.int p)), s, some (.sh (.int w)), t, f, x]
  | [], w, x, j, _, _, h => h x
  | k :: ks, w, x, j, hw, hj, h => by
    rw [List.length_cons] at hj
    refine ⟨mul_small hw pb (by omega), ?_⟩
    show dForL _ _ _ _ ks [some (.sh (.int p)), s, some (.sh (.int (w * p))), t, f, some (.sh k)]
    refine c1_loop pb ks (w * p) _ (j + 1) ?_ (by omega) h
    rw [Int.natAbs_mul, show 1 + 7 * (j + 1) = 1 + 7 * j + 7 by omega, Nat.pow_add]
    exact Nat.mul_lt_mul'' hw pb
theorem c2_loop {rx : D → Prop} {DD : DEnds} {p w : Int} {s : Option Sl} (pb : p.natAbs < 2 ^ 7) (wb : w.natAbs < 2 ^ 60) : ∀ (ks : List D) (t f : Int) (x : Option Sl) (j : Nat), t.natAbs < 2 ^ (1 + 7 * j) → f.natAbs < 2 ^ (1 + 62 * j) → ks.length + j ≤ 7 → (∀ t' x, DD.nx [some (.sh (.int p)), s, some (.sh (.int w)), t', some (.sh (.int (cw2 p w ks.length t f))), x]) →
    dForL (gN 5) (dPar 4 3 (f2 mulG (dVar 4) (d2 subD (dVar 2) (dVar 3))) (f2 mulG (dVar 3) (dVar 0))) rx DD ks [some (.sh (.int p)), s, some (.sh (.int w)), some (.sh (.int t)), some (.sh (.int f)), x]
  | [], t, f, x, j, _, _, _, h => h _ x
  | k :: ks, t, f, x, j, ht, hf, hj, h => by
    rw [List.length_cons] at hj
    have t60 : t.natAbs < 2 ^ 60 := Nat.lt_of_lt_of_le ht (Nat.pow_le_pow_right (by decide) (by omega))
    have d62 : (w - t).natAbs < 2 ^ 62 := by
      have : (w - t).natAbs ≤ w.natAbs + t.natAbs := Int.natAbs_sub_le w t
      omega
    refine ⟨mul_small hf d62 (by omega), mul_small ht pb (by omega), ?_⟩
    show dForL _ _ _ _ ks [some (.sh (.int p)), s, some (.sh (.int w)), some (.sh (.int (t * p))), some (.sh (.int (f * (w - t)))), some (.sh k)]
    refine c2_loop pb wb ks (t * p) (f * (w - t)) _ (j + 1) ?_ ?_ (by omega) h
    · rw [Int.natAbs_mul, show 1 + 7 * (j + 1) = 1 + 7 * j + 7 by omega, Nat.pow_add]
      exact Nat.mul_lt_mul'' ht pb
    · rw [Int.natAbs_mul, show 1 + 62 * (j + 1) = 1 + 62 * j + 62 by omega, Nat.pow_add]
      exact Nat.mul_lt_mul'' hf d62
theorem cw1_small {p : Int} (pb : p.natAbs < 2 ^ 7) : ∀ (n : Nat) (w : Int) (j : Nat), w.natAbs < 2 ^ (1 + 7 * j) → (cw1 p n w).natAbs < 2 ^ (1 + 7 * (n + j))
  | 0, w, j, h => by rw [Nat.zero_add]; exact h
  | n + 1, w, j, h => by
    have := cw1_small pb n (w * p) (j + 1) (by
      rw [Int.natAbs_mul, show 1 + 7 * (j + 1) = 1 + 7 * j + 7 by omega, Nat.pow_add]
      exact Nat.mul_lt_mul'' h pb)
    rw [show n + 1 + j = n + (j + 1) by omega]
    exact this
theorem m_count {p : Int} {n : Nat} (hp : p ∈ [2, 3, 5, 7, 97]) (hn : n ≤ 7) {P E : D → Prop} (h : P (.int (cntF p n))) : dBody N_count_whole.length t_count_whole [.int p, .int (n : Int)] P E := by
  have pb : p.natAbs < 2 ^ 7 := by
    simp only [List.mem_cons, List.not_mem_nil, or_false] at hp
    rcases hp with rfl | rfl | rfl | rfl | rfl <;> decide
  refine ⟨rfl, m_prime hp ⟨rfl, m_between ?_⟩⟩
  rw [decide_eq_true (show (0 : Int) ≤ n by omega), decide_eq_true (show (n : Int) ≤ 60 by omega)]
  refine iteF ⟨(by decide : 3 ≤ sizeLine), rfl, ⟨by omega, by omega⟩, ?_⟩
  have lr : (rangeD 0 (n : Int)).length = n := by rw [rangeN]; simp
  refine c1_loop pb (rangeD 0 (n : Int)) 1 none 0 (by decide) (by omega) fun x => ?_
  rw [lr]
  refine ⟨⟨by omega, by omega⟩, ?_⟩
  have wb := cw1_small pb n 1 0 (by decide)
  refine c2_loop pb (Nat.lt_of_lt_of_le wb (Nat.pow_le_pow_right (by decide) (by omega))) (rangeD 0 (n : Int)) 1 1 _ 0 (by decide) (by decide) (by omega) fun t' x' => ?_
  rw [lr]
  exact h
end K74

namespace K74
open PySem PySem.Spec L2 DL
open PyProof.Rows hiding St
def less0 (n k : Nat) : List Int := let l1 := (List.replicate (n + 1) (0 : Int)).set n (co (List.replicate (n + 1) 0) n + 1); l1.set k (co l1 k + -1)
def lessF (n k : Nat) : List Int := cut (less0 n k)
def en (n : Nat) : List Nat → List Int → List Int
  | [], f => f
  | k :: ks, f => en n ks (prodF [f, lessF n k] [1])
def endsF (n : Nat) : List Int := en n (List.range n) [1]
theorem nrm_less (n k : Nat) : nrm (lessF n k) ≤ 2 := by
  unfold lessF cut
  refine Nat.le_trans (nrm_take _ _) ?_
  unfold less0
  refine Nat.le_trans (nrm_set _ _ _) ?_
  have h := nrm_set (List.replicate (n + 1) (0 : Int)) n 1
  rw [nrm_rep] at h
  have : (-1 : Int).natAbs = 1 := rfl
  have : (1 : Int).natAbs = 1 := rfl
  omega
theorem len_less (n k : Nat) : (lessF n k).length ≤ n + 1 := by
  unfold lessF
  rw [len_cut]
  refine Nat.le_trans (cutN_le _ _) ?_
  unfold less0
  simp
abbrev enBody : TDS := dSeq (dSetX 3 (f2 mulG (dLst (dCons (dC (.int 0)) dNil)) (dFrz (f2 addF (dVar 0) (dC (.int 1))))))
    (dSeq (dSetI 3 (dFrz (f2 addF (dIxO 3 0) (dC (.int 1)))) (dVar 0))
    (dSeq (dSetI 3 (d2 subD (dIxO 3 2) (dC (.int 1))) (dVar 2))
    (dSet 1 (dCall (dBody N__law_poly_product.length t__law_poly_product) 1 (dCons (dLst (dCons (dVar 1) (dCons (dCall (dBody N__law_cut.length t__law_cut) 1 (dCons (dVar 3) dNil)) dNil))) dNil)))))
theorem en_loop {P E : D → Prop} {n : Nat} (hn : n ≤ 7) : ∀ (ks : List Nat) (f : List Int) (x y : Option Sl) (j : Nat), (∀ k ∈ ks, k < n) → ks.length + j ≤ 7 → f.length ≤ 1 + 20 * j → nrm f < 2 ^ (1 + 2 * j) → P (tI (en n ks f)) →
    dForL (gN 2) enBody E { nx := fun δ' => dRet (dVar 1) E { nx := fun _ => P .non, rt := P } δ', rt := P } (ks.map fun (i : Nat) => D.int (i : Int)) [some (.sh (.int (n : Int))), some (.sh (tI f)), x, y]
  | [], f, x, y, j, _, _, _, _, h => h
  | k :: ks, f, x, y, j, hk, hj, hf, hfn, h => by
    have kn := hk k List.mem_cons_self
    rw [List.length_cons] at hj
    have e0 : (List.replicate ((n : Int) + 1).toNat [D.int 0]).flatten = (List.replicate (n + 1) (0 : Int)).map D.int := by rw [show ((n : Int) + 1).toNat = n + 1 by omega, rep0]
    refine ⟨(by decide : 1 ≤ sizeLine), ⟨by omega, by omega, Nat.le_trans (show 1 * ((n : Int) + 1).toNat ≤ 1000 by omega) (by decide)⟩, ?_⟩
    have i1 : atI ((List.replicate (n + 1) (0 : Int)).map D.int) (n : Int) = some (.int (co (List.replicate (n + 1) 0) n)) := atI_ints (by simp)
    have i2 : ixN ((List.replicate (n + 1) (0 : Int)).map D.int).length (n : Int) = some n := by rw [List.length_map, List.length_replicate]; exact ixN_nat (by omega)
    show (dSeq (dSetI 3 (dFrz (f2 addF (dIxO 3 0) (dC (.int 1)))) (dVar 0)) _) _ _ [some (.sh (.int (n : Int))), some (.sh (tI f)), some (.sh (.int (k : Int))), some (.ol (List.replicate ((n : Int) + 1).toNat [D.int 0]).flatten)]
    rw [e0]
    refine ⟨_, i1, list_ne, _, n, rfl, i2, ?_⟩
    show (dSeq (dSetI 3 (d2 subD (dIxO 3 2) (dC (.int 1))) (dVar 2)) _) _ _ [some (.sh (.int (n : Int))), some (.sh (tI f)), some (.sh (.int (k : Int))), some (.ol (((List.replicate (n + 1) (0 : Int)).map D.int).set n (.int (co (List.replicate (n + 1) 0) n + 1))))]
    rw [set_map]
    have l1 : ((List.replicate (n + 1) (0 : Int)).set n (co (List.replicate (n + 1) 0) n + 1)).length = n + 1 := by simp
    have e2 : less0 n k = ((List.replicate (n + 1) (0 : Int)).set n (co (List.replicate (n + 1) 0) n + 1)).set k (co ((List.replicate (n + 1) (0 : Int)).set n (co (List.replicate (n + 1) 0) n + 1)) k + -1) := rfl
    revert l1 e2
    generalize (List.replicate (n + 1) (0 : Int)).set n (co (List.replicate (n + 1) 0) n + 1) = m1
    intro l1 e2
    have i3 : atI (m1.map D.int) (k : Int) = some (.int (co m1 k)) := atI_ints (by omega)
    have i4 : ixN (m1.map D.int).length (k : Int) = some k := by rw [List.length_map]; exact ixN_nat (by omega)
    refine ⟨_, i3, list_ne, _, k, rfl, i4, ?_⟩
    simp only [List.set_cons_succ, List.set_cons_zero]
    rw [Int.sub_eq_add_neg, set_map, ← e2]
    have zl := len_less n k
    have zn := nrm_less n k
    refine ⟨rfl, m_lcut ⟨(by decide : 2 ≤ sizeLine), rfl, ?_⟩⟩
    refine m_pprod (ls := [f, lessF n k]) (fun l hl => ?_) (by simp) ?_
    · rcases List.mem_cons.mp hl with rfl | hl
      · exact ⟨by omega, Nat.lt_of_lt_of_le hfn (Nat.pow_le_pow_right (by decide) (by omega))⟩
      · obtain rfl := List.mem_singleton.mp hl
        exact ⟨by omega, Nat.lt_of_le_of_lt zn (by decide)⟩
    · have z1 := len_times_le [1] f
      have z2 := len_times_le (times [1] f) (lessF n k)
      have z3 : [(1 : Int)].length = 1 := rfl
      refine en_loop hn ks (prodF [f, lessF n k] [1]) _ _ (j + 1) (fun y hy => hk y (List.mem_cons_of_mem _ hy)) (by omega) ?_ ?_ h
      · show (times (times [1] f) (lessF n k)).length ≤ _
        omega
      · show nrm (times (times [1] f) (lessF n k)) < _
        refine Nat.lt_of_le_of_lt (nrm_times _ _) ?_
        have a1 := nrm_times [1] f
        rw [show nrm [1] = 1 from rfl, Nat.one_mul] at a1
        refine Nat.lt_of_le_of_lt (Nat.mul_le_mul a1 zn) ?_
        rw [show 1 + 2 * (j + 1) = 1 + 2 * j + 2 by omega, Nat.pow_add]
        omega
theorem m_ends {n : Nat} (hn : n ≤ 7) {P E : D → Prop} (h : P (tI (endsF n))) : dBody N__law_ends.length t__law_ends [.int (n : Int)] P E := by
  refine ⟨(by decide : 1 ≤ sizeLine), ⟨by omega, by omega⟩, ?_⟩
  rw [rangeN]
  exact en_loop hn (List.range n) [1] none none 0 (fun k hk => List.mem_range.mp hk) (by rw [List.length_range]; omega) (by decide) (by decide) h
end K74

namespace K74
open PySem PySem.Spec L2 DL
open PyProof.Rows hiding St
def nth (fs : List (List Int)) (k : Nat) : List Int := (fs[k]?).getD []
theorem nth_lt {fs : List (List Int)} {k : Nat} (h : k < fs.length) : fs[k]? = some (nth fs k) := by unfold nth; rw [List.getElem?_eq_getElem h]; rfl
theorem nth_mem {fs : List (List Int)} {k : Nat} (h : k < fs.length) : nth fs k ∈ fs := List.mem_of_getElem? (nth_lt h)
theorem atI_tI {fs : List (List Int)} {k : Nat} (h : k < fs.length) : atI (fs.map tI) (k : Int) = some (tI (nth fs k)) := by
  rw [atI_nat (by simpa using h), List.getElem_map]
  unfold nth
  rw [List.getElem?_eq_getElem h]; rfl
def stays (fs : List (List Int)) (k : Nat) : List Int := if k < fs.length then prodF [List.replicate k 0 ++ [1], nth fs k] [1] else []
def newR (fs : List (List Int)) (k : Nat) : List Int := sumF [nth fs (k - 1), stays fs k] []
def grow (fs : List (List Int)) : List Nat → List (List Int) → List (List Int)
  | [], acc => acc
  | i :: is, acc => grow fs is (acc ++ [newR fs (i + 1)])
def stepR (fs : List (List Int)) : List (List Int) := grow fs (List.range fs.length) [[1]]
def chL : Nat → List (List Int)
  | 0 => [[1]]
  | n + 1 => stepR (chL n)
def choR (n p : Nat) : List Int := if p < (chL n).length then nth (chL n) p else []
def okL (fs : List (List Int)) : Bool := decide (fs.length ≤ 9) && fs.all fun l => decide (l.length ≤ 900) && decide (nrm l < 2 ^ 1800)
/-! the size 12 -/
theorem ct_row {n k : Nat} : Ct (row n k) ∧ row n k ≠ [] := by
  have ne : row n k ≠ [] := by unfold row; simp
  refine ⟨ct_iff.mpr (.inr ?_), ne⟩
  have e : co (row n k) ((row n k).length - 1) = 1 := by
    unfold row
    rw [co_app, if_neg (by simp), List.length_append, List.length_singleton, Nat.add_sub_cancel, Nat.sub_self]; rfl
  rw [e]; decide
theorem wf_len {n : Nat} : ∀ (ks : List Nat) (f : List Int), (∀ k ∈ ks, k < n) → Ct f → f ≠ [] → Ct (wf n ks f) ∧ wf n ks f ≠ [] ∧ (wf n ks f).length = f.length + ks.length * n
  | [], f, _, h1, h2 => ⟨h1, h2, by simp [wf]⟩
  | k :: ks, f, hk, h1, h2 => by
    have kn := hk k List.mem_cons_self
    have l := len_times h1 (ct_row (n := n) (k := k)).1 h2 ct_row.2
    have lr : (row n k).length = n + 1 := by unfold row; simp; omega
    have f0 : f.length ≠ 0 := fun z => h2 (List.eq_nil_of_length_eq_zero z)
    have ne : times f (row n k) ≠ [] := fun z => by rw [z] at l; simp at l; omega
    obtain ⟨a, b, c⟩ := wf_len ks (times f (row n k)) (fun y hy => hk y (List.mem_cons_of_mem _ hy)) (ct_cut _) ne
    refine ⟨a, b, ?_⟩
    show (wf n ks (times f (row n k))).length = _
    rw [c, l, lr, List.length_cons, Nat.add_mul]; omega
theorem nrm_wf {n : Nat} : ∀ (ks : List Nat) (f : List Int), nrm (wf n ks f) ≤ nrm f * 2 ^ ks.length
  | [], f => by show nrm f ≤ nrm f * 1; omega
  | k :: ks, f => by
    refine Nat.le_trans (nrm_wf ks (times f (row n k))) ?_
    have h := nrm_times f (row n k)
    rw [nrm_row] at h
    rw [List.length_cons, Nat.pow_succ, Nat.mul_comm (2 ^ ks.length) 2, ← Nat.mul_assoc]
    exact Nat.mul_le_mul_right _ h
theorem whole_facts (n : Nat) : Ct (wholeF n) ∧ wholeF n ≠ [] ∧ (wholeF n).length = 1 + n * n ∧ nrm (wholeF n) ≤ 2 ^ n := by
  obtain ⟨a, b, c⟩ := wf_len (n := n) (List.range n) [1] (fun k hk => List.mem_range.mp hk) (by decide) (by simp)
  have d := nrm_wf (n := n) (List.range n) [1]
  rw [List.length_range] at c d
  rw [show nrm [1] = 1 from rfl, Nat.one_mul] at d
  exact ⟨a, b, c, d⟩
theorem whole_12 : (wholeF 12).length = 145 := (whole_facts 12).2.2.1
theorem co_times1 (a : List Int) (i : Nat) : co (times [1] a) i = co a i := by
  rw [co_times]
  cases i with
  | zero => show 1 * co a 0 + 0 = _; omega
  | succ i => show 1 * co a (i + 1) + 0 = _; omega
theorem mulP_one : ∀ (a : List Int) (i : Nat), mulP a [1] i = co a i
  | [], i => by rw [co_nil]; rfl
  | x :: a, 0 => by show x * 1 + 0 = x; omega
  | x :: a, i + 1 => by
    show x * co [1] (i + 1) + mulP a [1] i = co (x :: a) (i + 1)
    rw [mulP_one a i, co_consS, co_consS, co_nil]; omega
theorem times_one {a : List Int} (h : Ct a) : times [1] a = a := ct_ext (ct_cut _) h fun i => co_times1 a i
theorem times_one' {a : List Int} (h : Ct a) : times a [1] = a := ct_ext (ct_cut _) h fun i => by
  show co (times a [1]) i = _
  rw [co_times, mulP_one]
theorem raised_zero {w : List Int} (h : 0 < w.length) : raised w 0 = w := by
  unfold raised
  rw [if_pos h, List.replicate_zero, List.nil_append]
theorem whole_0 : wholeF 0 = [1] := rfl
theorem under_nn (n : Nat) : under n n = wholeF n := by
  unfold under
  rw [Nat.sub_self, Nat.mul_zero, whole_0, times_one' (whole_facts n).1, raised_zero (by rw [(whole_facts n).2.2.1]; omega)]
theorem cho_nn {n : Nat} (hn : n ≤ 12) : okC n n [1] = true := by
  obtain ⟨c, ne, l, m⟩ := whole_facts n
  have q : quotF (wholeF n) (wholeF n) = some [1] := by
    have := quotF_exact (a := [1]) (b := wholeF n) (by decide) c ne
    rw [times_one c] at this
    exact this
  have nn : n * n ≤ 12 * 12 := Nat.mul_le_mul hn hn
  have p12 : 2 ^ n ≤ 2 ^ 12 := Nat.pow_le_pow_right (by decide) hn
  have m2 : nrm (wholeF n) < 2 ^ 100 := Nat.lt_of_le_of_lt (Nat.le_trans m p12) (by decide)
  unfold okC
  rw [under_nn, Nat.sub_self, whole_0, q]
  simp only [Bool.and_eq_true, decide_eq_true_eq]
  refine ⟨⟨⟨⟨⟨⟨⟨⟨⟨⟨m2, by decide⟩, ?_⟩, m2⟩, ?_⟩, ?_⟩, ?_⟩, ne⟩, c⟩, ?_⟩, trivial⟩
  · rw [l, show [(1 : Int)].length = 1 from rfl]; omega
  · rw [l]; omega
  · omega
  · exact Nat.lt_trans m2 (Nat.pow_lt_pow_right (by decide) (by decide))
  · rw [l]; omega
end K74

namespace K74
open PySem PySem.Spec L2 DL
open PyProof.Rows hiding St
theorem m_psum' {ls : List (List Int)} {P E : D → Prop} (hs : ∀ l ∈ ls, l.length ≤ 2000) (h10 : ls.length ≤ 10) (h : P (tI (sumF ls []))) : dBody N__law_poly_sum.length t__law_poly_sum [.lst (ls.map tI)] P E :=
  m_psum hs h10 fun r hr hc => by
    have e : r = sumF ls [] := ct_ext hr (ct_sumF ls [] rfl) fun i => by rw [hc, co_sumF, co_nil, Int.zero_add]
    rw [e]; exact h
abbrev chIn : TDS := dSeq (dSet 6 (dIf (dTest (d2 ltD (dVar 5) (dCB lenD (dCons (dVar 2) dNil)))) (dCall (dBody N__law_poly_product.length t__law_poly_product) 1 (dCons (dLst (dCons (dCall (dBody N__law_power.length t__law_power) 1 (dCons (dVar 5) dNil)) (dCons (d2 ixD (dVar 2) (dVar 5)) dNil))) dNil)) (dTup dNil)))
    (dExpr (dMut 4 "list" mAppend (dCons (dCall (dBody N__law_poly_sum.length t__law_poly_sum) 1 (dCons (dLst (dCons (d2 ixD (dVar 2) (d2 subD (dVar 5) (dC (.int 1)))) (dCons (dVar 6) dNil))) dNil)) dNil)))
structure OkF (fs : List (List Int)) : Prop where
  len : fs.length ≤ 9
  all : ∀ l ∈ fs, l.length ≤ 900 ∧ nrm l < 2 ^ 4000
theorem len_stays {fs : List (List Int)} (o : OkF fs) {k : Nat} (hk : k ≤ 9) : (stays fs k).length ≤ 2000 := by
  unfold stays
  by_cases c : k < fs.length
  · rw [if_pos c]
    show (times (times [1] (List.replicate k 0 ++ [1])) (nth fs k)).length ≤ _
    have a := len_times_le (times [1] (List.replicate k 0 ++ [1])) (nth fs k)
    have b := len_times_le [1] (List.replicate k 0 ++ [1])
    have d := (o.all _ (nth_mem c)).1
    simp only [List.length_append, List.length_replicate, List.length_singleton] at b
    omega
  · rw [if_neg c]; exact Nat.zero_le _
theorem ci_loop {rx : D → Prop} {DD : DEnds} {a b : D} {lap : Option Sl} {fs : List (List Int)} (o : OkF fs) : ∀ (is : List Nat) (acc : List (List Int)) (x y : Option Sl), (∀ i ∈ is, i < fs.length) → acc.length + is.length ≤ 100 → (∀ x y, DD.nx [some (.sh a), some (.sh b), some (.sh (.lst (fs.map tI))), lap, some (.ol ((grow fs is acc).map tI)), x, y]) →
    dForL (gN 5) chIn rx DD (is.map fun (i : Nat) => D.int ((i + 1 : Nat) : Int)) [some (.sh a), some (.sh b), some (.sh (.lst (fs.map tI))), lap, some (.ol (acc.map tI)), x, y]
  | [], acc, x, y, _, _, h => h x y
  | i :: is, acc, x, y, hi, hl, h => by
    have il := hi i List.mem_cons_self
    have fl := o.len
    rw [List.length_cons] at hl
    have tail : ∀ s, s = stays fs (i + 1) → (dExpr (dMut 4 "list" mAppend (dCons (dCall (dBody N__law_poly_sum.length t__law_poly_sum) 1 (dCons (dLst (dCons (d2 ixD (dVar 2) (d2 subD (dVar 5) (dC (.int 1)))) (dCons (dVar 6) dNil))) dNil)) dNil))) rx
        { nx := dForL (gN 5) chIn rx DD (is.map fun (i : Nat) => D.int ((i + 1 : Nat) : Int)), rt := DD.rt, bk := DD.nx, ct := dForL (gN 5) chIn rx DD (is.map fun (i : Nat) => D.int ((i + 1 : Nat) : Int)) }
        [some (.sh a), some (.sh b), some (.sh (.lst (fs.map tI))), lap, some (.ol (acc.map tI)), some (.sh (.int ((i + 1 : Nat) : Int))), some (.sh (tI s))] := fun s hs => by
      have e1 : atI (fs.map tI) (((i + 1 : Nat) : Int) - 1) = some (tI (nth fs i)) := by
        rw [show ((i + 1 : Nat) : Int) - 1 = (i : Int) by omega]
        exact atI_tI il
      refine ⟨rfl, _, e1, (by decide : 2 ≤ sizeLine), rfl, ?_⟩
      refine m_psum' (ls := [nth fs i, s]) (fun l hl => ?_) (by simp) ?_
      · rcases List.mem_cons.mp hl with rfl | hl
        · have := (o.all _ (nth_mem il)).1
          omega
        · obtain rfl := List.mem_singleton.mp hl
          rw [hs]; exact len_stays o (by omega)
      · refine ⟨rfl, Nat.lt_of_le_of_lt (show _ ≤ 100 by rw [List.length_map]; omega) (by decide), ?_⟩
        have st := ci_loop (rx := rx) (DD := DD) (a := a) (b := b) (lap := lap) o is (acc ++ [newR fs (i + 1)]) (some (.sh (.int ((i + 1 : Nat) : Int)))) (some (.sh (tI s))) (fun j hj => hi j (List.mem_cons_of_mem _ hj)) (by simp; omega) h
        rw [List.map_append] at st
        have en : newR fs (i + 1) = sumF [nth fs i, s] [] := by unfold newR; rw [hs, Nat.add_sub_cancel]
        rw [en] at st
        exact st
    by_cases c : i + 1 < fs.length
    · refine iteBt (b := decide (((i + 1 : Nat) : Int) < ((fs.map tI).length : Int))) (decide_eq_true (by rw [List.length_map]; omega)) ?_
      have e2 : atI (fs.map tI) ((i + 1 : Nat) : Int) = some (tI (nth fs (i + 1))) := atI_tI c
      refine ⟨rfl, m_power (k := i + 1) (by omega) ⟨_, e2, (by decide : 2 ≤ sizeLine), rfl, ?_⟩⟩
      refine m_pprod (ls := [List.replicate (i + 1) 0 ++ [1], nth fs (i + 1)]) (fun l hl => ?_) (by simp) ?_
      · rcases List.mem_cons.mp hl with rfl | hl
        · exact ⟨by simp; omega, by rw [nrm_app, nrm_rep]; exact Nat.lt_of_le_of_lt (show 0 + nrm [1] ≤ 1 from Nat.le_refl _) (Nat.one_lt_two_pow (by decide))⟩
        · obtain rfl := List.mem_singleton.mp hl
          have := o.all _ (nth_mem c)
          exact ⟨by omega, Nat.lt_of_lt_of_le this.2 (Nat.pow_le_pow_right (by decide) (by decide))⟩
      · refine tail _ ?_
        unfold stays
        rw [if_pos c]
    · refine iteB (b := decide (((i + 1 : Nat) : Int) < ((fs.map tI).length : Int))) (decide_eq_false (by rw [List.length_map]; omega)) ⟨Nat.zero_le _, ?_⟩
      refine tail [] ?_
      unfold stays
      rw [if_neg c]
abbrev chOut : TDS := dSeq (dSetX 4 (dLstF (dCons (dTup (dCons (dC (.int 1)) dNil)) dNil)))
    (dSeq (dFor (dRange2 (dCons (dC (.int 1)) (dCons (dFrz (f2 addF (dCB lenD (dCons (dVar 2) dNil)) (dC (.int 1)))) dNil))) (gN 5) chIn)
    (dSet 2 (dVar 4)))
theorem range1 (n : Nat) : rangeD 1 ((n : Int) + 1) = (List.range n).map fun (i : Nat) => D.int ((i + 1 : Nat) : Int) := by
  unfold rangeD
  rw [show ((n : Int) + 1 - 1).toNat = n by omega]
  refine List.map_congr_left fun k _ => ?_
  congr 1
  omega
theorem co_loop {rx : D → Prop} {DD : DEnds} {a b : D} (ok : ∀ n, n < 8 → OkF (chL n)) : ∀ (ks : List D) (j : Nat) (x3 x4 x5 x6 : Option Sl), ks.length + j ≤ 7 → (∀ x3 x4 x5 x6, DD.nx [some (.sh a), some (.sh b), some (.sh (.lst ((chL (ks.length + j)).map tI))), x3, x4, x5, x6]) →
    dForL (gN 3) chOut rx DD ks [some (.sh a), some (.sh b), some (.sh (.lst ((chL j).map tI))), x3, x4, x5, x6]
  | [], j, x3, x4, x5, x6, _, h => by
    have z := h x3 x4 x5 x6
    rw [show ([] : List D).length + j = j by simp] at z
    exact z
  | k :: ks, j, x3, x4, x5, x6, hj, h => by
    rw [List.length_cons] at hj
    have o := ok j (by omega)
    have ol := o.len
    refine ⟨(by decide : 1 ≤ sizeLine), (by decide : 1 ≤ sizeLine), ⟨⟨by decide, by decide⟩, ⟨by omega, by rw [List.length_map]; omega⟩⟩, ?_⟩
    show dForL _ _ _ _ (rangeD 1 ((((chL j).map tI).length : Int) + 1)) [some (.sh a), some (.sh b), some (.sh (.lst ((chL j).map tI))), some (.sh k), some (.ol (([[1]] : List (List Int)).map tI)), x5, x6]
    rw [List.length_map, range1]
    refine ci_loop o (List.range (chL j).length) [[1]] x5 x6 (fun i hi => List.mem_range.mp hi) (by simp; omega) fun x y => ?_
    have st := co_loop (rx := rx) (DD := DD) (a := a) (b := b) ok ks (j + 1) (some (.sh k)) (some (.sh (.lst ((chL (j + 1)).map tI)))) x y (by omega) (by
      rw [show ks.length + (j + 1) = (k :: ks).length + j by simp; omega]
      exact h)
    exact st
theorem m_lchoices {n p : Nat} (hn : n ≤ 7) (ok : ∀ n, n < 8 → OkF (chL n)) {P E : D → Prop} (h : P (tI (choR n p))) : dBody N__law_choices.length t__law_choices [.int (n : Int), .int (p : Int)] P E := by
  refine ⟨(by decide : 1 ≤ sizeLine), (by decide : 1 ≤ sizeLine), ⟨by omega, by omega⟩, ?_⟩
  have lr : (rangeD 0 (n : Int)).length = n := by rw [rangeN]; simp
  show dForL _ _ _ _ (rangeD 0 (n : Int)) [some (.sh (.int (n : Int))), some (.sh (.int (p : Int))), some (.sh (.lst ((chL 0).map tI))), none, none, none, none]
  refine co_loop ok (rangeD 0 (n : Int)) 0 none none none none (by omega) fun x3 x4 x5 x6 => ?_
  rw [lr, Nat.add_zero]
  unfold choR at h
  by_cases c : p < (chL n).length
  · rw [if_pos c] at h
    exact iteBt (b := decide ((p : Int) < (((chL n).map tI).length : Int))) (decide_eq_true (by rw [List.length_map]; omega)) ⟨_, atI_tI c, h⟩
  · rw [if_neg c] at h
    exact iteB (b := decide ((p : Int) < (((chL n).map tI).length : Int))) (decide_eq_false (by rw [List.length_map]; omega)) ⟨Nat.zero_le _, h⟩
end K74

namespace K74
theorem okL_all : (List.range 8).all (fun n => okL (chL n)) = true := by decide +kernel
theorem ends_whole : (List.range 8).all (fun n => decide (endsF n = wholeF n)) = true := by decide +kernel
theorem worth_count : (List.range 8).all (fun n => [(2 : Int), 3, 5, 7, 97].all fun p => decide (worth (wholeF n) p = cntF p n)) = true := by decide +kernel
theorem cho_all : (List.range 8).all (fun n => (List.range 8).all fun p => if n < p then decide (choR n p = []) else okC n p (choR n p)) = true := by decide +kernel
end K74

namespace K74
open PySem PySem.Spec L2 DL
open PyProof.Rows hiding St
abbrev pT (l : List Int) : PyData := .tuple (l.map PyData.int)
theorem toPDXs_ofInts : ∀ l : List Int, toPDXs (l.map D.int) = some (l.map PyData.int)
  | [] => rfl
  | a :: l => by
    show (match toPDX (D.int a), toPDXs (l.map D.int) with
      | some p, some ps => some (p :: ps)
      | _, _ => none) = _
    rw [toPDXs_ofInts l]; rfl
theorem t10 : (2 : Nat) ^ 1900 ≤ 10 ^ 600 := by

  decide +kernel
theorem small_facts : ∀ l : List Int, nrm l < 2 ^ 1900 → PyData.showableAll (l.map PyData.int) = true ∧ PyData.leavesShortAll 601 (l.map PyData.int) = true ∧ PyData.bulkAll (l.map PyData.int) = l.length ∧ noSs (l.map PyData.int) = true
  | [], _ => ⟨rfl, rfl, rfl, rfl⟩
  | a :: l, h => by
    rw [nrm_cons] at h
    obtain ⟨h1, h2, h3, h4⟩ := small_facts l (by omega)
    have ha : a.natAbs < 2 ^ 1900 := by omega
    have lg : a.natAbs.log2 < 1920 := Nat.lt_of_lt_of_le (PySem.Flt.log2_lt_of (k := 1900) (by decide) ha) (by decide)
    have sh : (PyData.shown (.int a)).length ≤ 601 := by
      show (Str.ofString (toString a)).length ≤ 601
      rw [PySem.ofString_length]
      exact int_text_length_le10 (k := 600) (by decide) (Nat.lt_of_lt_of_le ha t10)
    refine ⟨?_, ?_, ?_, ?_⟩
    · simp only [List.map_cons, PyData.showableAll, PyData.showable, h1, decide_eq_true lg, Bool.and_self]
    · simp only [List.map_cons, PyData.leavesShortAll, PyData.leavesShort, h2, decide_eq_true sh, Bool.and_self]
    · simp only [List.map_cons, PyData.bulkAll, PyData.bulk, h3, List.length_cons]; omega
    · simp only [List.map_cons, noSs, noS, h4, Bool.and_self]
theorem q_repT {l : List Int} (h1 : l.length ≤ 2000) (h2 : nrm l < 2 ^ 1900) {P : D → Prop} (h : P (.str (pT l).shown)) : reprX [tI l] P := by
  obtain ⟨a, b, c, d⟩ := small_facts l h2
  refine ⟨pT l, ?_, ?_, ?_, ?_, h⟩
  · simp only [toPDX, toPDXs_ofInts, Option.map_some]
  · simpa only [PyData.showable] using a
  · show PyData.depthAll (l.map PyData.int) + 1 ≤ 60
    rw [(lay_ints l).2]; decide
  · have z := PyData.shown_le_bulk 601 (by decide) (pT l) (by simpa only [PyData.leavesShort] using b)
    have e : PyData.bulk (pT l) = l.length := by simpa only [PyData.bulk] using c
    rw [e] at z
    exact Nat.le_trans z (Nat.le_trans (show (601 + 2) * l.length + 601 ≤ 10000000 by omega) (by decide))
theorem ok_T {l : List Int} (h2 : nrm l < 2 ^ 1900) : okT (pT l).shown := okT_shown _ (by simpa only [noS] using (small_facts l h2).2.2.2)
structure RT (d : D) (p : PyData) : Prop where
  f1 : toPDX d = some p
  f2 : p.showable = true
  f3 : p.depth ≤ 60
  f4 : p.shown.length ≤ sizeLine
  ok : SeqAt.shaped (.str p.shown) = true
theorem rT {l : List Int} (h1 : l.length ≤ 2000) (h2 : nrm l < 2 ^ 1900) : RT (tI l) (pT l) := by
  obtain ⟨p, a, b, c, d, e⟩ := q_repT (P := fun _ => True) h1 h2 trivial
  have e1 : toPDX (tI l) = some (pT l) := by simp only [toPDX, toPDXs_ofInts, Option.map_some]
  rw [e1] at a
  cases a
  exact ⟨e1, b, c, d, shaped_str (ok_T h2)⟩
theorem q_repI {i : Int} (h : i.natAbs < 2 ^ 1900) {P : D → Prop} (k : P (.str (PyData.int i).shown)) : reprX [.int i] P := by
  have lg : i.natAbs.log2 < 1920 := Nat.lt_of_lt_of_le (PySem.Flt.log2_lt_of (k := 1900) (by decide) h) (by decide)
  have sh : (PyData.shown (.int i)).length ≤ 601 := by
    show (Str.ofString (toString i)).length ≤ 601
    rw [PySem.ofString_length]
    exact int_text_length_le10 (k := 600) (by decide) (Nat.lt_of_lt_of_le h t10)
  exact ⟨.int i, rfl, by simp only [PyData.showable, decide_eq_true lg], Nat.zero_le _, Nat.le_trans sh (by decide), k⟩
theorem ok_I {i : Int} : okT (PyData.int i).shown := okT_shown _ rfl
theorem rI {i : Int} (h : i.natAbs < 2 ^ 1900) : RT (.int i) (.int i) := by
  obtain ⟨p, a, b, c, d, e⟩ := q_repI (P := fun _ => True) h trivial
  cases a
  exact ⟨rfl, b, c, d, shaped_str ok_I⟩
theorem eqv_ss (x : Str) : (!PyData.eqv (.str x) (.str x)) = false := by rw [eqv_str_refl]; rfl
theorem all8 {p : Nat → Bool} (h : (List.range 8).all p = true) {n : Nat} (hn : n < 8) : p n = true := List.all_eq_true.mp h n (List.mem_range.mpr hn)
theorem ok18 {n : Nat} (hn : n < 8) : (chL n).length ≤ 9 ∧ ∀ l ∈ chL n, l.length ≤ 900 ∧ nrm l < 2 ^ 1800 := by
  have z := all8 okL_all hn
  unfold okL at z
  rw [Bool.and_eq_true, decide_eq_true_eq, List.all_eq_true] at z
  refine ⟨z.1, fun l hl => ?_⟩
  have y := z.2 l hl
  rw [Bool.and_eq_true, decide_eq_true_eq, decide_eq_true_eq] at y
  exact y
theorem okF8 : ∀ n, n < 8 → OkF (chL n) := fun n hn => ⟨(ok18 hn).1, fun l hl => ⟨((ok18 hn).2 l hl).1, Nat.lt_of_lt_of_le ((ok18 hn).2 l hl).2 (Nat.pow_le_pow_right (by decide) (by decide))⟩⟩
theorem whole_tl {n : Nat} (hn : n ≤ 12) : Tl (wholeF n) ∧ nrm (wholeF n) < 2 ^ 1900 := by
  obtain ⟨c, _, l, m⟩ := whole_facts n
  have nn : n * n ≤ 12 * 12 := Nat.mul_le_mul hn hn
  have p12 : 2 ^ n ≤ 2 ^ 12 := Nat.pow_le_pow_right (by decide) hn
  have m2 : nrm (wholeF n) < 2 ^ 1900 := Nat.lt_of_le_of_lt (Nat.le_trans m p12) (Nat.pow_lt_pow_right (by decide) (by decide))
  exact ⟨⟨c, by omega, Nat.lt_trans m2 (Nat.pow_lt_pow_right (by decide) (by decide))⟩, m2⟩
end K74

namespace K74
open PySem PySem.Spec L2 DL
open PyProof.Rows hiding St
theorem cho_ok {n p : Nat} (hn : n < 8) (hp : p < 8) : choF n p (choR n p) := by
  have z := all8 (all8 cho_all hn) hp
  by_cases c : n < p
  · rw [if_pos c] at z
    exact .inl ⟨c, of_decide_eq_true z⟩
  · rw [if_neg c] at z
    exact .inr ⟨by omega, z⟩
def smallCho (n p : Nat) : Bool := decide ((choR n p).length ≤ 2000) && decide (nrm (choR n p) < 2 ^ 1900)
theorem cho_small {n p : Nat} (hn : n < 8) : (choR n p).length ≤ 2000 ∧ nrm (choR n p) < 2 ^ 1900 := by
  have o := ok18 hn
  unfold choR
  by_cases c : p < (chL n).length
  · rw [if_pos c]
    have z := o.2 _ (nth_mem c)
    exact ⟨by omega, Nat.lt_of_lt_of_le z.2 (Nat.pow_le_pow_right (by decide) (by decide))⟩
  · rw [if_neg c]; exact ⟨Nat.zero_le _, Nat.pow_pos (by decide)⟩
theorem m_rooms {P E : D → Prop} (h : P (.bl true)) : dBody N__law_rooms_right.length t__law_rooms_right [.drw] P E := by
  refine ⟨rfl, p_take (by decide) (by decide) fun a a0 a1 => ⟨rfl, p_take (by decide) (by decide) fun b b0 b1 => ⟨rfl, (by decide : 8 ≤ sizeLine), rfl, p_pick (l := [2, 2, 2, 3, 3, 5, 7, 97].map D.int) (.inl rfl) (by decide) (by decide) fun x hx => ?_⟩⟩⟩
  obtain ⟨n, rfl⟩ := Int.eq_ofNat_of_zero_le a0
  obtain ⟨p, rfl⟩ := Int.eq_ofNat_of_zero_le b0
  obtain ⟨q, hq, rfl⟩ := List.mem_map.mp hx
  have hq5 : q ∈ [(2 : Int), 3, 5, 7, 97] := by
    simp only [List.mem_cons, List.not_mem_nil, or_false] at hq ⊢
    omega
  have hn : n < 8 := by omega
  have hp : p < 8 := by omega
  obtain ⟨tl, s19⟩ := whole_tl (n := n) (by omega)
  have ew : endsF n = wholeF n := of_decide_eq_true (all8 ends_whole hn)
  have ec : worth (wholeF n) q = cntF q n := of_decide_eq_true (List.all_eq_true.mp (all8 worth_count hn) q hq5)
  have qb : -1000000 ≤ q ∧ q ≤ 1000000 := by
    simp only [List.mem_cons, List.not_mem_nil, or_false] at hq5
    omega
  obtain ⟨cl, cn⟩ := cho_small (n := n) (p := p) hn
  have r1 := rT tl.len s19
  have r2 := rT cl cn
  refine ⟨rfl, rfl, rfl, m_whole_tally (by omega) ⟨_, r1.f1, r1.f2, r1.f3, r1.f4, rfl, m_ends (by omega) ?_⟩⟩
  rw [ew]
  refine ⟨_, r1.f1, r1.f2, r1.f3, r1.f4, _, _, rfl, rfl, r1.ok, r1.ok, iteB (b := !PyData.eqv (.str (pT (wholeF n)).shown) (.str (pT (wholeF n)).shown)) (eqv_ss _) ?_⟩
  refine ⟨rfl, m_whole_tally (by omega) ⟨rfl, m_tally_at tl qb.1 qb.2 ⟨rfl, m_count hq5 (by omega) ?_⟩⟩⟩
  rw [ec]
  refine ⟨_, _, rfl, rfl, rfl, rfl, iteB (b := !PyData.eqv (.int (cntF q n)) (.int (cntF q n))) (by rw [eqv_int]; simp) ?_⟩
  refine ⟨rfl, rfl, rfl, m_choices_tally (by omega) (by omega) (cho_ok hn hp) ⟨_, r2.f1, r2.f2, r2.f3, r2.f4, rfl, m_lchoices (by omega) okF8 ?_⟩⟩
  refine ⟨_, r2.f1, r2.f2, r2.f3, r2.f4, _, _, rfl, rfl, r2.ok, r2.ok, iteB (b := !PyData.eqv (.str (pT (choR n p)).shown) (.str (pT (choR n p)).shown)) (eqv_ss _) ?_⟩
  refine ⟨rfl, m_whole_tally (n := 12) (by decide) ?_⟩
  have e12 := whole_12
  revert e12
  generalize wholeF 12 = w
  intro e12
  have t1 : PyData.eqv (pT [1]) (pT [1]) = true := by rw [PyData.eqv, eqvAll_ints]; rfl
  have t0 : PyData.eqv (pT []) (pT []) = true := by rw [PyData.eqv, eqvAll_ints]; rfl
  refine ⟨_, _, rfl, rfl, rfl, rfl, ?_⟩
  rw [eqv_int, List.length_map, e12]
  refine ⟨rfl, m_choices_tally (n := 12) (p := 12) (r := [1]) (by decide) (by decide) (.inr ⟨by decide, cho_nn (by decide)⟩) ⟨(by decide : 1 ≤ sizeLine), _, _, pd_tI [1], pd_tI [1], shaped_tI [1], shaped_tI [1], ?_⟩⟩
  rw [t1]
  refine ⟨rfl, m_choices_tally (n := 0) (p := 12) (r := []) (by decide) (by decide) (.inl ⟨by decide, rfl⟩) ⟨Nat.zero_le _, _, _, pd_tI [], pd_tI [], shaped_tI [], shaped_tI [], ?_⟩⟩
  rw [t0]
  exact h
end K74

namespace K74
open PySem PySem.Spec L2 DL
open PyProof.Rows hiding St
/-- a drawn tally -/
structure Dw (l : List Int) : Prop where
  ct : Ct l
  len : l.length ≤ 6
  nr : nrm l < 2 ^ 100
theorem up100 {x k : Nat} (h : x < 2 ^ 100) (hk : 100 ≤ k) : x < 2 ^ k := Nat.lt_of_lt_of_le h (Nat.pow_le_pow_right (by decide) hk)
theorem Dw.tl {l : List Int} (d : Dw l) : Tl l := ⟨d.ct, Nat.le_trans d.len (by decide), up100 d.nr (by decide)⟩
theorem Dw.sm {l : List Int} (d : Dw l) : Sm l := ⟨Nat.le_trans d.len (by decide), up100 d.nr (by decide)⟩
abbrev e10 (s1 : Option Sl) : DL.Env := [some (.sh .drw), s1, none, none, none, none, none, none, none, none]
theorem so_loop {Pf : List D → DL.Env → Prop} : ∀ (js : List D) (acc : List (List Int)), acc.length + js.length ≤ 3 → (∀ x ∈ acc, Dw x) → (∀ ls : List (List Int), ls.length ≤ 3 → (∀ l ∈ ls, Dw l) → Pf (ls.map tI) (e10 none)) →
    dCompL (gN 2) dYes (dCall (dBody N__law_tally.length t__law_tally) 1 (dCons (dVar 0) dNil)) [2] Pf js (acc.map tI) (e10 none)
  | [], acc, hl, ha, h => h acc (by simpa using hl) ha
  | j :: js, acc, hl, ha, h => by
    rw [List.length_cons] at hl
    refine ⟨rfl, m_ltally fun l c n m => ⟨Nat.lt_of_le_of_lt (show _ ≤ 6 by rw [List.length_map]; omega) (by decide), ?_⟩⟩
    have st := so_loop (Pf := Pf) js (acc ++ [l]) (by rw [List.length_append]; simp; omega) (fun x hx => by
      rcases List.mem_append.mp hx with z | z
      · exact ha x z
      · rw [List.mem_singleton.mp z]; exact ⟨c, n, m⟩) h
    rw [List.map_append] at st
    exact st
theorem sum_same {ls : List (List Int)} {a : List Int} (ha : Ct a) (h : ∀ i, co a i = S ls i) : a = sumF ls [] := ct_ext ha (ct_sumF ls [] rfl) fun i => by rw [h, co_sumF, co_nil, Int.zero_add]
theorem nrm_plus (a b : List Int) (c : Int) : nrm (plus a b c) ≤ nrm a + c.natAbs * nrm b := by
  unfold plus cut
  refine Nat.le_trans (nrm_take _ _) (Nat.le_trans (nrm_addRow c b _ 0) ?_)
  rw [nrm_app, nrm_rep]; omega
theorem sum_small : ∀ (ls : List (List Int)) (f : List Int) (k : Nat), (∀ l ∈ ls, Dw l) → f.length ≤ 6 → nrm f < 2 ^ (100 + k) → (sumF ls f).length ≤ 6 ∧ nrm (sumF ls f) < 2 ^ (100 + (k + ls.length))
  | [], f, k, _, h1, h2 => ⟨h1, h2⟩
  | l :: ls, f, k, hs, h1, h2 => by
    have d := hs l List.mem_cons_self
    have z := len_plus f l 1
    have dl := d.len
    have n := nrm_plus f l 1
    have dn := up100 d.nr (show 100 ≤ 100 + k by omega)
    have := sum_small ls (plus f l 1) (k + 1) (fun x hx => hs x (List.mem_cons_of_mem _ hx)) (by omega) (by
      rw [show (1 : Int).natAbs = 1 from rfl, Nat.one_mul] at n
      rw [show 100 + (k + 1) = (100 + k) + 1 by omega, Nat.pow_succ]
      omega)
    rw [List.length_cons, show k + (ls.length + 1) = k + 1 + ls.length by omega]
    exact this
theorem prod_small : ∀ (ls : List (List Int)) (f : List Int) (k : Nat), (∀ l ∈ ls, Dw l) → f.length ≤ 1 + 6 * k → nrm f < 2 ^ (1 + 100 * k) → (prodF ls f).length ≤ 1 + 6 * (k + ls.length) ∧ nrm (prodF ls f) < 2 ^ (1 + 100 * (k + ls.length))
  | [], f, k, _, h1, h2 => ⟨h1, h2⟩
  | l :: ls, f, k, hs, h1, h2 => by
    have d := hs l List.mem_cons_self
    have z := len_times_le f l
    have dl := d.len
    have := prod_small ls (times f l) (k + 1) (fun x hx => hs x (List.mem_cons_of_mem _ hx)) (by omega) (by
      refine Nat.lt_of_le_of_lt (nrm_times f l) ?_
      rw [show 1 + 100 * (k + 1) = (1 + 100 * k) + 100 by omega, Nat.pow_add]
      exact Nat.mul_lt_mul'' h2 d.nr)
    rw [List.length_cons, show k + (ls.length + 1) = k + 1 + ls.length by omega]
    exact this
theorem prod_two {a b : List Int} (ha : Ct a) : prodF [a, b] [1] = times a b := by
  show times (times [1] a) b = _
  rw [times_one ha]
theorem prod_none : ∀ (ls : List (List Int)) (f : List Int), (f = [] ∨ ∃ l ∈ ls, l.length = 0) → prodF ls f = []
  | [], f, h => by
    rcases h with h | ⟨l, hl, _⟩
    · exact h
    · cases hl
  | l :: ls, f, h => by
    have nil_of : (∀ i, co (times f l) i = 0) → times f l = [] := fun z => ct_ext (ct_cut _) (by rfl) fun i => by
      show co (times f l) i = _
      rw [z, co_nil]
    refine prod_none ls (times f l) ?_
    rcases h with rfl | ⟨m, hm, e⟩
    · exact .inl (nil_of fun i => by rw [co_times]; rfl)
    · rcases List.mem_cons.mp hm with rfl | hm
      · exact .inl (nil_of fun i => by rw [co_times]; exact mulP_nil _ f i (List.eq_nil_of_length_eq_zero e))
      · exact .inr ⟨m, hm, e⟩
end K74

namespace K74
open PySem PySem.Spec L2 DL
open PyProof.Rows hiding St
/-! ### what is refused -/
def Bad (d : D) : Prop := ∀ {P E : D → Prop}, P (.bl false) → dBody N_is_tally.length t_is_tally [d] P E
def Odd (d : D) : Prop := d = .non ∨ (∃ b, d = .bl b) ∨ (∃ s, d = .str s) ∨ (∃ l, d = .tup l) ∨ (∃ i, d = .int i) ∨ (∃ l, d = .lst l)
theorem m_odd {d : D} (h : d = .non ∨ (∃ b, d = .bl b) ∨ (∃ s, d = .str s) ∨ ∃ l, d = .tup l) {P E : D → Prop} (k : P (.bl false)) : dBody N_is_number.length t_is_number [d] P E := by
  rcases h with rfl | ⟨b, rfl⟩ | ⟨s, rfl⟩ | ⟨l, rfl⟩
  · exact ⟨_, _, _, rfl, rfl, rfl, k⟩
  · exact ⟨_, _, _, rfl, rfl, rfl, ⟨_, _, _, rfl, rfl, rfl, k⟩⟩
  · exact ⟨_, _, _, rfl, rfl, rfl, k⟩
  · exact ⟨_, _, _, rfl, rfl, rfl, k⟩
theorem bad_non : Bad .non := fun h => ⟨_, _, _, rfl, rfl, rfl, h⟩
theorem bad_bl {b : Bool} : Bad (.bl b) := fun h => ⟨_, _, _, rfl, rfl, rfl, h⟩
theorem bad_int {i : Int} : Bad (.int i) := fun h => ⟨_, _, _, rfl, rfl, rfl, h⟩
theorem bad_str {s : Str} : Bad (.str s) := fun h => ⟨_, _, _, rfl, rfl, rfl, h⟩
theorem bad_lst {l : List D} : Bad (.lst l) := fun h => ⟨_, _, _, rfl, rfl, rfl, h⟩
theorem bad_dct {l : List (Key × D)} : Bad (.dct l) := fun h => ⟨_, _, _, rfl, rfl, rfl, h⟩
theorem bad_cut {l : List Int} (hl : l.length ≤ 2000) (h : ¬ Ct l) : Bad (tI l) := fun k => m_is_tally hl (by rw [decide_eq_false h]; exact k)
theorem bad_long {l : List Int} (hl : 2000 < l.length) : Bad (tI l) := fun k =>
  ⟨_, _, _, rfl, rfl, rfl, iteBt (b := decide ((2000 : Int) < ((l.map D.int).length : Int))) (decide_eq_true (by rw [List.length_map]; omega)) k⟩
theorem bad_odd {d : D} (h : d = .non ∨ (∃ b, d = .bl b) ∨ (∃ s, d = .str s) ∨ ∃ l, d = .tup l) : Bad (.tup [d]) := fun k =>
  ⟨_, _, _, rfl, rfl, rfl, ⟨rfl, m_odd h ⟨(by decide : 0 < sizeLine), ⟨_, rfl, k⟩⟩⟩⟩
theorem bad_odd2 {i : Int} {d : D} (h : d = .non ∨ (∃ b, d = .bl b) ∨ (∃ s, d = .str s) ∨ ∃ l, d = .tup l) : Bad (.tup [.int i, d]) := fun k =>
  ⟨_, _, _, rfl, rfl, rfl, ⟨rfl, m_number ⟨(by decide : 0 < sizeLine), ⟨rfl, m_odd h ⟨(by decide : 1 < sizeLine), ⟨_, rfl, k⟩⟩⟩⟩⟩⟩
def long1 : List Int := List.replicate 2000 0 ++ [1]
def bads : List D := [.non, .bl true, .int 0, .str "1", .lst [], .lst [.int 1], tI [0], tI [1, 0], .tup [.bl true], .tup [.int 1, .non], .tup [.str "1"], .tup [.tup [.int 1]], tI long1, .dct []]
theorem bads_ok : ∀ d ∈ bads, Bad d := by
  intro d hd
  simp only [bads, List.mem_cons, List.not_mem_nil, or_false] at hd
  rcases hd with rfl | rfl | rfl | rfl | rfl | rfl | rfl | rfl | rfl | rfl | rfl | rfl | rfl | rfl
  · exact bad_non
  · exact bad_bl
  · exact bad_int
  · exact bad_str
  · exact bad_lst
  · exact bad_lst
  · exact bad_cut (by decide) (by decide)
  · exact bad_cut (by decide) (by decide)
  · exact bad_odd (.inr (.inl ⟨_, rfl⟩))
  · exact bad_odd2 (.inl rfl)
  · exact bad_odd (.inr (.inr (.inl ⟨_, rfl⟩)))
  · exact bad_odd (.inr (.inr (.inr ⟨_, rfl⟩)))
  · exact bad_long (by unfold long1; simp)
  · exact bad_dct
theorem m_need_bad {d : D} (b : Bad d) {P E : D → Prop} (h : E (.exc "BadTally" [])) : dBody N_need_tally.length t_need_tally [d] P E := ⟨rfl, b h⟩
/-! the ten that are refused -/
abbrev callB (tb : TDX) (δ : DL.Env) : Prop := ∀ P' RX, RX (.exc "BadTally" []) → tb RX δ P'
theorem m_is_bad {tl : TL} (h : ∀ P' RX, RX (.exc "BadTally" []) → tl P' RX) {P E : D → Prop} (k : P (.bl true)) : wg__law_is_bad tl P E := fun fl => ⟨rfl, h _ _ ⟨by simp [cs], _, _, _, rfl, rfl, rfl, k⟩⟩
theorem m_lams {rx : D → Prop} {DE : DEnds} {δ0 : DL.Env} {i : Nat} (hi : i < δ0.length) : ∀ (tbs : List TDX), (∀ tb ∈ tbs, ∀ fl, callB tb (shOnly ((shOnly δ0).set i (some (.sh (.adr fl)))))) → DE.nx (δ0.set i none) →
    dLamsN i (fun fl tb => (dNot (dTest (dPassL i wg__law_is_bad fl tb)))) rx DE δ0 tbs
  | [], _, h => h
  | tb :: r, hs, h => fun fl => by
    refine ⟨?_, m_is_bad (fun P' RX e => hs tb List.mem_cons_self fl (fun d _ => P' d) RX e) ?_⟩
    · rw [List.getElem?_set_self (by simpa [shOnly] using hi)]
    · exact iteF (m_lams hi r (fun t ht => hs t (List.mem_cons_of_mem _ ht)) h)
theorem c_at {d : D} (b : Bad d) {P E : D → Prop} {x : D} (h : E (.exc "BadTally" [])) : dBody N_tally_at.length t_tally_at [d, x] P E := ⟨rfl, m_need_bad b h⟩
theorem c_less1 {d : D} (b : Bad d) {P E : D → Prop} {x : D} (h : E (.exc "BadTally" [])) : dBody N_tally_less.length t_tally_less [d, x] P E := ⟨rfl, m_need_bad b h⟩
theorem c_less2 {d : D} (b : Bad d) {P E : D → Prop} {l : List Int} (hl : Tl l) (h : E (.exc "BadTally" [])) : dBody N_tally_less.length t_tally_less [tI l, d] P E := ⟨rfl, m_need hl.len hl.ct ⟨rfl, m_need_bad b h⟩⟩
theorem c_thr1 {d : D} (b : Bad d) {P E : D → Prop} {x : D} (h : E (.exc "BadTally" [])) : dBody N_tally_through.length t_tally_through [d, x] P E := ⟨rfl, m_need_bad b h⟩
theorem c_thr2 {d : D} (b : Bad d) {P E : D → Prop} {l : List Int} (hl : Tl l) (h : E (.exc "BadTally" [])) : dBody N_tally_through.length t_tally_through [tI l, d] P E := ⟨rfl, m_need hl.len hl.ct ⟨rfl, m_need_bad b h⟩⟩
theorem c_needs1 {d : D} (b : Bad d) {P E : D → Prop} (h : E (.exc "BadTally" [])) : dBody N_need_tallies.length t_need_tallies [.lst [d]] P E := ⟨rfl, m_list (.inl rfl) (iteF ⟨rfl, m_need_bad b h⟩)⟩
theorem c_needs2 {d : D} (b : Bad d) {P E : D → Prop} {l : List Int} (hl : Tl l) (h : E (.exc "BadTally" [])) : dBody N_need_tallies.length t_need_tallies [.lst [tI l, d]] P E := ⟨rfl, m_list (.inl rfl) (iteF ⟨rfl, m_need hl.len hl.ct ⟨rfl, m_need_bad b h⟩⟩)⟩
theorem c_nolist {d : D} (hd : d = .non ∨ d = .dct []) {P E : D → Prop} (h : E (.exc "BadTally" [])) : dBody N_need_tallies.length t_need_tallies [d] P E := by
  rcases hd with rfl | rfl <;> exact ⟨rfl, by decide, _, _, _, rfl, rfl, rfl, h⟩
end K74

namespace K74
open PySem PySem.Spec L2 DL
open PyProof.Rows hiding St
def nums7 : List Int := [0, 1, -1, 2, 97, 10 ^ 6, 0 - 10 ^ 6]
theorem worth_bd {x : Int} (hx : x.natAbs < 2 ^ 20) : ∀ (r : List Int) (f : Int) (j : Nat), f.natAbs < 2 ^ (100 + 21 * j) → (∀ a ∈ r, a.natAbs < 2 ^ 100) → (horner x r f).natAbs < 2 ^ (100 + 21 * (j + r.length))
  | [], f, j, hf, _ => hf
  | a :: r, f, j, hf, ha => by
    have h1 : (f * x).natAbs < 2 ^ (100 + 21 * j) * 2 ^ 20 := by rw [Int.natAbs_mul]; exact Nat.mul_lt_mul'' hf hx
    have h2 : a.natAbs < 2 ^ (100 + 21 * j) * 2 ^ 20 := Nat.lt_of_lt_of_le (ha a List.mem_cons_self) (by rw [← Nat.pow_add]; exact Nat.pow_le_pow_right (by decide) (by omega))
    have h3 : 2 ^ (100 + 21 * (j + 1)) = 2 * (2 ^ (100 + 21 * j) * 2 ^ 20) := by
      rw [show 100 + 21 * (j + 1) = 1 + (100 + 21 * j + 20) by omega, Nat.pow_add, Nat.pow_add, Nat.pow_one, Nat.pow_add]
    have h4 := Int.natAbs_add_le (f * x) a
    have := worth_bd hx r (f * x + a) (j + 1) (by omega) fun y hy => ha y (List.mem_cons_of_mem _ hy)
    rw [List.length_cons, show j + (r.length + 1) = j + 1 + r.length by omega]
    exact this
theorem worth_small {a : List Int} {x : Int} (d : Dw a) (hx : x.natAbs < 2 ^ 20) : (worth a x).natAbs < 2 ^ 1900 := by
  have l := d.len
  have z := worth_bd hx a.reverse 0 0 (by show 0 < _; exact Nat.pow_pos (by decide)) fun y hy => Nat.lt_of_le_of_lt (nrm_mem (List.mem_reverse.mp hy)) d.nr
  rw [List.length_reverse] at z
  exact Nat.lt_of_lt_of_le z (Nat.pow_le_pow_right (by decide) (by omega))
theorem m_product' {ls : List (List Int)} {P E : D → Prop} (hs : ∀ l ∈ ls, Dw l) (h3 : ls.length ≤ 3) (h : P (tI (prodF ls [1]))) : dBody N_tally_product.length t_tally_product [.lst (ls.map tI)] P E := by
  have sb : ∀ r : List (List Int), (∀ l ∈ r, Dw l) → (r.map fun l => (l.length : Int) - 1).sum ≤ 5 * r.length := fun r => by
    induction r with
    | nil => intro _; exact Int.le_refl _
    | cons l r ih =>
      intro hr
      have a := ih fun y hy => hr y (List.mem_cons_of_mem _ hy)
      have b := (hr l List.mem_cons_self).len
      rw [List.map_cons, List.sum_cons, List.length_cons]; omega
  have sl := sb ls hs
  refine m_product rfl (fun l hl => (hs l hl).tl) h3 (fun c => ?_) (fun _ c => ?_) fun _ _ => h
  · rw [prod_none ls [1] (.inr c)] at h
    exact h
  · omega
theorem neg_map {b : List Int} (i : Nat) : co (b.map fun x => 0 - x) i = 0 - co b i := by
  unfold co
  rw [List.getElem?_map]
  cases b[i]? with
  | none => rfl
  | some v => rfl
theorem nrm_neg : ∀ b : List Int, nrm (b.map fun x => 0 - x) = nrm b
  | [] => rfl
  | x :: b => by rw [List.map_cons, nrm_cons, nrm_cons, nrm_neg b]; omega
structure Dw' (l : List Int) : Prop where
  len : l.length ≤ 6
  nr : nrm l < 2 ^ 100
theorem less_self {a : List Int} : plus a a (-1) = [] := ct_ext (ct_cut _) (by rfl) fun i => by
  show co (plus a a (-1)) i = _
  rw [co_plus, co_nil]; omega
theorem less_back {a b c : List Int} (hc : ∀ i, co c i = 0 - co b i) : plus a b (-1) = sumF [a, c] [] := ct_ext (ct_cut _) (ct_sumF _ _ rfl) fun i => by
  show co (plus a b (-1)) i = _
  rw [co_plus, co_sumF, co_nil, S_cons, S_cons, hc]
  show _ = 0 + (co a i + (0 - co b i + 0))
  omega
theorem less_small {a b : List Int} (da : Dw a) (db : Dw b) : (plus a b (-1)).length ≤ 2000 ∧ nrm (plus a b (-1)) < 2 ^ 1900 := by
  have l := len_plus a b (-1)
  have n := nrm_plus a b (-1)
  have x := da.len
  have y := db.len
  have u := da.nr
  have v := db.nr
  rw [show (-1 : Int).natAbs = 1 from rfl, Nat.one_mul] at n
  refine ⟨by omega, Nat.lt_of_le_of_lt n (Nat.lt_of_lt_of_le (show nrm a + nrm b < 2 ^ 101 by rw [Nat.pow_succ]; omega) (Nat.pow_le_pow_right (by decide) (by decide)))⟩
theorem eqv_TT (l m : List Int) : PyData.eqv (pT l) (pT m) = decide (l = m) := by rw [PyData.eqv, eqvAll_ints]
abbrev rest3 : TDS := (dSeq (dIfS (dTest (d2 eqD (dCB lenD (dCons (dVar 4) dNil)) (dC (.int 0)))) (dRet (dLam wg__law_is_bad (dCall (dBody N_tally_through.length t_tally_through) 2 (dCons (dVar 3) (dCons (dVar 4) dNil))))) dNext)
    (dSeq (dSet 8 (dCall (dBody N__law_poly_product.length t__law_poly_product) 1 (dCons (dLst (dCons (dVar 3) (dCons (dVar 4) dNil))) dNil)))
    (dSeq (dIfS (dOr (dTest (d2 neD (dCB reprX (dCons (dCall (dBody N_tally_through.length t_tally_through) 2 (dCons (dVar 8) (dCons (dVar 4) dNil))) dNil)) (dCB reprX (dCons (dVar 3) dNil)))) (dTest (d2 neD (dCall (dBody N_tally_through.length t_tally_through) 2 (dCons (dTup dNil) (dCons (dVar 4) dNil))) (dTup dNil)))) (dRet (dC (.bl false))) dNext)
    (dSeq (dSet 9 (dCall (dBody N__law_poly_sum.length t__law_poly_sum) 1 (dCons (dLst (dCons (dVar 8) (dCons (dTup (dCons (dC (.int 1)) dNil)) dNil))) dNil)))
    (dRet (dOrV (d2 eqD (dCB lenD (dCons (dVar 4) dNil)) (dC (.int 1))) (d2 isD (dCallK (dBody N_tally_through.length t_tally_through) 2 0 2 [0, 1] dNil (dCons (dVar 9) (dCons (dVar 4) dNil))) (dC .non))))))))
theorem m_through_nil {a : List Int} (da : Tl a) {P E : D → Prop} (h : E (.exc "BadTally" [])) : dBody N_tally_through.length t_tally_through [tI a, tI []] P E :=
  ⟨rfl, m_need da.len da.ct ⟨rfl, m_need (l := []) (by decide) rfl ⟨_, _, rfl, rfl, rfl, rfl, iteBt (b := PyData.eqv (.int ((([] : List Int).map D.int).length : Int)) (.int 0)) (by rw [eqv_int]; rfl) h⟩⟩⟩
theorem times_nil (b : List Int) : times [] b = [] := ct_ext (ct_cut _) (by rfl) fun i => by
  show co (times [] b) i = co [] i
  rw [co_times, co_nil]; rfl
theorem m_sums3 {P E : D → Prop} {a b : List Int} {s1 s5 s7 : Option Sl} (da : Dw a) (db : Dw b) (h : P (.bl true)) : rest3 E { nx := fun _ => P .non, rt := P } [some (.sh .drw), s1, none, some (.sh (tI a)), some (.sh (tI b)), s5, none, s7, none, none] := by
  by_cases nb : b = []
  · subst nb
    refine ⟨_, _, rfl, rfl, rfl, rfl, iteBt (b := PyData.eqv (.int ((([] : List Int).map D.int).length : Int)) (.int 0)) (by rw [eqv_int]; rfl) ?_⟩
    exact m_is_bad (fun P' RX e => ⟨rfl, m_through_nil da.tl e⟩) h
  · have b0 : b.length ≠ 0 := fun z => nb (List.eq_nil_of_length_eq_zero z)
    have la := da.len
    have lb := db.len
    have lt := len_times_le a b
    have nt : nrm (times a b) < 2 ^ 200 := Nat.lt_of_le_of_lt (nrm_times a b) (by rw [show 200 = 100 + 100 from rfl, Nat.pow_add]; exact Nat.mul_lt_mul'' da.nr db.nr)
    have tt : Tl (times a b) := ⟨ct_cut _, by omega, Nat.lt_of_lt_of_le nt (Nat.pow_le_pow_right (by decide) (by decide))⟩
    have nb1 : nrm b < 2 ^ 1000 := up100 db.nr (by decide)
    have rA := rT (l := a) (by omega) (up100 da.nr (by decide))
    have lo := len_plus (plus [] (times a b) 1) [1] 1
    have lo2 := len_plus [] (times a b) 1
    have no := nrm_plus (plus [] (times a b) 1) [1] 1
    have no2 := nrm_plus [] (times a b) 1
    rw [show (1 : Int).natAbs = 1 from rfl, Nat.one_mul] at no no2
    rw [show nrm [1] = 1 from rfl] at no
    rw [show nrm [] = 0 from rfl] at no2
    have ol : (sumF [times a b, [1]] []).length ≤ 12 := by
      show (plus (plus [] (times a b) 1) [1] 1).length ≤ 12
      simp only [List.length_nil, List.length_singleton] at lo lo2
      omega
    have on : nrm (sumF [times a b, [1]] []) < 2 ^ 201 := by
      show nrm (plus (plus [] (times a b) 1) [1] 1) < 2 ^ 201
      rw [Nat.pow_succ]
      omega
    have ot : Tl (sumF [times a b, [1]] []) := ⟨ct_sumF _ _ rfl, by omega, Nat.lt_of_lt_of_le on (Nat.pow_le_pow_right (by decide) (by decide))⟩
    refine ⟨_, _, rfl, rfl, rfl, rfl, iteB (b := PyData.eqv (.int ((b.map D.int).length : Int)) (.int 0)) (by rw [eqv_int, List.length_map]; exact decide_eq_false (by omega)) ?_⟩
    refine ⟨(by decide : 2 ≤ sizeLine), rfl, m_pprod (ls := [a, b]) (fun l hl => ?_) (by simp) ?_⟩
    · rcases List.mem_cons.mp hl with rfl | hl
      · exact da.sm
      · rw [List.mem_singleton.mp hl]; exact db.sm
    rw [prod_two da.ct]
    refine ⟨rfl, m_through tt (Nat.lt_of_lt_of_le nt (Nat.pow_le_pow_right (by decide) (by decide))) ⟨by omega, nb1⟩ db.tl nb (fun z => ?_) fun l z => ?_⟩
    · rw [quotF_exact da.ct db.ct nb] at z; cases z
    rw [quotF_exact da.ct db.ct nb] at z
    cases z
    refine ⟨_, rA.f1, rA.f2, rA.f3, rA.f4, _, rA.f1, rA.f2, rA.f3, rA.f4, _, _, rfl, rfl, rA.ok, rA.ok, iteB (b := !PyData.eqv (.str (pT a).shown) (.str (pT a).shown)) (eqv_ss _) ?_⟩
    have qn : quotF [] b = some [] := by
      have := quotF_exact (a := []) (b := b) rfl db.ct nb
      rw [times_nil] at this
      exact this
    refine ⟨Nat.zero_le _, rfl, m_through (a := []) ⟨rfl, by decide, Nat.pow_pos (by decide)⟩ (Nat.pow_pos (by decide)) ⟨by simp; omega, nb1⟩ db.tl nb (fun z => ?_) fun l z => ?_⟩
    · rw [qn] at z; cases z
    rw [qn] at z
    cases z
    refine ⟨Nat.zero_le _, _, _, pd_tI [], pd_tI [], shaped_tI [], shaped_tI [], iteB (b := !PyData.eqv (pT []) (pT [])) (by rw [eqv_TT]; rfl) ?_⟩
    refine ⟨(by decide : 1 ≤ sizeLine), (by decide : 2 ≤ sizeLine), rfl, m_psum' (ls := [times a b, [1]]) (fun l hl => ?_) (by simp) ?_⟩
    · rcases List.mem_cons.mp hl with rfl | hl
      · omega
      · rw [List.mem_singleton.mp hl]; decide
    refine ⟨_, _, rfl, rfl, rfl, rfl, ?_⟩
    rw [eqv_int, List.length_map]
    by_cases c : b.length = 1
    · rw [decide_eq_true (show (b.length : Int) = 1 by omega)]
      exact h
    · rw [decide_eq_false (show ¬ (b.length : Int) = 1 by omega)]
      have qo : quotF (sumF [times a b, [1]] []) b = none := quotF_off (a := a) db.ct (by omega) fun i => by
        rw [co_sumF, co_nil, S_cons, S_cons, co_times]
        cases i with
        | zero => show 0 + (mulP a b 0 + (1 + 0)) = mulP a b 0 + if 0 = 0 then 1 else 0; rw [if_pos rfl]; omega
        | succ i =>
          show 0 + (mulP a b (i + 1) + (co [1] (i + 1) + 0)) = mulP a b (i + 1) + if i + 1 = 0 then 1 else 0
          rw [co_consS, co_nil, if_neg (by omega)]; omega
      refine ⟨rfl, rfl, rfl, m_through ot (Nat.lt_of_lt_of_le on (Nat.pow_le_pow_right (by decide) (by decide))) ⟨by omega, nb1⟩ db.tl nb (fun _ => h) fun l z => ?_⟩
      rw [qo] at z; cases z
abbrev rest2 : TDS := (dSeq (dIfS (dOr (dTest (d2 neD (dCB reprX (dCons (dCall (dBody N_tally_less.length t_tally_less) 2 (dCons (dVar 3) (dCons (dVar 4) dNil))) dNil)) (dCB reprX (dCons (dCall (dBody N__law_poly_sum.length t__law_poly_sum) 1 (dCons (dLst (dCons (dVar 3) (dCons (dVar 7) dNil))) dNil)) dNil)))) (dTest (d2 neD (dCallK (dBody N_tally_less.length t_tally_less) 2 0 2 [0, 1] dNil (dCons (dVar 3) (dCons (dVar 3) dNil))) (dTup dNil)))) (dRet (dC (.bl false))) dNext) rest3)
theorem m_sums2 {P E : D → Prop} {a b c : List Int} {s1 : Option Sl} {q : Int} (da : Dw a) (db : Dw b) (dc : Dw' c) (hc : ∀ i, co c i = 0 - co b i) (h : P (.bl true)) : rest2 E { nx := fun _ => P .non, rt := P } [some (.sh .drw), s1, none, some (.sh (tI a)), some (.sh (tI b)), some (.sh (.int q)), none, some (.sh (tI c)), none, none] := by
  have ls := less_small da db
  have rL := rT ls.1 ls.2
  have cl := dc.len
  have al := da.len
  refine ⟨rfl, m_less da.tl db.tl ⟨_, rL.f1, rL.f2, rL.f3, rL.f4, (by decide : 2 ≤ sizeLine), rfl, ?_⟩⟩
  refine m_psum' (ls := [a, c]) (fun l hl => ?_) (by simp) ?_
  · rcases List.mem_cons.mp hl with rfl | hl
    · omega
    · obtain rfl := List.mem_singleton.mp hl
      omega
  rw [← less_back hc]
  refine ⟨_, rL.f1, rL.f2, rL.f3, rL.f4, _, _, rfl, rfl, rL.ok, rL.ok, iteB (b := !PyData.eqv (.str (pT (plus a b (-1))).shown) (.str (pT (plus a b (-1))).shown)) (eqv_ss _) ?_⟩
  refine ⟨rfl, rfl, rfl, m_less da.tl da.tl ?_⟩
  rw [less_self]
  refine ⟨Nat.zero_le _, _, _, pd_tI [], pd_tI [], shaped_tI [], shaped_tI [], iteB (b := !PyData.eqv (pT []) (pT [])) (by rw [eqv_TT]; rfl) ?_⟩
  exact m_sums3 da db h
theorem m_sums {P E : D → Prop} (h : P (.bl true)) : dBody N__law_sums_right.length t__law_sums_right [.drw] P E := by
  refine ⟨rfl, p_take (by decide) (by decide) fun r r0 r1 => ⟨⟨by omega, by omega⟩, ?_⟩⟩
  refine so_loop (rangeD 0 r) [] (by unfold rangeD; rw [List.length_map, List.length_range]; simp; omega) nofun fun ls hl hd => ?_
  refine ⟨rfl, m_ltally fun a a1 a2 a3 => ⟨rfl, m_ltally fun b b1 b2 b3 => ⟨⟨by decide, by decide, by decide⟩, ⟨by decide, by decide, by decide⟩, (by decide : 7 ≤ sizeLine), rfl, p_pick (l := nums7.map D.int) (.inl rfl) (by decide) (by decide) fun x hx => ⟨(by decide : 3 ≤ sizeLine), rfl, ?_⟩⟩⟩⟩
  obtain ⟨q, hq, rfl⟩ := List.mem_map.mp hx
  have da : Dw a := ⟨a1, a2, a3⟩
  have db : Dw b := ⟨b1, b2, b3⟩
  have qb : -1000000 ≤ q ∧ q ≤ 1000000 := by
    simp only [nums7, List.mem_cons, List.not_mem_nil, or_false] at hq
    omega
  refine ⟨(by decide : 2 ≤ sizeLine), Nat.le_trans (show _ ≤ 10 by rw [List.length_map]; simp; omega) (by decide), ?_⟩
  have hq20 : q.natAbs < 2 ^ 20 := by omega
  have wr := rI (worth_small da hq20)
  obtain ⟨s1, s2⟩ := sum_small ls [] 0 hd (by decide) (by decide)
  have rS := rT (l := sumF ls []) (by omega) (Nat.lt_of_lt_of_le s2 (Nat.pow_le_pow_right (by decide) (by omega)))
  obtain ⟨p1, p2⟩ := prod_small ls [1] 0 hd (by decide) (by decide)
  have rP := rT (l := prodF ls [1]) (by omega) (Nat.lt_of_lt_of_le p2 (Nat.pow_le_pow_right (by decide) (by omega)))
  show dCompL _ _ _ _ _ (ls.map tI ++ [tI a, tI b]) [] _
  rw [show ls.map tI ++ [tI a, tI b] = (ls ++ [a, b]).map tI by rw [List.map_append]; rfl]
  refine q_compM (it := tI) (f := fun _ => D.bl true) (δ0 := [some (.sh .drw), some (.sh (.lst (ls.map tI))), none, some (.sh (tI a)), some (.sh (tI b)), some (.sh (.int q)), none, none, none, none]) _ (by simp; omega) (fun l hl Q hq => ?_) ?_
  · have dl : Dw l := by
      rcases List.mem_append.mp hl with z | z
      · exact hd l z
      · rcases List.mem_cons.mp z with rfl | z
        · exact da
        · rw [List.mem_singleton.mp z]; exact db
    refine ⟨rfl, m_is_tally dl.tl.len ?_⟩
    rw [decide_eq_true dl.ct]
    exact hq
  refine ⟨_, asB_map (fun _ => true) _, iteB (b := !(((ls ++ [a, b]).map fun _ => true).all _root_.id)) (by simp) ?_⟩
  refine ⟨rfl, rfl, rfl, m_tally_at da.tl qb.1 qb.2 ⟨_, wr.f1, wr.f2, wr.f3, wr.f4, rfl, m_worth da.tl hq20 ⟨_, wr.f1, wr.f2, wr.f3, wr.f4, _, _, rfl, rfl, wr.ok, wr.ok, iteB (b := !PyData.eqv (.str (PyData.int (worth a q)).shown) (.str (PyData.int (worth a q)).shown)) (eqv_ss _) ?_⟩⟩⟩
  have tls : ∀ l ∈ ls, Tl l := fun l hl => (hd l hl).tl
  have l20 : ∀ l ∈ ls, l.length ≤ 2000 := fun l hl => (tls l hl).len
  refine ⟨rfl, m_sum (.inl rfl) tls ⟨_, rS.f1, rS.f2, rS.f3, rS.f4, rfl, m_psum' l20 (by omega) ⟨_, rS.f1, rS.f2, rS.f3, rS.f4, _, _, rfl, rfl, rS.ok, rS.ok, iteB (b := !PyData.eqv (.str (pT (sumF ls [])).shown) (.str (pT (sumF ls [])).shown)) (eqv_ss _) ?_⟩⟩⟩
  refine ⟨rfl, rfl, rfl, m_sum (.inr rfl) tls ⟨_, rS.f1, rS.f2, rS.f3, rS.f4, rfl, m_psum' l20 (by omega) ⟨_, rS.f1, rS.f2, rS.f3, rS.f4, _, _, rfl, rfl, rS.ok, rS.ok, iteB (b := !PyData.eqv (.str (pT (sumF ls [])).shown) (.str (pT (sumF ls [])).shown)) (eqv_ss _) ?_⟩⟩⟩
  refine ⟨rfl, rfl, rfl, m_product' hd hl ⟨_, rP.f1, rP.f2, rP.f3, rP.f4, rfl, m_pprod (fun l hl => (hd l hl).sm) hl ⟨_, rP.f1, rP.f2, rP.f3, rP.f4, _, _, rfl, rfl, rP.ok, rP.ok, iteB (b := !PyData.eqv (.str (pT (prodF ls [1])).shown) (.str (pT (prodF ls [1])).shown)) (eqv_ss _) ?_⟩⟩⟩
  have dn : Dw' (b.map fun x => 0 - x) := ⟨by rw [List.length_map]; exact b2, by rw [nrm_neg]; exact b3⟩
  refine q_compM (it := D.int) (f := fun x => D.int (0 - x)) (δ0 := [some (.sh .drw), some (.sh (.lst (ls.map tI))), none, some (.sh (tI a)), some (.sh (tI b)), some (.sh (.int q)), none, none, none, none]) b (by omega) (fun x _ Q hq => hq) ?_
  rw [show (b.map fun x => D.int (0 - x)) = (b.map fun x => 0 - x).map D.int by rw [List.map_map]; rfl]
  exact m_sums2 (s1 := some (.sh (.lst (ls.map tI)))) (q := q) da db dn (fun i => neg_map i) h
end K74

namespace K74
open PySem PySem.Spec L2 DL
open PyProof.Rows hiding St
theorem longT (n : Nat) (x : Int) : (List.replicate (n : Int).toNat [D.int 0]).flatten ++ [D.int x] = (List.replicate n (0 : Int) ++ [x]).map D.int := by
  rw [Int.toNat_natCast, rep0, List.map_append]; rfl
/-- (0,) * n + (x,) -/
theorem d_long {n : Nat} {x : Int} {rx : D → Prop} {δ : DL.Env} {P : D → DL.Env → Prop} (hn : n ≤ 2000) {tx : TDX} (hx : ∀ K : D → DL.Env → Prop, K (.int x) δ → tx rx δ K) (h : P (tI (List.replicate n 0 ++ [x])) δ) :
    (dFrz (f2 addF (dFrz (f2 mulG (dTup (dCons (dC (.int 0)) dNil)) (dC (.int (n : Int))))) (dTup (dCons tx dNil)))) rx δ P := by
  refine ⟨(by decide : 1 ≤ sizeLine), ⟨nofun, by omega, by omega, Nat.le_trans (show 1 * (n : Int).toNat ≤ 2000 by omega) (by decide)⟩, ?_⟩
  refine hx _ ⟨(by decide : 1 ≤ sizeLine), Nat.le_trans (show _ ≤ 2001 by rw [Int.toNat_natCast, rep0]; simp; omega) (by decide), ?_⟩
  show P (.tup ((List.replicate (n : Int).toNat [D.int 0]).flatten ++ [D.int x])) δ
  rw [longT]
  exact h
theorem ct_long {n : Nat} {x : Int} (hx : x ≠ 0) : Ct (List.replicate n 0 ++ [x]) := ct_iff.mpr (.inr (by
  rw [co_app, if_neg (by simp), List.length_append, List.length_replicate, List.length_singleton, Nat.add_sub_cancel, Nat.sub_self]
  exact hx))
theorem nrm_long {n : Nat} {x : Int} : nrm (List.replicate n 0 ++ [x]) = x.natAbs := by
  rw [nrm_app, nrm_rep]
  show 0 + (x.natAbs + 0) = _
  omega
abbrev l999 : List Int := List.replicate 999 0 ++ [1]
abbrev l1000 : List Int := List.replicate 1000 0 ++ [1]
theorem tl_long {n : Nat} (hn : n ≤ 1999) : Tl (List.replicate n 0 ++ [1]) := ⟨ct_long (by decide), by simp; omega, by rw [nrm_long]; exact Nat.one_lt_two_pow (by decide)⟩
theorem tl_01 : Tl [0, 1] := ⟨by decide, by decide, Nat.lt_of_le_of_lt (show nrm [0, 1] ≤ 1 by decide) (Nat.one_lt_two_pow (by decide))⟩
theorem tl_1 : Tl [1] := ⟨by decide, by decide, Nat.lt_of_le_of_lt (show nrm [1] ≤ 1 by decide) (Nat.one_lt_two_pow (by decide))⟩
theorem tl_nil : Tl [] := ⟨rfl, by decide, Nat.pow_pos (by decide)⟩
theorem len3 : (([l999, l1000, [0, 1]] : List (List Int)).map fun l => (l.length : Int) - 1).sum + 1 = 2001 := by simp
theorem c_long {P E : D → Prop} (h : E (.exc "BadTally" [])) : dBody N_tally_product.length t_tally_product [.lst (([l999, l1000, [0, 1]] : List (List Int)).map tI)] P E := by
  refine m_product rfl (fun l hl => ?_) (by simp) (fun ⟨l, hl, c⟩ => ?_) (fun _ _ => h) fun _ c => ?_
  · simp only [List.mem_cons, List.not_mem_nil, or_false] at hl
    rcases hl with rfl | rfl | rfl
    · exact tl_long (by decide)
    · exact tl_long (by decide)
    · exact tl_01
  · simp only [List.mem_cons, List.not_mem_nil, or_false] at hl
    rcases hl with rfl | rfl | rfl <;> simp at c
  · rw [len3] at c
    exact absurd c (by decide)
end K74

namespace K74
open PySem PySem.Spec L2 DL
open PyProof.Rows hiding St
theorem m_ten {x : D} {w L : D} (bx : Bad x) (hL : ∀ {P E : D → Prop}, E (.exc "BadTally" []) → dBody N_tally_product.length t_tally_product [L] P E) {rx : D → Prop} {DE : DEnds} (h : DE.nx [some (.sh .drw), some (.sh w), some (.sh x), some (.sh L), none, none, none]) :
    (dLams 4 (fun fl tb => (dNot (dTest (dPassL 4 wg__law_is_bad fl tb)))) [(dCall (dBody N_tally_at.length t_tally_at) 2 (dCons (dVar 2) (dCons (dC .non) dNil))), (dCall (dBody N_tally_sum.length t_tally_sum) 1 (dCons (dLst (dCons (dTup (dCons (dC (.int 1)) dNil)) (dCons (dVar 2) dNil))) dNil)), (dCall (dBody N_tally_product.length t_tally_product) 1 (dCons (dLst (dCons (dVar 2) dNil)) dNil)), (dCall (dBody N_tally_less.length t_tally_less) 2 (dCons (dTup dNil) (dCons (dVar 2) dNil))), (dCall (dBody N_tally_less.length t_tally_less) 2 (dCons (dVar 2) (dCons (dTup dNil) dNil))), (dCall (dBody N_tally_through.length t_tally_through) 2 (dCons (dVar 2) (dCons (dTup (dCons (dC (.int 1)) dNil)) dNil))), (dCall (dBody N_tally_through.length t_tally_through) 2 (dCons (dTup (dCons (dC (.int 1)) dNil)) (dCons (dVar 2) dNil))), (dCall (dBody N_tally_sum.length t_tally_sum) 1 (dCons (dC .non) dNil)), (dCall (dBody N_tally_product.length t_tally_product) 1 (dCons (dFrz fDict0) dNil)), (dCall (dBody N_tally_product.length t_tally_product) 1 (dCons (dVar 3) dNil))])
      rx DE [some (.sh .drw), some (.sh w), some (.sh x), some (.sh L), none, none, none] := by
  refine m_lams (by simp) _ (fun tb htb fl => ?_) h
  simp only [List.mem_cons, List.not_mem_nil, or_false] at htb
  rcases htb with rfl | rfl | rfl | rfl | rfl | rfl | rfl | rfl | rfl | rfl
  · exact fun P' RX e => ⟨rfl, c_at bx e⟩
  · exact fun P' RX e => ⟨(by decide : 1 ≤ sizeLine), (by decide : 2 ≤ sizeLine), rfl, ⟨rfl, c_needs2 (l := [1]) bx tl_1 e⟩⟩
  · exact fun P' RX e => ⟨(by decide : 1 ≤ sizeLine), rfl, ⟨rfl, c_needs1 bx e⟩⟩
  · exact fun P' RX e => ⟨Nat.zero_le _, rfl, c_less2 (l := []) bx tl_nil e⟩
  · exact fun P' RX e => ⟨Nat.zero_le _, rfl, c_less1 bx e⟩
  · exact fun P' RX e => ⟨(by decide : 1 ≤ sizeLine), rfl, c_thr1 bx e⟩
  · exact fun P' RX e => ⟨(by decide : 1 ≤ sizeLine), rfl, c_thr2 (l := [1]) bx tl_1 e⟩
  · exact fun P' RX e => ⟨rfl, ⟨rfl, c_nolist (.inl rfl) e⟩⟩
  · exact fun P' RX e => ⟨rfl, ⟨rfl, c_nolist (.inr rfl) e⟩⟩
  · exact fun P' RX e => ⟨rfl, hL e⟩
end K74

namespace K74
open PySem PySem.Spec L2 DL
open PyProof.Rows hiding St
/-! ### numbers that are refused -/
def numX (s : Str) : D := .exc "BadNumber" [("part", .str s)]
theorem m_part {tl : TL} {s : Str} (h : ∀ P' RX, RX (numX s) → tl P' RX) {P E : D → Prop} (k : P (.str s)) : wg__law_part tl P E := fun fl => ⟨rfl, h _ _ ⟨by simp [cs], ⟨_, _, _, rfl, rfl, rfl, ⟨_, rfl, k⟩⟩⟩⟩
/-- is_between is False -/
def Out (d : D) (lo hi : Int) : Prop := ∀ {P E : D → Prop}, P (.bl false) → dBody N_is_between.length t_is_between [d, .int lo, .int hi] P E
theorem out_odd {d : D} {lo hi : Int} (h : d = .non ∨ (∃ b, d = .bl b) ∨ (∃ s, d = .str s) ∨ ∃ l, d = .tup l) : Out d lo hi := fun k => ⟨rfl, m_odd h k⟩
theorem out_int {i lo hi : Int} (h : i < lo ∨ hi < i) : Out (.int i) lo hi := fun k => m_between (by
  have e : (decide (lo ≤ i) && decide (i ≤ hi)) = false := by
    rcases h with h | h
    · rw [decide_eq_false (by omega), Bool.false_and]
    · rw [decide_eq_false (show ¬ i ≤ hi by omega), Bool.and_false]
  rw [e]; exact k)
def odds : List D := [.non, .bl true, .int (-1), .int 13, .str "1", .tup [.int 1], .int (10 ^ 20)]
def fars : List D := [.non, .bl true, .str "2", .tup [.int 2], .int (10 ^ 6 + 1), .int (-1 - 10 ^ 6)]
theorem odds_out : ∀ d ∈ odds, Out d 0 12 := by
  intro d hd
  simp only [odds, List.mem_cons, List.not_mem_nil, or_false] at hd
  rcases hd with rfl | rfl | rfl | rfl | rfl | rfl | rfl
  · exact out_odd (.inl rfl)
  · exact out_odd (.inr (.inl ⟨_, rfl⟩))
  · exact out_int (.inl (by decide))
  · exact out_int (.inr (by decide))
  · exact out_odd (.inr (.inr (.inl ⟨_, rfl⟩)))
  · exact out_odd (.inr (.inr (.inr ⟨_, rfl⟩)))
  · exact out_int (.inr (by decide))
theorem fars_out : ∀ d ∈ fars, Out d (0 - 1000000) 1000000 := by
  intro d hd
  simp only [fars, List.mem_cons, List.not_mem_nil, or_false] at hd
  rcases hd with rfl | rfl | rfl | rfl | rfl | rfl
  · exact out_odd (.inl rfl)
  · exact out_odd (.inr (.inl ⟨_, rfl⟩))
  · exact out_odd (.inr (.inr (.inl ⟨_, rfl⟩)))
  · exact out_odd (.inr (.inr (.inr ⟨_, rfl⟩)))
  · exact out_int (.inr (by decide))
  · exact out_int (.inl (by decide))
theorem x_whole {d : D} (o : Out d 0 12) {P E : D → Prop} (h : E (numX "size")) : dBody N_whole_tally.length t_whole_tally [d] P E := ⟨rfl, o h⟩
theorem x_choi1 {d e : D} (o : Out d 0 12) {P E : D → Prop} (h : E (numX "size")) : dBody N_choices_tally.length t_choices_tally [d, e] P E := ⟨rfl, o h⟩
theorem x_choi2 {d : D} (o : Out d 0 12) {P E : D → Prop} (h : E (numX "part")) : dBody N_choices_tally.length t_choices_tally [.int 1, d] P E :=
  ⟨rfl, m_between (iteB (b := !(decide ((0 : Int) ≤ 1) && decide ((1 : Int) ≤ 12))) rfl ⟨rfl, o h⟩)⟩
theorem x_at {d : D} (o : Out d (0 - 1000000) 1000000) {P E : D → Prop} (h : E (numX "number")) : dBody N_tally_at.length t_tally_at [tI [1], d] P E :=
  ⟨rfl, m_need (l := [1]) (by decide) (by decide) ⟨rfl, o h⟩⟩
/-- a product in which () is -/
theorem m_product0 {ls : List (List Int)} {P E : D → Prop} (hs : ∀ l ∈ ls, Tl l) (h3 : ls.length ≤ 10) (hz : ∃ l ∈ ls, l.length = 0) (h : P (tI [])) : dBody N_tally_product.length t_tally_product [.lst (ls.map tI)] P E := by
  refine ⟨rfl, m_needs (.inl rfl) hs ?_⟩
  refine q_compM (it := tI) (f := fun l => D.bl (decide ((l.length : Int) = 0))) (δ0 := [some (.sh (.lst (ls.map tI))), none, none]) ls (by omega) (fun l _ Q hq => ?_) ?_
  · have e : ((l.map D.int).length : Int) = (l.length : Int) := by rw [List.length_map]
    show eqD (.int ((l.map D.int).length : Int)) (.int 0) fun y => Q (some y) [some (.sh (.lst (ls.map tI))), none, none]
    rw [e]
    exact q_eq hq
  refine ⟨_, asB_map (fun l : List Int => decide ((l.length : Int) = 0)) ls, ?_⟩
  refine iteBt (b := (ls.map fun l => decide ((l.length : Int) = 0)).any _root_.id) ?_ ?_
  · obtain ⟨l, hl, e⟩ := hz
    rw [List.any_map, List.any_eq_true]
    exact ⟨l, hl, by simp [List.eq_nil_of_length_eq_zero e]⟩
  · exact ⟨Nat.zero_le _, h⟩
end K74

namespace K74
open PySem PySem.Spec L2 DL
open PyProof.Rows hiding St
/-! ### the end of what is refused, statement by statement -/
abbrev eR (w x L : D) (a b : Option Sl) : DL.Env := [some (.sh .drw), some (.sh w), some (.sh x), some (.sh L), none, a, b]
theorem r5 {rx : D → Prop} {DD : DEnds} {w x L : D} (h : ∀ o, Out o 0 12 → DD.nx (eR w x L (some (.sh o)) none)) :
    (dSet 5 (dCall (dBody N__law_pick.length t__law_pick) 2 (dCons (dVar 0) (dCons (dLst (dCons (dC .non) (dCons (dC (.bl true)) (dCons (d1 negD (dC (.int 1))) (dCons (dC (.int 13)) (dCons (dC (.str "1")) (dCons (dTup (dCons (dC (.int 1)) dNil)) (dCons (d2 powD (dC (.int 10)) (dC (.int 20))) dNil)))))))) dNil)))) rx DD (eR w x L none none) := by
  refine ⟨(by decide : 1 ≤ sizeLine), ⟨by decide, by decide, by decide⟩, (by decide : 7 ≤ sizeLine), rfl, p_pick (l := odds) (.inl rfl) (by decide) (by decide) fun o ho => ?_⟩
  exact h o (odds_out o ho)
theorem r6 {rx : D → Prop} {DD : DEnds} {w x L : D} {a : Option Sl} (h : ∀ o, Out o (0 - 1000000) 1000000 → DD.nx (eR w x L a (some (.sh o)))) :
    (dSet 6 (dCall (dBody N__law_pick.length t__law_pick) 2 (dCons (dVar 0) (dCons (dLst (dCons (dC .non) (dCons (dC (.bl true)) (dCons (dC (.str "2")) (dCons (dTup (dCons (dC (.int 2)) dNil)) (dCons (dFrz (f2 addF (d2 powD (dC (.int 10)) (dC (.int 6))) (dC (.int 1)))) (dCons (d2 subD (d1 negD (dC (.int 1))) (d2 powD (dC (.int 10)) (dC (.int 6)))) dNil))))))) dNil)))) rx DD (eR w x L a none) := by
  refine ⟨(by decide : 1 ≤ sizeLine), ⟨by decide, by decide, by decide⟩, ⟨by decide, by decide, by decide⟩, (by decide : 6 ≤ sizeLine), rfl, p_pick (l := fars) (.inl rfl) (by decide) (by decide) fun o ho => ?_⟩
  exact h o (fars_out o ho)
abbrev rows3 : List (List Int) := [l999, l1000, [0, 1]]
theorem rows3_tl : ∀ l ∈ rows3, Tl l := fun l hl => by
  simp only [List.mem_cons, List.not_mem_nil, or_false] at hl
  rcases hl with rfl | rfl | rfl
  · exact tl_long (by decide)
  · exact tl_long (by decide)
  · exact tl_01
theorem r7 {rx : D → Prop} {DD : DEnds} {w x : D} {a b : Option Sl} {ls : List (List Int)} (hs : ∀ l ∈ ls, Tl l) (hl : ls.length ≤ 3) (h : DD.nx (eR w x (.lst (ls.map tI)) a b)) :
    (dIfS (dTest (d2 neD (dCall (dBody N_tally_product.length t_tally_product) 1 (dCons (dFrz (f2 addF (dVar 3) (dLst (dCons (dTup dNil) dNil)))) dNil)) (dTup dNil))) (dRet (dC (.bl false))) dNext) rx DD (eR w x (.lst (ls.map tI)) a b) := by
  refine ⟨Nat.zero_le _, (by decide : 1 ≤ sizeLine), Nat.le_trans (show _ ≤ 10 by simp; omega) (by decide), rfl, ?_⟩
  have e : ls.map tI ++ [D.tup []] = (ls ++ [[]]).map tI := by rw [List.map_append]; rfl
  show dBody _ _ [.lst (ls.map tI ++ [D.tup []])] _ _
  rw [e]
  refine m_product0 (fun l hl => ?_) (by simp; omega) ⟨[], by simp, rfl⟩ ?_
  · rcases List.mem_append.mp hl with z | z
    · exact hs l z
    · rw [List.mem_singleton.mp z]; exact tl_nil
  · exact ⟨Nat.zero_le _, _, _, pd_tI [], pd_tI [], shaped_tI [], shaped_tI [], iteB (b := !PyData.eqv (pT []) (pT [])) (by rw [eqv_TT]; rfl) h⟩
theorem sh_size : SeqAt.shaped (.str "size") = true := by first | rfl | decide | decide +kernel
theorem sh_part : SeqAt.shaped (.str "part") = true := by first | rfl | decide | decide +kernel
theorem sh_number : SeqAt.shaped (.str "number") = true := by first | rfl | decide | decide +kernel
theorem ct_times {a b : List Int} : Ct (times a b) := ct_cut _
theorem p_two : (prodF [l999, l1000] [1]).length = 2000 := by
  have h1 : Ct l999 := (tl_long (n := 999) (by decide)).ct
  have h2 : Ct l1000 := (tl_long (n := 1000) (by decide)).ct
  have n1 : l999 ≠ [] := by simp
  have n2 : l1000 ≠ [] := by simp
  show (times (times [1] l999) l1000).length = 2000
  have e1 : (times [1] l999).length = 1000 := by
    rw [len_times (by decide) h1 (by decide) n1]; simp
  have n3 : times [1] l999 ≠ [] := fun z => by rw [z] at e1; cases e1
  rw [len_times ct_times h2 n3 n2, e1]; simp
theorem r8 {rx : D → Prop} {DD : DEnds} {w x o : D} {b : Option Sl} {L : List (List Int)} (eL : L = rows3) (oo : Out o 0 12) (h : DD.nx (eR w x (.lst (L.map tI)) (some (.sh o)) b)) :
    (dIfS (dOr (dTest (d2 neD (dLam wg__law_part (dCall (dBody N_whole_tally.length t_whole_tally) 1 (dCons (dVar 5) dNil))) (dC (.str "size")))) (dTest (d2 neD (dCB lenD (dCons (dCall (dBody N_tally_product.length t_tally_product) 1 (dCons (dFrz (fSlice (dVar 3) dNoPart (dPart (dC (.int 2))))) dNil)) dNil)) (dC (.int 2000))))) (dRet (dC (.bl false))) dNext) rx DD (eR w x (.lst (L.map tI)) (some (.sh o)) b) := by
  refine m_part (s := "size") (fun P' RX e => ⟨rfl, x_whole oo e⟩) ?_
  refine ⟨_, _, rfl, rfl, sh_size, sh_size, iteB (b := !PyData.eqv (.str "size") (.str "size")) (eqv_ss _) ?_⟩
  refine ⟨rfl, ?_⟩
  have e : DL.cutD (L.map tI) none (some (2 : Int)) = ([l999, l1000] : List (List Int)).map tI := by
    rw [eL]; rfl
  show dBody _ _ [.lst (DL.cutD (L.map tI) none (some (2 : Int)))] _ _
  rw [e]
  refine m_product rfl (fun l hl => ?_) (by simp) (fun ⟨l, hl, c⟩ => ?_) (fun _ c => ?_) fun _ _ => ?_
  · exact rows3_tl l (by
      simp only [List.mem_cons, List.not_mem_nil, or_false] at hl ⊢
      rcases hl with z | z
      · exact .inl z
      · exact .inr (.inl z))
  · simp only [List.mem_cons, List.not_mem_nil, or_false] at hl
    rcases hl with rfl | rfl <;> simp at c
  · exfalso
    simp at c
  · have q := p_two
    revert q
    generalize prodF [l999, l1000] [1] = p
    intro q
    refine ⟨_, _, rfl, rfl, rfl, rfl, iteB (b := !PyData.eqv (.int ((p.map D.int).length : Int)) (.int 2000)) (by rw [eqv_int, List.length_map, q]; rfl) h⟩
theorem r9 {rx : D → Prop} {DD : DEnds} {w x L o : D} {b : Option Sl} (oo : Out o 0 12) (h : DD.nx (eR w x L (some (.sh o)) b)) :
    (dIfS (dTest (d2 neD (dLam wg__law_part (dCall (dBody N_choices_tally.length t_choices_tally) 2 (dCons (dVar 5) (dCons (dVar 5) dNil)))) (dC (.str "size")))) (dRet (dC (.bl false))) dNext) rx DD (eR w x L (some (.sh o)) b) := by
  refine m_part (s := "size") (fun P' RX e => ⟨rfl, x_choi1 oo e⟩) ?_
  exact ⟨_, _, rfl, rfl, sh_size, sh_size, iteB (b := !PyData.eqv (.str "size") (.str "size")) (eqv_ss _) h⟩
theorem r10 {rx : D → Prop} {DD : DEnds} {w x L o : D} {b : Option Sl} (oo : Out o 0 12) (h : DD.nx (eR w x L (some (.sh o)) b)) :
    (dIfS (dTest (d2 neD (dLam wg__law_part (dCall (dBody N_choices_tally.length t_choices_tally) 2 (dCons (dC (.int 1)) (dCons (dVar 5) dNil)))) (dC (.str "part")))) (dRet (dC (.bl false))) dNext) rx DD (eR w x L (some (.sh o)) b) := by
  refine m_part (s := "part") (fun P' RX e => ⟨rfl, x_choi2 oo e⟩) ?_
  exact ⟨_, _, rfl, rfl, sh_part, sh_part, iteB (b := !PyData.eqv (.str "part") (.str "part")) (eqv_ss _) h⟩
theorem r11 {rx : D → Prop} {DD : DEnds} {w x L o : D} {a : Option Sl} (oo : Out o (0 - 1000000) 1000000) (h : DD.rt (.bl true)) :
    (dRet (d2 eqD (dLam wg__law_part (dCall (dBody N_tally_at.length t_tally_at) 2 (dCons (dTup (dCons (dC (.int 1)) dNil)) (dCons (dVar 6) dNil)))) (dC (.str "number")))) rx DD (eR w x L a (some (.sh o))) := by
  refine m_part (s := "number") (fun P' RX e => ⟨(by decide : 1 ≤ sizeLine), rfl, x_at oo e⟩) ?_
  exact ⟨_, _, rfl, rfl, sh_number, sh_number, by
    rw [show PyData.eqv (.str "number") (.str "number") = true from by simpa using eqv_ss "number"]; exact h⟩
end K74

namespace K74
open PySem PySem.Spec L2 DL
open PyProof.Rows hiding St
abbrev dLong (n : Int) (tx : TDX) : TDX := (dFrz (f2 addF (dFrz (f2 mulG (dTup (dCons (dC (.int 0)) dNil)) (dC (.int n)))) (dTup (dCons tx dNil))))
theorem d_longP {n : Nat} {x : Int} {rx : D → Prop} {δ : DL.Env} {P : D → DL.Env → Prop} (hn : n ≤ 2000) {tx : TDX} (hx : ∀ K : D → DL.Env → Prop, K (.int x) δ → tx rx δ K) (h : ∀ l : List Int, l = List.replicate n 0 ++ [x] → P (tI l) δ) : dLong (n : Int) tx rx δ P := d_long hn hx (h _ rfl)
theorem r1 {rx : D → Prop} {DD : DEnds} (h : DD.nx [some (.sh .drw), some (.sh (.lst bads)), none, none, none, none, none]) :
    (dSet 1 (dLst (dCons (dC .non) (dCons (dC (.bl true)) (dCons (dC (.int 0)) (dCons (dC (.str "1")) (dCons (dLst dNil) (dCons (dLst (dCons (dC (.int 1)) dNil)) (dCons (dTup (dCons (dC (.int 0)) dNil)) (dCons (dTup (dCons (dC (.int 1)) (dCons (dC (.int 0)) dNil))) (dCons (dTup (dCons (dC (.bl true)) dNil)) (dCons (dTup (dCons (dC (.int 1)) (dCons (dC .non) dNil))) (dCons (dTup (dCons (dC (.str "1")) dNil)) (dCons (dTup (dCons (dTup (dCons (dC (.int 1)) dNil)) dNil)) (dCons (dFrz (f2 addF (dFrz (f2 mulG (dTup (dCons (dC (.int 0)) dNil)) (dC (.int 2000)))) (dTup (dCons (dC (.int 1)) dNil)))) (dCons (dFrz fDict0) dNil)))))))))))))))) rx DD [some (.sh .drw), none, none, none, none, none, none] := by
  refine ⟨Nat.zero_le _, (by decide : 1 ≤ sizeLine), (by decide : 1 ≤ sizeLine), (by decide : 2 ≤ sizeLine), (by decide : 1 ≤ sizeLine), (by decide : 2 ≤ sizeLine), (by decide : 1 ≤ sizeLine), (by decide : 1 ≤ sizeLine), (by decide : 1 ≤ sizeLine), ?_⟩
  refine d_long (n := 2000) (x := 1) (tx := dC (.int 1)) (by decide) (fun K k => k) ?_
  exact ⟨(by decide : 14 ≤ sizeLine), h⟩
theorem r2 {rx : D → Prop} {DD : DEnds} {w : List D} (e : w = bads) (h : ∀ x, Bad x → DD.nx [some (.sh .drw), some (.sh (.lst w)), some (.sh x), none, none, none, none]) :
    (dSet 2 (dCall (dBody N__law_pick.length t__law_pick) 2 (dCons (dVar 0) (dCons (dVar 1) dNil)))) rx DD [some (.sh .drw), some (.sh (.lst w)), none, none, none, none, none] := by
  refine ⟨rfl, p_pick (l := w) (.inl rfl) (by rw [e]; decide) (by rw [e]; decide) fun x hx => ?_⟩
  exact h x fun k => bads_ok x (e ▸ hx) k
theorem third {rx : D → Prop} {δ : DL.Env} {P : Bool → DL.Env → Prop} (h : P false δ) : (dNot (dTest (dCallK (dBody N_is_tally.length t_is_tally) 1 0 1 [0] dNil (dCons (dFrz (f2 addF (dFrz (f2 mulG (dTup (dCons (dC (.int 0)) dNil)) (dC (.int 1999)))) (dTup (dCons (d1 negD (dC (.int 1))) dNil)))) dNil)))) rx δ P := by
  show dLong (1999 : Nat) (d1 negD (dC (.int 1))) rx δ fun e δ2 => ([] : List D).length = 0 ∧ [e].length = 1 ∧ (DL.pick [0] ([] ++ [e])).length = 1 ∧ dBody N_is_tally.length t_is_tally (DL.pick [0] ([] ++ [e])) (fun d => match d with | .bl b => P (!b) δ2 | _ => False) rx
  refine d_longP (n := 1999) (x := -1) (by decide) (fun K k => k) fun l e => ?_
  have hc : Ct l := by rw [e]; exact ct_long (by decide)
  have hl : l.length ≤ 2000 := by rw [e]; simp
  clear e
  refine ⟨rfl, rfl, rfl, m_is_tally hl ?_⟩
  rw [decide_eq_true hc]
  exact h
theorem if3 {a b c : TDB} {t u : TDS} {rx : D → Prop} {DD : DEnds} {δ : DL.Env} (ha : ∀ P : Bool → DL.Env → Prop, P false δ → a rx δ P) (hb : ∀ P : Bool → DL.Env → Prop, P false δ → b rx δ P) (hc : ∀ P : Bool → DL.Env → Prop, P false δ → c rx δ P) (h : u rx DD δ) : (dIfS (dOr a (dOr b c)) t u) rx DD δ := ha _ (iteF (hb _ (iteF (hc _ (iteF h)))))
theorem r3 {rx : D → Prop} {DD : DEnds} {w x : D} (bx : Bad x) (h : DD.nx [some (.sh .drw), some (.sh w), some (.sh x), none, none, none, none]) :
    (dIfS (dOr (dTest (dCall (dBody N_is_tally.length t_is_tally) 1 (dCons (dVar 2) dNil))) (dOr (dNot (dTest (dCall (dBody N_is_tally.length t_is_tally) 1 (dCons (dTup dNil) dNil)))) (dNot (dTest (dCallK (dBody N_is_tally.length t_is_tally) 1 0 1 [0] dNil (dCons (dFrz (f2 addF (dFrz (f2 mulG (dTup (dCons (dC (.int 0)) dNil)) (dC (.int 1999)))) (dTup (dCons (d1 negD (dC (.int 1))) dNil)))) dNil)))))) (dRet (dC (.bl false))) dNext) rx DD [some (.sh .drw), some (.sh w), some (.sh x), none, none, none, none] := by
  exact if3 (fun P k => ⟨rfl, bx k⟩) (fun P k => ⟨Nat.zero_le _, rfl, m_is_tally (l := []) (by decide) k⟩) (fun P k => third k) h
theorem r4 {rx : D → Prop} {DD : DEnds} {w x : D} (h : ∀ L, L = rows3 → DD.nx (eR w x (.lst (L.map tI)) none none)) :
    (dSet 3 (dLst (dCons (dFrz (f2 addF (dFrz (f2 mulG (dTup (dCons (dC (.int 0)) dNil)) (dC (.int 999)))) (dTup (dCons (dC (.int 1)) dNil)))) (dCons (dFrz (f2 addF (dFrz (f2 mulG (dTup (dCons (dC (.int 0)) dNil)) (dC (.int 1000)))) (dTup (dCons (dC (.int 1)) dNil)))) (dCons (dTup (dCons (dC (.int 0)) (dCons (dC (.int 1)) dNil))) dNil))))) rx DD [some (.sh .drw), some (.sh w), some (.sh x), none, none, none, none] := by
  show dLong (999 : Nat) (dC (.int 1)) rx _ fun d1 δ1 => dLong (1000 : Nat) (dC (.int 1)) rx δ1 fun d2 δ2 => 2 ≤ sizeLine ∧ 3 ≤ sizeLine ∧ DD.nx (δ2.set 3 (some (.sh (.lst [d1, d2, tI [0, 1]]))))
  refine d_longP (n := 999) (x := 1) (by decide) (fun K k => k) fun l e => ?_
  refine d_longP (n := 1000) (x := 1) (by decide) (fun K k => k) fun m e2 => ?_
  exact ⟨by decide, by decide, h [l, m, [0, 1]] (by rw [e, e2])⟩
theorem m_refused {P E : D → Prop} (h : P (.bl true)) : dBody N__law_refused.length t__law_refused [.drw] P E := by
  refine seqQ (r1 ?_)
  generalize eb : bads = bs
  refine seqQ (r2 eb.symm fun x bx => ?_)
  clear eb
  refine seqQ (r3 bx ?_)
  refine seqQ (r4 fun L eL => ?_)
  have hL : ∀ {P E : D → Prop}, E (.exc "BadTally" []) → dBody N_tally_product.length t_tally_product [.lst (L.map tI)] P E := by
    rw [eL]; exact fun h => c_long h
  refine seqQ (m_ten bx hL ?_)
  have tl : ∀ l ∈ L, Tl l := by rw [eL]; exact rows3_tl
  have ll : L.length ≤ 3 := by rw [eL]; decide
  refine seqQ (r5 fun o oo => ?_)
  refine seqQ (r6 fun f of => ?_)
  refine seqQ (r7 tl ll ?_)
  refine seqQ (r8 eL oo ?_)
  refine seqQ (r9 oo ?_)
  refine seqQ (r10 oo ?_)
  exact r11 of h
end K74

namespace K74
open PySem PySem.Spec L2 DL
open PyProof.Rows hiding St
theorem tl_11 : Tl [1, 1] := ⟨by decide, by decide, Nat.lt_of_le_of_lt (show nrm [1, 1] ≤ 2 by decide) (Nat.lt_of_lt_of_le (show 2 < 2 ^ 2 by decide) (Nat.pow_le_pow_right (by decide) (by decide)))⟩
theorem law_end {rx : D → Prop} {DD : DEnds} {δ : DL.Env} (h : DD.rt (.bl true)) : (dRet (dAndV (d2 eqD (dCall (dBody N_tally_sum.length t_tally_sum) 1 (dCons (dLst dNil) dNil)) (dTup dNil)) (dAndV (d2 eqD (dCall (dBody N_tally_product.length t_tally_product) 1 (dCons (dLst dNil) dNil)) (dTup (dCons (dC (.int 1)) dNil))) (d2 eqD (dCall (dBody N_tally_product.length t_tally_product) 1 (dCons (dLst (dCons (dTup (dCons (dC (.int 1)) (dCons (dC (.int 1)) dNil))) (dCons (dTup dNil) dNil))) dNil)) (dTup dNil))))) rx DD δ := by
  have t0 : PyData.eqv (pT []) (pT []) = true := by rw [eqv_TT]; rfl
  have t1 : PyData.eqv (pT [1]) (pT [1]) = true := by rw [eqv_TT]; rfl
  refine ⟨Nat.zero_le _, rfl, m_sum (ls := []) (.inl rfl) nofun ⟨Nat.zero_le _, _, _, pd_tI [], pd_tI [], shaped_tI [], shaped_tI [], ?_⟩⟩
  rw [t0]
  refine ⟨Nat.zero_le _, rfl, m_product (ls := []) rfl nofun (by decide) (fun ⟨_, h, _⟩ => nomatch h) (fun _ c => absurd c (by decide)) fun _ _ => ⟨(by decide : 1 ≤ sizeLine), _, _, pd_tI [1], pd_tI [1], shaped_tI [1], shaped_tI [1], ?_⟩⟩
  rw [t1]
  have e : ∃ l ∈ ([[1, 1], []] : List (List Int)), l.length = 0 := ⟨[], by simp, rfl⟩
  refine ⟨(by decide : 2 ≤ sizeLine), Nat.zero_le _, (by decide : 2 ≤ sizeLine), rfl, m_product (ls := [[1, 1], []]) rfl (fun l hl => ?_) (by decide) (fun _ => ?_) (fun c _ => absurd e c) (fun c _ => absurd e c)⟩
  · simp only [List.mem_cons, List.not_mem_nil, or_false] at hl
    rcases hl with rfl | rfl
    · exact tl_11
    · exact tl_nil
  · refine ⟨Nat.zero_le _, _, _, pd_tI [], pd_tI [], shaped_tI [], shaped_tI [], ?_⟩
    rw [t0]
    exact h
theorem hwp : HWP := fun ms hm => by
  have lm : (ms.map D.int).length ≤ 63 := by rw [List.length_map]; exact hm
  refine ⟨⟨by split <;> omega, by split <;> omega⟩, ?_⟩
  refine q_forL (fun δ => ∃ s, δ = [some (.sh (.kls (ms.map D.int))), some (.sh .drw), s]) (fun δ ⟨s, hδ⟩ => ?_) _ (fun d hd δ ⟨s, hδ⟩ J hJ => ?_) _ ⟨none, rfl⟩
  · subst hδ
    exact law_end rfl
  · subst hδ
    exact ⟨rfl, m_sums ⟨rfl, m_rooms ⟨rfl, m_refused (hJ _ ⟨_, rfl⟩)⟩⟩⟩
end K74

theorem PySem.Challenge.cw_boughwebs_k74_tallies_by_their_numbers_holds : PySem.Challenge.rw_boughwebs_k74_tallies_by_their_numbers.Holds :=
  k74_of K74.hwp
