import PyProof.Rows.All
import Wide.All
import OpenK.AllK
import Wide.FinOn
import HandS.ForMost
import HandS.Exc
import HandS.ExcOwn
import HandS.TryOnly
import HandS.WordsExc
import HandS.Defaults
import HandS.Lambda
import HandS.Zip
import HandS.IsInst
import HandS.DictComp
import HandS.Property
import HandS.HeadHook2
import HandS.HeadEnd
import HandS.Deep
import HandS.TupAny
import HandS.MakeKw
import HandS.Sort
import KE.KExcSuper
import HandS.ExcIs
import HandS.ExcValue
import HandS.ExcField
import HandS.Style
import HandS.Small
import HandS.HeadHook4
import HandS.HeadWalk
import PyProof.ReprLen
import PyProof.Ascii
import PyProof.Rows.ReprOcc
import HandS.Iter
import KE.GoesEnum
import KE.GoesMore
import HandS.TupMul
import HandS.WideBits
import KE.GoesZip
import KE.KTurns
import KE.KComp2Laws
import HandS.Conv
import PyProof.SumAny
import HandS.Head0
import HandS.Head1
import HandS.Head2
import KE.KStateDown
import PySem.Challenge.RW_boughwebs_k01_tables_put_together
set_option Elab.async false
set_option linter.all false
set_option maxRecDepth 100000
set_option maxHeartbeats 0
/-! The data layer: values as data, the heap hidden. -/
namespace DL
open PySem PySem.Spec L2
open PyProof.Rows hiding St

inductive D where
  | non | bl (b : Bool) | int (i : Int) | str (x : Str) | ty (n : String) | glo (x : Str)
  | lst (xs : List D) | kls (xs : List D) | tup (xs : List D) | dct (kvs : List (Key × D))
  | ob (c : Str) (fs : List (Str × D)) | exc (c : Str) (fs : List (Str × D)) | drw | adr (a : Addr)

/-- where the draws' state stands -/
structure DrwA where
  dr : Addr
  lg : Addr
  cl : Addr
  cs : List Int
abbrev DW := Option DrwA

/-- an exception's object, held as a value: its class, its own dict -/
def ExcO (C : Addr) (dd : Option Addr) (a : Addr) : HO := .ext fun h => ∃ (oe : Obj) (vs : Array Value), h.get? a = some oe ∧ Zc (.ref C) dd oe ∧ oe.data = .fields vs

mutual
inductive Den (K : PySem.W.Frag) (W : DW) (F : Hp) : V → D → Prop
  | non : Den K W F .non .non
  | bl (b : Bool) : Den K W F (.bl b) (.bl b)
  | int (i : Int) : Den K W F (.int i) (.int i)
  | str (x : Str) : Den K W F (.str x) (.str x)
  | ty (n : String) : Den K W F (.ty n) (.ty n)
  | glo (x : Str) : Den K W F (.ref (He.ga K x)) (.glo x)
  | lst {a : Addr} {xs : List V} {ds : List D} : F a = some (.lst xs) → Dens K W F xs ds → Den K W F (.ref a) (.lst ds)
  | kls {a : Addr} {xs : List V} {ds : List D} : SqL K F a xs → Dens K W F xs ds → Den K W F (.ref a) (.kls ds)
  | tup {a : Addr} {xs : List V} {ds : List D} : SqT K F a xs → Dens K W F xs ds → Den K W F (.ref a) (.tup ds)
  | dct {a : Addr} {ks : List (Key × V)} {kvs : List (Key × D)} : F a = some (.dK ks) → ks.map (·.1) = kvs.map (·.1) → Dens K W F (ks.map (·.2)) (kvs.map (·.2)) → Den K W F (.ref a) (.dct kvs)
  | ob {a dx : Addr} {c : Str} {gs : List (Str × V)} {fs : List (Str × D)} : F a = some (.ins (He.ga K c) dx gs) → gs.map (·.1) = fs.map (·.1) → Dens K W F (gs.map (·.2)) (fs.map (·.2)) → Den K W F (.ref a) (.ob c fs)
  | exc0 {a : Addr} {c : Str} : F a = some (ExcO (He.ga K c) none a) → Den K W F (.ref a) (.exc c [])
  | exc1 {a dd : Addr} {c : Str} {gs : List (Str × V)} {fs : List (Str × D)} : F a = some (ExcO (He.ga K c) (some dd) a) → F dd = some (.xd gs) → gs.map (·.1) = fs.map (·.1) → Dens K W F (gs.map (·.2)) (fs.map (·.2)) → Den K W F (.ref a) (.exc c fs)
  | drw {w : DrwA} : W = some w → Den K W F (.ref w.dr) .drw
  | adr (a : Addr) : Den K W F (.ref a) (.adr a)
inductive Dens (K : PySem.W.Frag) (W : DW) (F : Hp) : List V → List D → Prop
  | nil : Dens K W F [] []
  | cons {v : V} {vs : List V} {d : D} {ds : List D} : Den K W F v d → Dens K W F vs ds → Dens K W F (v :: vs) (d :: ds)
end

def WLe (W W' : DW) : Prop := W = none ∨ W' = W
theorem WLe.refl (W : DW) : WLe W W := .inr rfl
theorem WLe.trans {a b c : DW} (x : WLe a b) (y : WLe b c) : WLe a c := by
  rcases x with x | x
  · exact .inl x
  · subst x; exact y
def Up (F F' : Hp) : Prop := ∀ a o, F a = some o → F' a = some o
theorem Up.refl (F : Hp) : Up F F := fun _ _ h => h
theorem Up.trans {a b c : Hp} (x : Up a b) (y : Up b c) : Up a c := fun p o h => y p o (x p o h)
theorem Up.ne {F F' : Hp} (h : Up F F') (a : Addr) (e : F a ≠ none) : F' a ≠ none := by
  cases q : F a with
  | none => exact absurd q e
  | some o => rw [h a o q]; simp
theorem Rd.up {F F' : Hp} {a : Addr} {u : HO} (h : Up F F') (r : Rd F a u) : Rd F' a u := by
  rcases r with r | ⟨o, r⟩
  · exact .inl (h _ _ r)
  · exact .inr ⟨o, h _ _ r⟩
theorem SqL.up {K : PySem.W.Frag} {F F' : Hp} {a : Addr} {xs : List V} (h : Up F F') (r : SqL K F a xs) : SqL K F' a xs := by
  rcases r with r | r
  · exact .inl (Rd.up h r)
  · exact .inr r
theorem SqT.up {K : PySem.W.Frag} {F F' : Hp} {a : Addr} {xs : List V} (h : Up F F') (r : SqT K F a xs) : SqT K F' a xs := by
  rcases r with r | r
  · exact .inl (Rd.up h r)
  · exact .inr r
mutual
theorem Den.up {K : PySem.W.Frag} {W W' : DW} {F F' : Hp} (h : Up F F') (hw : WLe W W') : ∀ {v : V} {d : D}, Den K W F v d → Den K W' F' v d
  | _, _, .non => .non
  | _, _, .bl b => .bl b
  | _, _, .int i => .int i
  | _, _, .str x => .str x
  | _, _, .ty n => .ty n
  | _, _, .glo x => .glo x
  | _, _, .lst s r => .lst (h _ _ s) (Dens.up h hw r)
  | _, _, .kls s r => .kls (SqL.up h s) (Dens.up h hw r)
  | _, _, .tup s r => .tup (SqT.up h s) (Dens.up h hw r)
  | _, _, .dct e k r => .dct (h _ _ e) k (Dens.up h hw r)
  | _, _, .ob e k r => .ob (h _ _ e) k (Dens.up h hw r)
  | _, _, .exc0 e => .exc0 (h _ _ e)
  | _, _, .exc1 e e2 k r => .exc1 (h _ _ e) (h _ _ e2) k (Dens.up h hw r)
  | _, _, .adr a => .adr a
  | _, _, .drw e => .drw (by rcases hw with z | z; · rw [z] at e; cases e
                             · rw [z]; exact e)
theorem Dens.up {K : PySem.W.Frag} {W W' : DW} {F F' : Hp} (h : Up F F') (hw : WLe W W') : ∀ {vs : List V} {ds : List D}, Dens K W F vs ds → Dens K W' F' vs ds
  | _, _, .nil => .nil
  | _, _, .cons r t => .cons (Den.up h hw r) (Dens.up h hw t)
end
theorem Dens.length {K : PySem.W.Frag} {W : DW} {F : Hp} : ∀ {vs : List V} {ds : List D}, Dens K W F vs ds → vs.length = ds.length
  | _, _, .nil => rfl
  | _, _, .cons _ t => congrArg Nat.succ (Dens.length t)
theorem Dens.append {K : PySem.W.Frag} {W : DW} {F : Hp} : ∀ {vs ws : List V} {ds es : List D}, Dens K W F vs ds → Dens K W F ws es → Dens K W F (vs ++ ws) (ds ++ es)
  | _, _, _, _, .nil, s => s
  | _, _, _, _, .cons r t, s => .cons r (Dens.append t s)
theorem Dens.get {K : PySem.W.Frag} {W : DW} {F : Hp} : ∀ {vs : List V} {ds : List D} {i : Nat} {d : D}, Dens K W F vs ds → ds[i]? = some d → ∃ v, vs[i]? = some v ∧ Den K W F v d
  | _, _, _, _, .nil, e => by simp at e
  | _, _, 0, _, .cons r _, e => by
    simp at e; subst e; exact ⟨_, rfl, r⟩
  | _, _, i + 1, d, .cons _ t, e => by
    obtain ⟨u, h1, h2⟩ := Dens.get (i := i) (d := d) t (by simpa using e)
    exact ⟨u, by simpa using h1, h2⟩
theorem Dens.getV {K : PySem.W.Frag} {W : DW} {F : Hp} : ∀ {vs : List V} {ds : List D} {i : Nat} {v : V}, Dens K W F vs ds → vs[i]? = some v → ∃ d, ds[i]? = some d ∧ Den K W F v d
  | _, _, _, _, .nil, e => by simp at e
  | _, _, 0, _, .cons r _, e => by
    simp at e; subst e; exact ⟨_, rfl, r⟩
  | _, _, i + 1, d, .cons _ t, e => by
    obtain ⟨u, h1, h2⟩ := Dens.getV (i := i) (v := d) t (by simpa using e)
    exact ⟨u, by simpa using h1, h2⟩
theorem Dens.set {K : PySem.W.Frag} {W : DW} {F : Hp} {v : V} {d : D} (r : Den K W F v d) : ∀ {vs : List V} {ds : List D} (i : Nat), Dens K W F vs ds → Dens K W F (vs.set i v) (ds.set i d)
  | _, _, _, .nil => .nil
  | _, _, 0, .cons _ t => .cons r t
  | _, _, i + 1, .cons q t => .cons q (Dens.set r i t)
theorem Dens.take {K : PySem.W.Frag} {W : DW} {F : Hp} : ∀ {vs : List V} {ds : List D} (n : Nat), Dens K W F vs ds → Dens K W F (vs.take n) (ds.take n)
  | _, _, 0, _ => .nil
  | _, _, _ + 1, .nil => .nil
  | _, _, n + 1, .cons r t => .cons r (Dens.take n t)
theorem Dens.drop {K : PySem.W.Frag} {W : DW} {F : Hp} : ∀ {vs : List V} {ds : List D} (n : Nat), Dens K W F vs ds → Dens K W F (vs.drop n) (ds.drop n)
  | _, _, 0, r => r
  | _, _, _ + 1, .nil => .nil
  | _, _, n + 1, .cons _ t => Dens.drop n t
theorem Dens.reverse {K : PySem.W.Frag} {W : DW} {F : Hp} : ∀ {vs : List V} {ds : List D}, Dens K W F vs ds → Dens K W F vs.reverse ds.reverse
  | _, _, .nil => .nil
  | _, _, .cons r t => by
    rw [List.reverse_cons, List.reverse_cons]
    exact Dens.append (Dens.reverse t) (.cons r .nil)
theorem Dens.replicate {K : PySem.W.Frag} {W : DW} {F : Hp} {v : V} {d : D} (r : Den K W F v d) : ∀ n : Nat, Dens K W F (List.replicate n v) (List.replicate n d)
  | 0 => .nil
  | n + 1 => .cons r (Dens.replicate r n)

/-! ### the draws -/
def DrawAt (H : Hp) (w : DrwA) : Prop := ∃ (ls : List Int) (r t : Int),
  H w.dr = some (.dK [(.inr "large", .ref w.lg), (.inr "rest", .int r), (.inr "cells", .ref w.cl), (.inr "turn", .int t)]) ∧ H w.lg = some (.lst (ls.map V.int)) ∧ H w.cl = some (.lst (w.cs.map V.int)) ∧ w.lg ≠ w.cl ∧
  (∀ x ∈ ls, 0 ≤ x) ∧ (∀ x ∈ w.cs, 0 ≤ x) ∧ 0 ≤ r ∧ 0 ≤ t ∧ ls.length ≤ 63 ∧ w.cs.length ≤ 63
def has (W : DW) (a : Addr) : Prop := ∃ w, W = some w ∧ (a = w.dr ∨ a = w.lg ∨ a = w.cl)
def DrawOk (W : DW) (F H : Hp) : Prop := ∀ w, W = some w → DrawAt H w ∧ F w.dr = none ∧ F w.lg = none ∧ F w.cl = none
theorem DrawOk.has_ne {W : DW} {F H : Hp} (x : DrawOk W F H) {a : Addr} (h : has W a) : H a ≠ none ∧ F a = none := by
  obtain ⟨w, e, h⟩ := h
  obtain ⟨⟨ls, r, t, h1, h2, h3, _⟩, f1, f2, f3⟩ := x w e
  rcases h with h | h | h <;> subst h
  · exact ⟨by rw [h1]; simp, f1⟩
  · exact ⟨by rw [h2]; simp, f2⟩
  · exact ⟨by rw [h3]; simp, f3⟩
/-- the draws' state is kept by whatever changes no draws' object -/
theorem DrawOk.keep {W : DW} {F F' H H' : Hp} (x : DrawOk W F H) (h : ∀ a, has W a → H' a = H a ∧ F' a = F a) : DrawOk W F' H' := fun w e => by
  obtain ⟨⟨ls, r, t, h1, h2, h3, k⟩, f1, f2, f3⟩ := x w e
  have a1 := h w.dr ⟨w, e, .inl rfl⟩
  have a2 := h w.lg ⟨w, e, .inr (.inl rfl)⟩
  have a3 := h w.cl ⟨w, e, .inr (.inr rfl)⟩
  exact ⟨⟨ls, r, t, by rw [a1.1]; exact h1, by rw [a2.1]; exact h2, by rw [a3.1]; exact h3, k⟩, by rw [a1.2]; exact f1, by rw [a2.2]; exact f2, by rw [a3.2]; exact f3⟩

/-! ### the state -/
structure Base where
  F : Hp
  H : Hp
  W : DW
  T : List (Addr × Str)
def plainO : HO → Prop
  | .lst _ => True
  | .dK _ => True
  | .ins _ _ _ => True
  | _ => False
theorem plainO.tbl {o : HO} (h : plainO o) : ∀ ps, o ≠ .tbl ps := fun ps e => by rw [e] at h; exact h
theorem plainO.ext {o : HO} (h : plainO o) : ∀ φ, o ≠ .ext φ := fun φ e => by rw [e] at h; exact h
def notTbl (o : HO) : Prop := ∀ ps, o ≠ .tbl ps
structure Ret (B : Base) (F H : Hp) (W : DW) : Prop where
  sub : Up F H
  up : Up B.F F
  old : ∀ a o, B.H a = some o → ¬ has W a → notTbl o → H a = some o
  there : ∀ a, B.H a ≠ none → H a ≠ none
  froz : ∀ a, B.H a ≠ none → F a = B.F a
  wle : WLe B.W W
  drw : DrawOk W F H
  tab : LamX.Tabs B.T H
  dnew : ∀ a, has W a → ¬ has B.W a → B.H a = none
  fnt : ∀ a o, F a = some o → notTbl o
structure Gs where
  F : Hp
  O : Addr → Option Nat
  W : DW
inductive Sl where
  | sh (d : D) | ol (ds : List D) | od (kvs : List (Key × D)) | oi (m : Option Addr) (c : Str) (fs : List (Str × D))
abbrev Env := List (Option Sl)
/-- the fields' names agree, and the address is the one that is asked (if one is) -/
def KeyM (m : Option Addr) (a : Addr) (gs : List (Str × V)) (fs : List (Str × D)) : Prop := gs.map (·.1) = fs.map (·.1) ∧ ∀ b, m = some b → a = b
def SlOk (K : PySem.W.Frag) (g : Gs) (H : Hp) (i : Nat) (x : Option (Option V)) : Sl → Prop
  | .sh d => ∃ v, x = some (some v) ∧ Den K g.W g.F v d
  | .ol ds => ∃ a xs, x = some (some (.ref a)) ∧ g.O a = some i ∧ H a = some (.lst xs) ∧ Dens K g.W g.F xs ds
  | .od kvs => ∃ a ks, x = some (some (.ref a)) ∧ g.O a = some i ∧ H a = some (.dK ks) ∧ ks.map (·.1) = kvs.map (·.1) ∧ Dens K g.W g.F (ks.map (·.2)) (kvs.map (·.2))
  | .oi m c fs => ∃ a dx gs, x = some (some (.ref a)) ∧ g.O a = some i ∧ H a = some (.ins (He.ga K c) dx gs) ∧ KeyM m a gs fs ∧ Dens K g.W g.F (gs.map (·.2)) (fs.map (·.2))
structure Stt (K : PySem.W.Frag) (B : Base) (g : Gs) (H : Hp) (σ : St) (δ : Env) : Prop where
  ret : Ret B g.F H g.W
  own : ∀ a k, g.O a = some k → B.H a = none ∧ g.F a = none ∧ (∃ o, H a = some o ∧ plainO o) ∧ ¬ has g.W a
  len : δ.length = σ.length
  env : ∀ i s, δ[i]? = some (some s) → SlOk K g H i (σ[i]?) s
structure Step (n : Nat) (g : Gs) (H : Hp) (g' : Gs) (H' : Hp) : Prop where
  up : Up g.F g'.F
  wle : WLe g.W g'.W
  thr : ∀ a, H a ≠ none → H' a ≠ none
  ext : ∀ a k, g.O a = some k → n ≤ k → g'.O a = some k ∧ H' a = H a
theorem Step.refl (n : Nat) (g : Gs) (H : Hp) : Step n g H g H := ⟨Up.refl _, WLe.refl _, fun _ h => h, fun _ _ h _ => ⟨h, rfl⟩⟩
theorem Step.trans {n : Nat} {g1 g2 g3 : Gs} {H1 H2 H3 : Hp} (a : Step n g1 H1 g2 H2) (b : Step n g2 H2 g3 H3) : Step n g1 H1 g3 H3 :=
  ⟨a.up.trans b.up, a.wle.trans b.wle, fun p h => b.thr p (a.thr p h), fun p k h hn => by
    obtain ⟨h1, h2⟩ := a.ext p k h hn
    obtain ⟨h3, h4⟩ := b.ext p k h1 hn
    exact ⟨h3, h4.trans h2⟩⟩
theorem Den.step {K : PySem.W.Frag} {n : Nat} {g g' : Gs} {H H' : Hp} {v : V} {d : D} (s : Step n g H g' H') (h : Den K g.W g.F v d) : Den K g'.W g'.F v d := h.up s.up s.wle
theorem Dens.step {K : PySem.W.Frag} {n : Nat} {g g' : Gs} {H H' : Hp} {v : List V} {d : List D} (s : Step n g H g' H') (h : Dens K g.W g.F v d) : Dens K g'.W g'.F v d := h.up s.up s.wle

/-! ### changes of the state -/
section
variable {K : PySem.W.Frag} {B : Base} {g : Gs} {H : Hp} {σ : St} {δ : Env} {n : Nat}
/-- all tracked objects are kept, F grows by new ones -/
theorem Stt.grow {F' H' : Hp} (S : Stt K B g H σ δ) (hH : Up H H') (hF : Up g.F F') (hsub : Up F' H') (hnew : ∀ a, H a ≠ none → F' a = g.F a) (hnt : ∀ a o, F' a = some o → notTbl o) : Stt K B { g with F := F' } H' σ δ := by
  have keepne : ∀ a, H a ≠ none → H' a ≠ none := fun a h => by
    cases e : H a with
    | none => exact absurd e h
    | some o => rw [hH a o e]; simp
  have eqH : ∀ a, H a ≠ none → H' a = H a := fun a h => by
    cases e : H a with
    | none => exact absurd e h
    | some o => exact hH a o e
  refine ⟨⟨hsub, S.ret.up.trans hF, fun a o e h nt => hH _ _ (S.ret.old a o e h nt), fun a h => keepne a (S.ret.there a h), fun a h => (hnew a (S.ret.there a h)).trans (S.ret.froz a h), S.ret.wle, ?_, S.ret.tab.ext hH, S.ret.dnew, hnt⟩, fun a k e => ?_, S.len, fun i s e => ?_⟩
  · exact S.ret.drw.keep fun a ha => ⟨eqH a (S.ret.drw.has_ne ha).1, hnew a (S.ret.drw.has_ne ha).1⟩
  · obtain ⟨h1, h2, ⟨o, h3, h5⟩, h4⟩ := S.own a k e
    exact ⟨h1, (hnew a (by rw [h3]; simp)).trans h2, ⟨o, hH _ _ h3, h5⟩, h4⟩
  · have q := S.env i s e
    cases s with
    | sh d =>
      obtain ⟨v, e1, r⟩ := q
      exact ⟨v, e1, r.up hF (WLe.refl _)⟩
    | ol ds =>
      obtain ⟨a, xs, e1, e2, e3, r⟩ := q
      exact ⟨a, xs, e1, e2, hH _ _ e3, r.up hF (WLe.refl _)⟩
    | od kvs =>
      obtain ⟨a, ks, e1, e2, e3, e4, r⟩ := q
      exact ⟨a, ks, e1, e2, hH _ _ e3, e4, r.up hF (WLe.refl _)⟩
    | oi m C fs =>
      obtain ⟨a, dx, gs, e1, e2, e3, e4, r⟩ := q
      exact ⟨a, dx, gs, e1, e2, hH _ _ e3, e4, r.up hF (WLe.refl _)⟩
theorem Stt.growStep {F' H' : Hp} (S : Stt K B g H σ δ) (hH : Up H H') (hF : Up g.F F') : Step n g H { g with F := F' } H' :=
  ⟨hF, WLe.refl _, Up.ne hH, fun a k e _ => ⟨e, by
    obtain ⟨o, q, _⟩ := (S.own a k e).2.2.1
    rw [hH a o q, q]⟩⟩
theorem up_upd {H : Hp} {p : Addr} {o : HO} (hp : H p = none) : Up H (upd H p o) := fun a u e => by
  rw [upd_ne (ne_of_none e hp)]; exact e
theorem Stt.Fnone (S : Stt K B g H σ δ) {p : Addr} (hp : H p = none) : g.F p = none := by
  cases q : g.F p with
  | none => rfl
  | some o => rw [S.ret.sub _ _ q] at hp; cases hp
/-- a new object, frozen at once -/
theorem Stt.alloc {p : Addr} {o : HO} (S : Stt K B g H σ δ) (hp : H p = none) (ho : notTbl o := by intro _ z; cases z) : Stt K B { g with F := upd g.F p o } (upd H p o) σ δ ∧ Step n g H { g with F := upd g.F p o } (upd H p o) := by
  have hF := up_upd (o := o) (S.Fnone hp)
  have hH := up_upd (o := o) hp
  refine ⟨S.grow hH hF (fun a u e => ?_) (fun a h => ?_) fun a u e => ?_, S.growStep hH hF⟩
  · by_cases q : a = p
    · subst q; rw [upd_same] at e ⊢; exact e
    · rw [upd_ne q] at e ⊢; exact S.ret.sub _ _ e
  · exact upd_ne fun q => h (by rw [q]; exact hp)
  · by_cases q : a = p
    · subst q; rw [upd_same] at e; cases e; exact ho
    · rw [upd_ne q] at e; exact S.ret.fnt _ _ e
/-- a new object that is not frozen, owned under k -/
theorem Stt.allocOwn {p : Addr} {o : HO} {k : Nat} (S : Stt K B g H σ δ) (hp : H p = none) (po : plainO o) :
    Stt K B { g with O := fun b => if b = p then some k else g.O b } (upd H p o) σ δ ∧ Step n g H { g with O := fun b => if b = p then some k else g.O b } (upd H p o) := by
  have hH := up_upd (o := o) hp
  have S1 := S.grow (F' := g.F) hH (Up.refl _) (S.ret.sub.trans hH) (fun _ _ => rfl) S.ret.fnt
  have hpo : ∀ a k', g.O a = some k' → a ≠ p := fun a k' e q => by
    obtain ⟨o, z, _⟩ := (S.own a k' e).2.2.1
    rw [q, hp] at z; cases z
  refine ⟨⟨S1.ret, fun a k' e => ?_, S1.len, fun i s e => ?_⟩, ⟨Up.refl _, WLe.refl _, Up.ne hH, fun a k' e _ => ?_⟩⟩
  · by_cases q : a = p
    · subst q
      refine ⟨?_, S.Fnone hp, ⟨o, upd_same, po⟩, fun h => (S.ret.drw.has_ne h).1 hp⟩
      cases z : B.H a with
      | none => rfl
      | some u => exact absurd hp (S.ret.there a (by rw [z]; simp))
    · simp only [q, if_false] at e
      exact S1.own a k' e
  · have q := S1.env i s e
    have step : ∀ a, g.O a = some i → (if a = p then some k else g.O a) = some i := fun a e => by rw [if_neg (hpo a i e)]; exact e
    cases s with
    | sh d => exact q
    | ol ds =>
      obtain ⟨a, xs, e1, e2, e3⟩ := q
      exact ⟨a, xs, e1, step a e2, e3⟩
    | od kvs =>
      obtain ⟨a, ks, e1, e2, e3⟩ := q
      exact ⟨a, ks, e1, step a e2, e3⟩
    | oi m C fs =>
      obtain ⟨a, dx, gs, e1, e2, e3⟩ := q
      exact ⟨a, dx, gs, e1, step a e2, e3⟩
  · have ne := hpo a k' e
    exact ⟨by show (if a = p then some k else g.O a) = some k'; rw [if_neg ne]; exact e, upd_ne ne⟩
end
end DL

namespace DL
open PySem PySem.Spec L2
open PyProof.Rows hiding St
section
variable {K : PySem.W.Frag} {B : Base} {g : Gs} {H : Hp} {σ : L2.St} {δ : Env} {n : Nat}
theorem fnt_upd {F : Hp} {a : Addr} {o : HO} (h : ∀ a o, F a = some o → notTbl o) (ho : notTbl o) : ∀ b u, upd F a o b = some u → notTbl u := fun b u e => by
  by_cases q : b = a
  · rw [q, upd_same] at e; cases e; exact ho
  · rw [upd_ne q] at e; exact h _ _ e
/-- two owners are apart -/
theorem own_ne {g : Gs} {a b : Addr} {i j : Nat} (h1 : g.O a = some i) (h2 : g.O b = some j) (h : i ≠ j) : a ≠ b := fun e => by
  rw [e, h2] at h1; exact h (Option.some.inj h1).symm
/-- objects of unlike kinds and tables -/
theorem upd_thr {H : Hp} {a : Addr} {o : HO} (b : Addr) (h : H b ≠ none) : upd H a o b ≠ none := by
  by_cases q : b = a
  · rw [q, upd_same]; simp
  · rw [upd_ne q]; exact h
theorem tabs_mut {T : List (Addr × Str)} {H : Hp} {a : Addr} {o o' : HO} (t : LamX.Tabs T H) (h : H a = some o) (h1 : ∀ ps, o ≠ .tbl ps) (h2 : ∀ φ, o ≠ .ext φ) : LamX.Tabs T (upd H a o') := fun p hp => by
  obtain ⟨ps, e1, e2, e3⟩ := t p hp
  refine ⟨ps, ?_, e2, fun pos cv hc => ?_⟩
  · rw [upd_ne]
    · exact e1
    · intro e; rw [e, h] at e1; exact h1 ps (Option.some.inj e1)
  · obtain ⟨c, c1, c2⟩ := e3 pos cv hc
    refine ⟨c, c1, ?_⟩
    rw [upd_ne]
    · exact c2
    · intro e; rw [e, h] at c2; exact h2 _ (Option.some.inj c2)
/-- what slot i says of another heap: only its own object may differ -/
theorem SlOk.other {g : Gs} {H H' : Hp} {i j : Nat} {x : Option (Option V)} {s : Sl} {a : Addr} (q : SlOk K g H j x s) (ha : g.O a = some i) (hij : j ≠ i) (h : ∀ b, b ≠ a → H' b = H b) : SlOk K g H' j x s := by
  cases s with
  | sh d => exact q
  | ol ds =>
    obtain ⟨b, xs, e1, e2, e3, r⟩ := q
    exact ⟨b, xs, e1, e2, (h b (own_ne e2 ha hij)).trans e3, r⟩
  | od kvs =>
    obtain ⟨b, ks, e1, e2, e3, r⟩ := q
    exact ⟨b, ks, e1, e2, (h b (own_ne e2 ha hij)).trans e3, r⟩
  | oi m C fs =>
    obtain ⟨b, dx, gs, e1, e2, e3, r⟩ := q
    exact ⟨b, dx, gs, e1, e2, (h b (own_ne e2 ha hij)).trans e3, r⟩
theorem getSet {α : Type} {l : List α} {i j : Nat} {x y : α} (h : (l.set i x)[j]? = some y) : (j = i ∧ y = x ∧ i < l.length) ∨ (j ≠ i ∧ l[j]? = some y) := by
  by_cases e : j = i
  · subst e
    by_cases hl : j < l.length
    · rw [List.getElem?_set_self hl] at h
      exact .inl ⟨rfl, (Option.some.inj h).symm, hl⟩
    · rw [List.getElem?_eq_none (by simpa using hl)] at h; cases h
  · rw [List.getElem?_set_ne (Ne.symm e)] at h
    exact .inr ⟨e, h⟩
/-- the object that slot i owns is written -/
theorem Stt.write {a : Addr} {i : Nat} {o o' : HO} {s : Sl} (S : Stt K B g H σ δ) (ha : g.O a = some i) (hi : i < n) (h : H a = some o) (hp : plainO o) (hp' : plainO o')
    (new : SlOk K g (upd H a o') i (σ[i]?) s) : Stt K B g (upd H a o') σ (δ.set i (some s)) ∧ Step n g H g (upd H a o') := by
  obtain ⟨b1, b2, b3, b4⟩ := S.own a i ha
  refine ⟨⟨⟨fun b u e => ?_, S.ret.up, fun b u e hh nt => ?_, fun b hb => ?_, S.ret.froz, S.ret.wle, S.ret.drw.keep fun b hb => ⟨?_, rfl⟩, tabs_mut S.ret.tab h hp.tbl hp.ext, S.ret.dnew, S.ret.fnt⟩, fun b k e => ?_, by simpa using S.len, fun j t e => ?_⟩, ⟨Up.refl _, WLe.refl _, upd_thr, fun b k e hk => ⟨e, ?_⟩⟩⟩
  · rw [upd_ne (fun q => by rw [q, b2] at e; cases e)]; exact S.ret.sub _ _ e
  · rw [upd_ne (fun q => by rw [q, b1] at e; cases e)]; exact S.ret.old b u e hh nt
  · by_cases q : b = a
    · rw [q, upd_same]; simp
    · rw [upd_ne q]; exact S.ret.there b hb
  · exact upd_ne fun q => b4 (by rw [← q]; exact hb)
  · obtain ⟨c1, c2, c3, c4⟩ := S.own b k e
    refine ⟨c1, c2, ?_, c4⟩
    by_cases q : b = a
    · exact ⟨o', by rw [q, upd_same], hp'⟩
    · rw [upd_ne q]; exact c3
  · rcases getSet e with ⟨e1, e2, _⟩ | ⟨e1, e2⟩
    · subst e1
      cases Option.some.inj e2
      exact new
    · exact (S.env j t e2).other ha e1 fun b hb => upd_ne hb
  · exact upd_ne (own_ne e ha (by omega))
/-- slot i's own object is frozen -/
theorem Stt.freeze {a : Addr} {i : Nat} {o : HO} (S : Stt K B g H σ δ) (ha : g.O a = some i) (hi : i < n) (h : H a = some o) :
    ∃ g', Stt K B g' H σ (δ.set i none) ∧ Step n g H g' H ∧ g'.F a = some o ∧ g'.W = g.W := by
  obtain ⟨b1, b2, b3, b4⟩ := S.own a i ha
  refine ⟨⟨upd g.F a o, fun b => if g.O b = some i then none else g.O b, g.W⟩, ⟨⟨fun b u e => ?_, S.ret.up.trans (up_upd b2), S.ret.old, S.ret.there, fun b hb => ?_, S.ret.wle, S.ret.drw.keep fun b hb => ⟨rfl, ?_⟩, S.ret.tab, S.ret.dnew, fnt_upd S.ret.fnt (by obtain ⟨o', z, p⟩ := b3; rw [h] at z; cases z; exact p.tbl)⟩, fun b k e => ?_, by simpa using S.len, fun j t e => ?_⟩, ⟨up_upd b2, WLe.refl _, fun _ h => h, fun b k e hk => ⟨?_, rfl⟩⟩, upd_same, rfl⟩
  · have e : upd g.F a o b = some u := e
    by_cases q : b = a
    · subst q; rw [upd_same] at e; rw [h]; exact e
    · rw [upd_ne q] at e; exact S.ret.sub _ _ e
  · show upd g.F a o b = B.F b
    rw [upd_ne (fun q => hb (by rw [q]; exact b1))]; exact S.ret.froz b hb
  · exact upd_ne fun q => b4 (by rw [← q]; exact hb)
  · by_cases q : g.O b = some i
    · simp [q] at e
    · simp only [q, if_false] at e
      obtain ⟨c1, c2, c3, c4⟩ := S.own b k e
      exact ⟨c1, (upd_ne (fun z => q (by rw [z]; exact ha))).trans c2, c3, c4⟩
  · rcases getSet e with ⟨_, e2, _⟩ | ⟨e1, e2⟩
    · cases e2
    · have q := S.env j t e2
      have ow : ∀ b, g.O b = some j → (if g.O b = some i then none else g.O b) = some j := fun b e => by rw [e, if_neg (fun z => e1 (Option.some.inj z))]
      cases t with
      | sh d =>
        obtain ⟨v, z1, r⟩ := q
        exact ⟨v, z1, r.up (up_upd b2) (WLe.refl _)⟩
      | ol ds =>
        obtain ⟨b, xs, z1, z2, z3, r⟩ := q
        exact ⟨b, xs, z1, ow b z2, z3, r.up (up_upd b2) (WLe.refl _)⟩
      | od kvs =>
        obtain ⟨b, ks, z1, z2, z3, z4, r⟩ := q
        exact ⟨b, ks, z1, ow b z2, z3, z4, r.up (up_upd b2) (WLe.refl _)⟩
      | oi m C fs =>
        obtain ⟨b, dx, gs, z1, z2, z3, z4, r⟩ := q
        exact ⟨b, dx, gs, z1, ow b z2, z3, z4, r.up (up_upd b2) (WLe.refl _)⟩
  · show (if g.O b = some i then none else g.O b) = some k
    rw [e, if_neg (fun z => absurd (Option.some.inj z) (by omega))]
/-- slot i is set (what it owned is let go) -/
theorem Stt.put {i : Nat} {v : V} {d : D} (S : Stt K B g H σ δ) (r : Den K g.W g.F v d) (hi : i < n) :
    ∃ g', Stt K B g' H (σ.set i (some v)) (δ.set i (some (.sh d))) ∧ Step n g H g' H := by
  refine ⟨⟨g.F, fun b => if g.O b = some i then none else g.O b, g.W⟩, ⟨S.ret, fun b k e => ?_, by simpa using S.len, fun j t e => ?_⟩, ⟨Up.refl _, WLe.refl _, fun _ h => h, fun b k e hk => ⟨?_, rfl⟩⟩⟩
  · by_cases q : g.O b = some i
    · simp [q] at e
    · simp only [q, if_false] at e
      exact S.own b k e
  · rcases getSet e with ⟨e1, e2, hl⟩ | ⟨e1, e2⟩
    · subst e1
      cases e2
      exact ⟨v, by rw [List.getElem?_set_self (by rw [← S.len]; exact hl)], r⟩
    · have q := S.env j t e2
      rw [List.getElem?_set_ne (Ne.symm e1)]
      have ow : ∀ b, g.O b = some j → (if g.O b = some i then none else g.O b) = some j := fun b e => by rw [e, if_neg (fun z => e1 (Option.some.inj z))]
      cases t with
      | sh d => exact q
      | ol ds =>
        obtain ⟨b, xs, z1, z2, z3⟩ := q
        exact ⟨b, xs, z1, ow b z2, z3⟩
      | od kvs =>
        obtain ⟨b, ks, z1, z2, z3⟩ := q
        exact ⟨b, ks, z1, ow b z2, z3⟩
      | oi m C fs =>
        obtain ⟨b, dx, gs, z1, z2, z3⟩ := q
        exact ⟨b, dx, gs, z1, ow b z2, z3⟩
  · show (if g.O b = some i then none else g.O b) = some k
    rw [e, if_neg (fun z => absurd (Option.some.inj z) (by omega))]
/-- slot i is set to an object that an extra owner has: slot i has it now -/
theorem Stt.putOwn {i k : Nat} {a : Addr} {s : Sl} (S : Stt K B g H σ δ) (hn : σ.length = n) (hi : i < n) (ha : g.O a = some k) (hk : n ≤ k) (new : ∀ O' : Addr → Option Nat, O' a = some i → SlOk K { g with O := O' } H i (some (some (.ref a))) s) :
    ∃ g', Stt K B g' H (σ.set i (some (.ref a))) (δ.set i (some s)) ∧ Up g.F g'.F ∧ WLe g.W g'.W ∧ ∀ b k', g.O b = some k' → n ≤ k' → b ≠ a → g'.O b = some k' := by
  refine ⟨⟨g.F, fun b => if b = a then some i else if g.O b = some i then none else g.O b, g.W⟩, ⟨S.ret, fun b j e => ?_, by simpa using S.len, fun j t e => ?_⟩, Up.refl _, WLe.refl _, fun b k' e hk' hne => ?_⟩
  · by_cases q : b = a
    · subst q; exact S.own b k ha
    · simp only [q, if_false] at e
      by_cases q2 : g.O b = some i
      · simp [q2] at e
      · simp only [q2, if_false] at e
        exact S.own b j e
  · rcases getSet e with ⟨e1, e2, hl⟩ | ⟨e1, e2⟩
    · subst e1
      cases e2
      rw [List.getElem?_set_self (by rw [← S.len]; exact hl)]
      exact new _ (by simp)
    · have q := S.env j t e2
      have hjl : j < n := by rw [← hn, ← S.len]; exact (List.getElem?_eq_some_iff.mp e2).1
      rw [List.getElem?_set_ne (Ne.symm e1)]
      have ow : ∀ b, g.O b = some j → (if b = a then some i else if g.O b = some i then none else g.O b) = some j := fun b e => by
        have : b ≠ a := fun z => by rw [z, ha] at e; exact absurd (Option.some.inj e) (by omega)
        rw [if_neg this, e, if_neg (fun z => e1 (Option.some.inj z))]
      cases t with
      | sh d => exact q
      | ol ds =>
        obtain ⟨b, xs, z1, z2, z3⟩ := q
        exact ⟨b, xs, z1, ow b z2, z3⟩
      | od kvs =>
        obtain ⟨b, ks, z1, z2, z3⟩ := q
        exact ⟨b, ks, z1, ow b z2, z3⟩
      | oi m C fs =>
        obtain ⟨b, dx, gs, z1, z2, z3⟩ := q
        exact ⟨b, dx, gs, z1, ow b z2, z3⟩
  · show (if b = a then some i else if g.O b = some i then none else g.O b) = some k'
    rw [if_neg hne, e, if_neg (fun z => absurd (Option.some.inj z) (by omega))]
/-- an extra owner's object is written (an accumulator) -/
theorem Stt.writeX {a : Addr} {k : Nat} {o o' : HO} (S : Stt K B g H σ δ) (hn : σ.length = n) (ha : g.O a = some k) (hk : n ≤ k) (h : H a = some o) (hp : plainO o) (hp' : plainO o') :
    Stt K B g (upd H a o') σ δ ∧ ∀ b, b ≠ a → upd H a o' b = H b := by
  obtain ⟨b1, b2, b3, b4⟩ := S.own a k ha
  refine ⟨⟨⟨fun b u e => ?_, S.ret.up, fun b u e hh nt => ?_, fun b hb => ?_, S.ret.froz, S.ret.wle, S.ret.drw.keep fun b hb => ⟨?_, rfl⟩, tabs_mut S.ret.tab h hp.tbl hp.ext, S.ret.dnew, S.ret.fnt⟩, fun b k e => ?_, S.len, fun j t e => ?_⟩, fun b hb => upd_ne hb⟩
  · rw [upd_ne (fun q => by rw [q, b2] at e; cases e)]; exact S.ret.sub _ _ e
  · rw [upd_ne (fun q => by rw [q, b1] at e; cases e)]; exact S.ret.old b u e hh nt
  · by_cases q : b = a
    · rw [q, upd_same]; simp
    · rw [upd_ne q]; exact S.ret.there b hb
  · exact upd_ne fun q => b4 (by rw [← q]; exact hb)
  · obtain ⟨c1, c2, c3, c4⟩ := S.own b k e
    refine ⟨c1, c2, ?_, c4⟩
    by_cases q : b = a
    · exact ⟨o', by rw [q, upd_same], hp'⟩
    · rw [upd_ne q]; exact c3
  · have hjl : j < n := by rw [← hn, ← S.len]; exact (List.getElem?_eq_some_iff.mp e).1
    exact (S.env j t e).other ha (by omega) fun b hb => upd_ne hb
/-- an extra owner's object is frozen -/
theorem Stt.freezeX {a : Addr} {k : Nat} {o : HO} (S : Stt K B g H σ δ) (hn : σ.length = n) (ha : g.O a = some k) (hk : n ≤ k) (h : H a = some o) :
    ∃ g', Stt K B g' H σ δ ∧ Up g.F g'.F ∧ WLe g.W g'.W ∧ g'.F a = some o ∧ g'.W = g.W ∧ ∀ b k', g.O b = some k' → b ≠ a → g'.O b = some k' := by
  obtain ⟨b1, b2, b3, b4⟩ := S.own a k ha
  refine ⟨⟨upd g.F a o, fun b => if b = a then none else g.O b, g.W⟩, ⟨⟨fun b u e => ?_, S.ret.up.trans (up_upd b2), S.ret.old, S.ret.there, fun b hb => ?_, S.ret.wle, S.ret.drw.keep fun b hb => ⟨rfl, ?_⟩, S.ret.tab, S.ret.dnew, fnt_upd S.ret.fnt (by obtain ⟨o', z, p⟩ := b3; rw [h] at z; cases z; exact p.tbl)⟩, fun b j e => ?_, S.len, fun j t e => ?_⟩, up_upd b2, WLe.refl _, upd_same, rfl, fun b k' e hne => ?_⟩
  · have e : upd g.F a o b = some u := e
    by_cases q : b = a
    · subst q; rw [upd_same] at e; rw [h]; exact e
    · rw [upd_ne q] at e; exact S.ret.sub _ _ e
  · show upd g.F a o b = B.F b
    rw [upd_ne (fun q => hb (by rw [q]; exact b1))]; exact S.ret.froz b hb
  · exact upd_ne fun q => b4 (by rw [← q]; exact hb)
  · by_cases q : b = a
    · simp [q] at e
    · simp only [q, if_false] at e
      obtain ⟨c1, c2, c3, c4⟩ := S.own b j e
      exact ⟨c1, (upd_ne q).trans c2, c3, c4⟩
  · have hjl : j < n := by rw [← hn, ← S.len]; exact (List.getElem?_eq_some_iff.mp e).1
    have q := S.env j t e
    have ow : ∀ b, g.O b = some j → (if b = a then none else g.O b) = some j := fun b e => by
      rw [if_neg (fun z => by rw [z, ha] at e; exact absurd (Option.some.inj e) (by omega))]; exact e
    cases t with
    | sh d =>
      obtain ⟨v, z1, r⟩ := q
      exact ⟨v, z1, r.up (up_upd b2) (WLe.refl _)⟩
    | ol ds =>
      obtain ⟨b, xs, z1, z2, z3, r⟩ := q
      exact ⟨b, xs, z1, ow b z2, z3, r.up (up_upd b2) (WLe.refl _)⟩
    | od kvs =>
      obtain ⟨b, ks, z1, z2, z3, z4, r⟩ := q
      exact ⟨b, ks, z1, ow b z2, z3, z4, r.up (up_upd b2) (WLe.refl _)⟩
    | oi m C fs =>
      obtain ⟨b, dx, gs, z1, z2, z3, z4, r⟩ := q
      exact ⟨b, dx, gs, z1, ow b z2, z3, z4, r.up (up_upd b2) (WLe.refl _)⟩
  · show (if b = a then none else g.O b) = some k'
    rw [if_neg hne]; exact e
/-- a slot is forgotten -/
theorem Stt.forget {i : Nat} (S : Stt K B g H σ δ) : Stt K B g H σ (δ.set i none) := ⟨S.ret, S.own, by simpa using S.len, fun j t e => by
  rcases getSet e with ⟨_, e2, _⟩ | ⟨e1, e2⟩
  · cases e2
  · exact S.env j t e2⟩
end

/-! ### readings over data -/
abbrev TD := Env → (D → Env → Prop) → Prop
abbrev TDX := (D → Prop) → TD
abbrev TDB := (D → Prop) → Env → (Bool → Env → Prop) → Prop
abbrev TDA := (D → Prop) → Env → (List D → Env → Prop) → Prop
def liftE (K : PySem.W.Frag) (B : Base) (n : Nat) (t : TD) : TE := fun σ H Q => ∃ g δ P, Stt K B g H σ δ ∧ t δ P ∧
  ∀ d δ' g' H' v, P d δ' → Step n g H g' H' → Stt K B g' H' σ δ' → Den K g'.W g'.F v d → Q v H'
def liftT (K : PySem.W.Frag) (B : Base) (n : Nat) (t : Env → (Bool → Env → Prop) → Prop) : TT := fun σ H Q => ∃ g δ P, Stt K B g H σ δ ∧ t δ P ∧
  ∀ b δ' g' H', P b δ' → Step n g H g' H' → Stt K B g' H' σ δ' → Q b H'
def liftA (K : PySem.W.Frag) (B : Base) (n : Nat) (t : Env → (List D → Env → Prop) → Prop) : TA := fun σ H Q => ∃ g δ P, Stt K B g H σ δ ∧ t δ P ∧
  ∀ ds δ' g' H' vs, P ds δ' → Step n g H g' H' → Stt K B g' H' σ δ' → Dens K g'.W g'.F vs ds → Q vs H'
/-- how an exception lies -/
def ExcDen (K : PySem.W.Frag) (W : DW) (F : Hp) (cls : Value) (d : Option Addr) : D → Prop
  | .exc c fs => cls = .ref (He.ga K c) ∧ ((d = none ∧ fs = []) ∨ ∃ dd gs, d = some dd ∧ F dd = some (.xd gs) ∧ gs.map (·.1) = fs.map (·.1) ∧ Dens K W F (gs.map (·.2)) (fs.map (·.2)))
  | _ => False
def liftX (K : PySem.W.Frag) (B : Base) (rx : D → Prop) : XK := fun cls d H => ∃ F W e, Ret B F H W ∧ ExcDen K W F cls d e ∧ rx e
def XW (E : XK) : WX := fun cls d _ H => E cls d H
structure DEnds where
  nx : Env → Prop
  rt : D → Prop
  bk : Env → Prop := fun _ => False
  ct : Env → Prop := fun _ => False
abbrev TDS := (D → Prop) → DEnds → Env → Prop
def liftS (K : PySem.W.Frag) (B : Base) (n : Nat) (t : DEnds → Env → Prop) : TS := fun DD σ H => ∃ g δ DE, Stt K B g H σ δ ∧ t DE δ ∧
  (∀ σ' δ' g' H', DE.nx δ' → Step n g H g' H' → Stt K B g' H' σ' δ' → DD.nx σ' H') ∧
  (∀ d v F' W' H', DE.rt d → Ret B F' H' W' → Den K W' F' v d → DD.rt v H') ∧
  (∀ σ' δ' g' H', DE.bk δ' → Step n g H g' H' → Stt K B g' H' σ' δ' → DD.bk σ' H') ∧
  (∀ σ' δ' g' H', DE.ct δ' → Step n g H g' H' → Stt K B g' H' σ' δ' → DD.ct σ' H')
/-- the judgements -/
structure DE (X : Cx) (B : Base) (e : Expr) (t : TDX) : Prop where
  run : ∀ rx, Takes X (XW (liftX X.K B rx)) → PE X e (liftE X.K B X.N.length (t rx))
structure DT (X : Cx) (B : Base) (e : Expr) (t : TDB) : Prop where
  run : ∀ rx, Takes X (XW (liftX X.K B rx)) → PT X e (liftT X.K B X.N.length (t rx))
structure DA (X : Cx) (B : Base) (es : List Expr) (t : TDA) : Prop where
  run : ∀ rx, Takes X (XW (liftX X.K B rx)) → PA X es (liftA X.K B X.N.length (t rx))
structure DS (X : Cx) (B : Base) (st : Stmt) (t : TDS) : Prop where
  run : ∀ rx, Takes X (XW (liftX X.K B rx)) → PS X st (liftS X.K B X.N.length (t rx))
structure DSs (X : Cx) (B : Base) (st : List Stmt) (t : TDS) : Prop where
  run : ∀ rx, Takes X (XW (liftX X.K B rx)) → PSs X st (liftS X.K B X.N.length (t rx))
theorem PE.imp {X : Cx} {e : Expr} {t t' : TE} (h : PE X e t) (i : ∀ σ H Q, σ.length = X.N.length → t' σ H Q → t σ H Q) : PE X e t' := ⟨fun pins s σ H Q I q => h.run pins s σ H Q I (i σ H Q I.len q)⟩
theorem PT.imp {X : Cx} {e : Expr} {t t' : TT} (h : PT X e t) (i : ∀ σ H Q, σ.length = X.N.length → t' σ H Q → t σ H Q) : PT X e t' := ⟨fun pins s σ H Q I q => h.run pins s σ H Q I (i σ H Q I.len q)⟩
theorem PA.imp {X : Cx} {e : List Expr} {t t' : TA} (h : PA X e t) (i : ∀ σ H Q, σ.length = X.N.length → t' σ H Q → t σ H Q) : PA X e t' := ⟨fun pos pins s σ H Q I q => h.run pos pins s σ H Q I (i σ H Q I.len q)⟩
theorem PS.imp {X : Cx} {e : Stmt} {t t' : TS} (h : PS X e t) (i : ∀ D σ H, σ.length = X.N.length → t' D σ H → t D σ H) : PS X e t' := ⟨fun pins s σ H D I q => h.run pins s σ H D I (i D σ H I.len q)⟩
theorem PSs.imp {X : Cx} {e : List Stmt} {t t' : TS} (h : PSs X e t) (i : ∀ D σ H, σ.length = X.N.length → t' D σ H → t D σ H) : PSs X e t' := ⟨fun pins s σ H D I q => h.run pins s σ H D I (i D σ H I.len q)⟩
end DL

namespace DL
open PySem PySem.Spec L2
open PyProof.Rows hiding St
section
variable {K : PySem.W.Frag} {B : Base} {g : Gs} {H : Hp} {σ : L2.St} {δ : Env} {n : Nat}
theorem Stt.setSh {i : Nat} {v : V} {d : D} (S : Stt K B g H σ (δ.set i none)) (e : σ[i]? = some (some v)) (r : Den K g.W g.F v d) : Stt K B g H σ (δ.set i (some (.sh d))) := ⟨S.ret, S.own, by simpa using S.len, fun j t q => by
  rcases getSet q with ⟨e1, e2, _⟩ | ⟨e1, e2⟩
  · subst e1
    cases Option.some.inj e2
    exact ⟨v, e, r⟩
  · refine S.env j t ?_
    rw [List.getElem?_set_ne (Ne.symm e1)]; exact e2⟩
/-! ### names, constants -/
def dVar (i : Nat) : TDX := fun _ δ P => match δ[i]? with
  | some (some (.sh d)) => P d δ
  | some (some (.ol ds)) => P (.lst ds) (δ.set i (some (.sh (.lst ds))))
  | some (some (.od kvs)) => P (.dct kvs) (δ.set i (some (.sh (.dct kvs))))
  | some (some (.oi m C fs)) => P (.ob C fs) (δ.set i (some (.sh (.ob C fs))))
  | _ => False
theorem de_var {X : Cx} {x : Str} {pos : Pos} (i : Nat) (h : PE X (.Name x pos) (tVar i)) : DE X B (.Name x pos) (dVar i) := ⟨fun rx _ => PE.imp h fun σ H Q hl ⟨g, δ, P, S, q, k⟩ => by
  have hi : ∀ s, δ[i]? = some (some s) → i < X.N.length := fun s e => by rw [← hl, ← S.len]; exact (List.getElem?_eq_some_iff.mp e).1
  unfold dVar at q
  cases e : δ[i]? with
  | none => rw [e] at q; exact q.elim
  | some o =>
    rw [e] at q
    cases o with
    | none => exact q.elim
    | some s =>
      have z := S.env i s e
      cases s with
      | sh d =>
        obtain ⟨v, e1, r⟩ := z
        exact ⟨v, e1, k _ _ g H v q (Step.refl _ _ _) S r⟩
      | ol ds =>
        obtain ⟨a, xs, e1, e2, e3, r⟩ := z
        obtain ⟨g', S', st, hF, hW⟩ := S.freeze e2 (hi _ e) e3
        have dn : Den X.K g'.W g'.F (.ref a) (.lst ds) := .lst hF (r.step st)
        exact ⟨_, e1, k _ _ g' H _ q st (S'.setSh e1 dn) dn⟩
      | od kvs =>
        obtain ⟨a, ks, e1, e2, e3, e4, r⟩ := z
        obtain ⟨g', S', st, hF, hW⟩ := S.freeze e2 (hi _ e) e3
        have dn : Den X.K g'.W g'.F (.ref a) (.dct kvs) := .dct hF e4 (r.step st)
        exact ⟨_, e1, k _ _ g' H _ q st (S'.setSh e1 dn) dn⟩
      | oi m C fs =>
        obtain ⟨a, dx, gs, e1, e2, e3, e4, r⟩ := z
        obtain ⟨g', S', st, hF, hW⟩ := S.freeze e2 (hi _ e) e3
        have dn : Den X.K g'.W g'.F (.ref a) (.ob C fs) := .ob hF e4.1 (r.step st)
        exact ⟨_, e1, k _ _ g' H _ q st (S'.setSh e1 dn) dn⟩⟩
def dC (d : D) : TDX := fun _ δ P => P d δ
theorem de_c {X : Cx} {e : Expr} {v : V} {d : D} (h : PE X e (tC v)) (r : ∀ W F, Den X.K W F v d) : DE X B e (dC d) := ⟨fun rx _ => PE.imp h fun σ H Q hl ⟨g, δ, P, S, q, k⟩ => k _ _ g H v q (Step.refl _ _ _) S (r _ _)⟩
theorem de_int {X : Cx} {i j pos} : DE X B (.Constant (.int i) j pos) (dC (.int i)) := de_c pe_int fun _ _ => .int i
theorem de_bl {X : Cx} {b j pos} : DE X B (.Constant (.bool b) j pos) (dC (.bl b)) := de_c pe_bl fun _ _ => .bl b
theorem de_non {X : Cx} {j pos} : DE X B (.Constant .none j pos) (dC .non) := de_c pe_non fun _ _ => .non
theorem de_str {X : Cx} {x j pos} : DE X B (.Constant (.str x) j pos) (dC (.str x)) := de_c pe_str fun _ _ => .str x

/-! ### operations by values -/
def Lift2 (K : PySem.W.Frag) (r : R2) (rD : D → D → (D → Prop) → Prop) : Prop := ∀ (B : Base) (n : Nat) (g : Gs) (H : Hp) (σ : L2.St) (δ : Env) (x y : V) (d1 d2 : D) (P : D → Prop) (Q : VK), Stt K B g H σ δ → Den K g.W g.F x d1 → Den K g.W g.F y d2 → rD d1 d2 P →
  (∀ d g' H' v, P d → Step n g H g' H' → Stt K B g' H' σ δ → Den K g'.W g'.F v d → Q v H') → r x y H Q
def Lift1 (K : PySem.W.Frag) (r : V → Hp → VK → Prop) (rD : D → (D → Prop) → Prop) : Prop := ∀ (B : Base) (n : Nat) (g : Gs) (H : Hp) (σ : L2.St) (δ : Env) (x : V) (d1 : D) (P : D → Prop) (Q : VK), Stt K B g H σ δ → Den K g.W g.F x d1 → rD d1 P →
  (∀ d g' H' v, P d → Step n g H g' H' → Stt K B g' H' σ δ → Den K g'.W g'.F v d → Q v H') → r x H Q
def LiftC (K : PySem.W.Frag) (r : List V → Hp → VK → Prop) (rD : List D → (D → Prop) → Prop) : Prop := ∀ (B : Base) (n : Nat) (g : Gs) (H : Hp) (σ : L2.St) (δ : Env) (xs : List V) (ds : List D) (P : D → Prop) (Q : VK), Stt K B g H σ δ → Dens K g.W g.F xs ds → rD ds P →
  (∀ d g' H' v, P d → Step n g H g' H' → Stt K B g' H' σ δ → Den K g'.W g'.F v d → Q v H') → r xs H Q
def d2 (rD : D → D → (D → Prop) → Prop) (ta tb : TDX) : TDX := fun rx δ P => ta rx δ fun x δ1 => tb rx δ1 fun y δ2 => rD x y fun z => P z δ2
def d1 (rD : D → (D → Prop) → Prop) (ta : TDX) : TDX := fun rx δ P => ta rx δ fun x δ1 => rD x fun z => P z δ1
variable {X : Cx} {a b e : Expr} {ta tb te : TDX} {pos : Pos}
theorem lift_op {r : R2} {rD : D → D → (D → Prop) → Prop} (L : Lift2 X.K r rD) {rx : D → Prop} {σ : L2.St} {H : Hp} {Q : VK} (h : liftE X.K B n (d2 rD ta tb rx) σ H Q) : tOp r (liftE X.K B n (ta rx)) (liftE X.K B n (tb rx)) σ H Q := by
  obtain ⟨g, δ, P, S, q, k⟩ := h
  exact ⟨g, δ, _, S, q, fun d1 δ1 g1 H1 v1 h1 st1 S1 D1 => ⟨g1, δ1, _, S1, h1, fun d2 δ2 g2 H2 v2 h2 st2 S2 D2 =>
    L B n g2 H2 σ δ2 v1 v2 d1 d2 _ Q S2 (D1.step st2) D2 h2 fun d g' H' v hp st S' Dn => k d δ2 g' H' v hp ((st1.trans st2).trans st) S' Dn⟩⟩
theorem de_op {op : Operator} {r : R2} {rD : D → D → (D → Prop) → Prop} (ho : OpR X (binaryOp op) r) (L : Lift2 X.K r rD) (ha : DE X B a ta) (hb : DE X B b tb) : DE X B (.BinOp a op b pos) (d2 rD ta tb) :=
  ⟨fun rx tk => PE.imp (pe_op ho (ha.run rx tk) (hb.run rx tk)) fun _ _ _ _ h => lift_op L h⟩
theorem de_un {op : UnaryOp} {r : V → Hp → VK → Prop} {rD : D → (D → Prop) → Prop} (ho : UnR X (unaryOp op) r) (L : Lift1 X.K r rD) (ha : DE X B a ta) : DE X B (.UnaryOp op a pos) (d1 rD ta) :=
  ⟨fun rx tk => PE.imp (pe_un ho (ha.run rx tk)) fun σ H Q _ ⟨g, δ, P, S, q, k⟩ => ⟨g, δ, _, S, q, fun d1 δ1 g1 H1 v1 h1 st1 S1 D1 => L B _ g1 H1 σ δ1 v1 d1 _ Q S1 D1 h1 fun d g' H' v hp st S' Dn => k d δ1 g' H' v hp (st1.trans st) S' Dn⟩⟩
theorem de_cmp {op : CmpOp} {r : R2} {rD : D → D → (D → Prop) → Prop} (ho : OpR X (compareOp op) r) (L : Lift2 X.K r rD) (ha : DE X B a ta) (hb : DE X B b tb) (hm : behindInMarks op b = false) : DE X B (.Compare a [op] [b] pos) (d2 rD ta tb) :=
  ⟨fun rx tk => PE.imp (pe_cmpR ho (ha.run rx tk) (hb.run rx tk) hm) fun _ _ _ _ h => lift_op L h⟩
theorem de_ix {r : R2} {rD : D → D → (D → Prop) → Prop} (hr : IxR X r) (L : Lift2 X.K r rD) (ha : DE X B a ta) (hb : DE X B b tb) (hs : PlainIx b) : DE X B (.Subscript a b pos) (d2 rD ta tb) :=
  ⟨fun rx tk => PE.imp (pe_ix hr (ha.run rx tk) (hb.run rx tk) hs) fun _ _ _ _ h => lift_op L h⟩
/-! ### tests -/
/-- a value that is a bool -/
def dTest (te : TDX) : TDB := fun rx δ P => te rx δ fun d δ' => match d with
  | .bl b => P b δ'
  | _ => False
theorem lift_test {rx : D → Prop} {σ : L2.St} {H : Hp} {Q : Bool → Hp → Prop} (h : liftT K B n (dTest te rx) σ H Q) : liftE K B n (te rx) σ H (fun x H' => ∃ c, x = .bl c ∧ Q c H') := by
  obtain ⟨g, δ, P, S, q, k⟩ := h
  refine ⟨g, δ, _, S, q, fun d δ1 g1 H1 v h1 st1 S1 D1 => ?_⟩
  cases D1 with
  | bl b => exact ⟨b, rfl, k b δ1 g1 H1 h1 st1 S1⟩
  | _ => exact h1.elim
theorem dt_val (h : DE X B e te) (he : ∀ whole, isTrue e X.env whole = (do let v ← whole; standAt e.pos; holding [v] (truthy v)) := by intro _; rfl) : DT X B e (dTest te) :=
  ⟨fun rx tk => PT.imp (pt_val (h.run rx tk) he) fun _ _ _ _ q => lift_test q⟩
theorem dt_cmp {op : CmpOp} {r : R2} {rD : D → D → (D → Prop) → Prop} (ho : OpR X (compareOp op) r) (L : Lift2 X.K r rD) (ha : DE X B a ta) (hb : DE X B b tb) (hm : behindInMarks op b = false) : DT X B (.Compare a [op] [b] pos) (dTest (d2 rD ta tb)) :=
  ⟨fun rx tk => PT.imp (pt_cmpR ho (ha.run rx tk) (hb.run rx tk) hm) fun σ H Q _ h => lift_op (Q := fun x H' => ∃ k, x = .bl k ∧ Q k H') L (lift_test (te := d2 rD ta tb) h)⟩
structure DWh (X : Cx) (B : Base) (e : Expr) (t : TDB) : Prop where
  run : ∀ rx, Takes X (XW (liftX X.K B rx)) → PW X e (liftT X.K B X.N.length (t rx))
theorem PW.imp {X : Cx} {e : Expr} {t t' : TT} (h : PW X e t) (i : ∀ σ H Q, σ.length = X.N.length → t' σ H Q → t σ H Q) : PW X e t' := ⟨fun wh pins s σ H Q I q => h.run wh pins s σ H Q I (i σ H Q I.len q)⟩
theorem DWh.dt {t : TDB} (h : DWh X B e t) : DT X B e t := ⟨fun rx tk => (h.run rx tk).pt⟩
def dAnd (t u : TDB) : TDB := fun rx δ P => t rx δ fun c δ1 => if c = true then u rx δ1 P else P false δ1
def dOr (t u : TDB) : TDB := fun rx δ P => t rx δ fun c δ1 => if c = true then P true δ1 else u rx δ1 P
def dNot (t : TDB) : TDB := fun rx δ P => t rx δ fun c δ1 => P (!c) δ1
variable {tA tB : TDB} {rest : List Expr}
theorem dw_and1 (ha : DT X B a tA) : DWh X B (.BoolOp .And [a] pos) tA := ⟨fun rx tk => pw_and1 (ha.run rx tk)⟩
theorem dw_or1 (ha : DT X B a tA) : DWh X B (.BoolOp .Or [a] pos) tA := ⟨fun rx tk => pw_or1 (ha.run rx tk)⟩
theorem dw_and (ha : DT X B a tA) (hb : DWh X B (.BoolOp .And (b :: rest) pos) tB) : DWh X B (.BoolOp .And (a :: b :: rest) pos) (dAnd tA tB) :=
  ⟨fun rx tk => PW.imp (pw_and (ha.run rx tk) (hb.run rx tk)) fun σ H Q _ ⟨g, δ, P, S, q, k⟩ => ⟨g, δ, _, S, q, fun c δ1 g1 H1 h1 st1 S1 => by
    cases c with
    | true => exact ⟨g1, δ1, P, S1, h1, fun c' δ2 g2 H2 h2 st2 S2 => k c' δ2 g2 H2 h2 (st1.trans st2) S2⟩
    | false => exact k false δ1 g1 H1 h1 st1 S1⟩⟩
theorem dw_or (ha : DT X B a tA) (hb : DWh X B (.BoolOp .Or (b :: rest) pos) tB) : DWh X B (.BoolOp .Or (a :: b :: rest) pos) (dOr tA tB) :=
  ⟨fun rx tk => PW.imp (pw_or (ha.run rx tk) (hb.run rx tk)) fun σ H Q _ ⟨g, δ, P, S, q, k⟩ => ⟨g, δ, _, S, q, fun c δ1 g1 H1 h1 st1 S1 => by
    cases c with
    | true => exact k true δ1 g1 H1 h1 st1 S1
    | false => exact ⟨g1, δ1, P, S1, h1, fun c' δ2 g2 H2 h2 st2 S2 => k c' δ2 g2 H2 h2 (st1.trans st2) S2⟩⟩⟩
theorem dt_not (ha : DT X B a tA) : DT X B (.UnaryOp .Not a pos) (dNot tA) :=
  ⟨fun rx tk => PT.imp (pt_not (ha.run rx tk)) fun σ H Q _ ⟨g, δ, P, S, q, k⟩ => ⟨g, δ, _, S, q, fun c δ1 g1 H1 h1 st1 S1 => k (!c) δ1 g1 H1 h1 st1 S1⟩⟩
/-! .. as values -/
def asB (t : TDX) : TDB := dTest t
def dAndV (ta tb : TDX) : TDX := fun rx δ P => ta rx δ fun d δ1 => match d with
  | .bl true => tb rx δ1 P
  | .bl false => P (.bl false) δ1
  | _ => False
def dOrV (ta tb : TDX) : TDX := fun rx δ P => ta rx δ fun d δ1 => match d with
  | .bl true => P (.bl true) δ1
  | .bl false => tb rx δ1 P
  | _ => False
def dNotV (ta : TDX) : TDX := fun rx δ P => ta rx δ fun d δ1 => match d with
  | .bl c => P (.bl (!c)) δ1
  | _ => False
theorem de_one {op} (h : DE X B a ta) : DE X B (.BoolOp op [a] pos) ta := ⟨fun rx tk => pe_one (h.run rx tk)⟩
theorem de_and (ha : DE X B a ta) (hb : DE X B (.BoolOp .And (b :: rest) pos) tb) : DE X B (.BoolOp .And (a :: b :: rest) pos) (dAndV ta tb) :=
  ⟨fun rx tk => PE.imp (pe_and (ha.run rx tk) (hb.run rx tk)) fun σ H Q _ ⟨g, δ, P, S, q, k⟩ => ⟨g, δ, _, S, q, fun d δ1 g1 H1 v1 h1 st1 S1 D1 => by
    cases D1 with
    | bl c =>
      cases c with
      | true => exact ⟨true, rfl, ⟨g1, δ1, P, S1, h1, fun c' δ2 g2 H2 v2 h2 st2 S2 D2 => k c' δ2 g2 H2 v2 h2 (st1.trans st2) S2 D2⟩⟩
      | false => exact ⟨false, rfl, k _ δ1 g1 H1 _ h1 st1 S1 (.bl false)⟩
    | _ => exact h1.elim⟩⟩
theorem de_or (ha : DE X B a ta) (hb : DE X B (.BoolOp .Or (b :: rest) pos) tb) : DE X B (.BoolOp .Or (a :: b :: rest) pos) (dOrV ta tb) :=
  ⟨fun rx tk => PE.imp (pe_or (ha.run rx tk) (hb.run rx tk)) fun σ H Q _ ⟨g, δ, P, S, q, k⟩ => ⟨g, δ, _, S, q, fun d δ1 g1 H1 v1 h1 st1 S1 D1 => by
    cases D1 with
    | bl c =>
      cases c with
      | false => exact ⟨false, rfl, ⟨g1, δ1, P, S1, h1, fun c' δ2 g2 H2 v2 h2 st2 S2 D2 => k c' δ2 g2 H2 v2 h2 (st1.trans st2) S2 D2⟩⟩
      | true => exact ⟨true, rfl, k _ δ1 g1 H1 _ h1 st1 S1 (.bl true)⟩
    | _ => exact h1.elim⟩⟩
theorem de_not (ha : DE X B a ta) : DE X B (.UnaryOp .Not a pos) (dNotV ta) :=
  ⟨fun rx tk => PE.imp (pe_not (ha.run rx tk)) fun σ H Q _ ⟨g, δ, P, S, q, k⟩ => ⟨g, δ, _, S, q, fun d δ1 g1 H1 v1 h1 st1 S1 D1 => by
    cases D1 with
    | bl c => exact ⟨c, rfl, k _ δ1 g1 H1 _ h1 st1 S1 (.bl _)⟩
    | _ => exact h1.elim⟩⟩
def dIf (c : TDB) (ta tb : TDX) : TDX := fun rx δ P => c rx δ fun b δ1 => if b = true then ta rx δ1 P else tb rx δ1 P
theorem de_ifExp {c : Expr} (hc : DT X B c tA) (ha : DE X B a ta) (hb : DE X B b tb) : DE X B (.IfExp c a b pos) (dIf tA ta tb) :=
  ⟨fun rx tk => PE.imp (pe_ifExp (hc.run rx tk) (ha.run rx tk) (hb.run rx tk)) fun σ H Q _ ⟨g, δ, P, S, q, k⟩ => ⟨g, δ, _, S, q, fun c δ1 g1 H1 h1 st1 S1 => by
    cases c with
    | true => exact ⟨g1, δ1, P, S1, h1, fun c' δ2 g2 H2 v2 h2 st2 S2 D2 => k c' δ2 g2 H2 v2 h2 (st1.trans st2) S2 D2⟩
    | false => exact ⟨g1, δ1, P, S1, h1, fun c' δ2 g2 H2 v2 h2 st2 S2 D2 => k c' δ2 g2 H2 v2 h2 (st1.trans st2) S2 D2⟩⟩⟩
/-! ### argument lists, displays -/
def dNil : TDA := fun _ δ P => P [] δ
def dCons (te : TDX) (t : TDA) : TDA := fun rx δ P => te rx δ fun d δ1 => t rx δ1 fun ds δ2 => P (d :: ds) δ2
variable {es : List Expr} {t : TDA}
theorem da_nil : DA X B [] dNil := ⟨fun rx tk => PA.imp pa_nil fun σ H Q _ ⟨g, δ, P, S, q, k⟩ => k _ _ g H [] q (Step.refl _ _ _) S .nil⟩
theorem lift_cons {rx : D → Prop} {σ : L2.St} {H : Hp} {Q : List V → Hp → Prop} (h : liftA K B n (dCons te t rx) σ H Q) : tCons (liftE K B n (te rx)) (liftA K B n (t rx)) σ H Q := by
  obtain ⟨g, δ, P, S, q, k⟩ := h
  exact ⟨g, δ, _, S, q, fun d δ1 g1 H1 v1 h1 st1 S1 D1 => ⟨g1, δ1, _, S1, h1, fun ds δ2 g2 H2 vs h2 st2 S2 D2 => k _ δ2 g2 H2 _ h2 (st1.trans st2) S2 (.cons (D1.step st2) D2)⟩⟩
theorem da_cons (he : DE X B e te) (hr : DA X B es t) (hs : starEach (e :: es) X.env = (false, eval e X.env) :: starEach es X.env := by rfl) : DA X B (e :: es) (dCons te t) :=
  ⟨fun rx tk => PA.imp (pa_cons (he.run rx tk) (hr.run rx tk) hs) fun _ _ _ _ h => lift_cons h⟩
def dTup (t : TDA) : TDX := fun rx δ P => t rx δ fun ds δ1 => ds.length ≤ sizeLine ∧ P (.tup ds) δ1
def dLst (t : TDA) : TDX := fun rx δ P => t rx δ fun ds δ1 => ds.length ≤ sizeLine ∧ P (.lst ds) δ1
theorem de_tup {x1} (h : DA X B es t) : DE X B (.Tuple es x1 pos) (dTup t) :=
  ⟨fun rx tk => PE.imp (pe_tup (h.run rx tk)) fun σ H Q _ ⟨g, δ, P, S, q, k⟩ => ⟨g, δ, _, S, q, fun ds δ1 g1 H1 vs h1 st1 S1 D1 => ⟨by rw [D1.length]; exact h1.1, fun p hp => by
    obtain ⟨S2, st2⟩ := S1.alloc (n := X.N.length) (o := .tup vs) hp
    exact k _ δ1 _ _ _ h1.2 (st1.trans st2) S2 (.tup (.inl (.inl upd_same)) (D1.step st2))⟩⟩⟩
theorem de_lst (h : DA X B es t) : DE X B (.List es pos) (dLst t) :=
  ⟨fun rx tk => PE.imp (pe_lst (h.run rx tk)) fun σ H Q _ ⟨g, δ, P, S, q, k⟩ => ⟨g, δ, _, S, q, fun ds δ1 g1 H1 vs h1 st1 S1 D1 => ⟨by rw [D1.length]; exact h1.1, fun p hp => by
    obtain ⟨S2, st2⟩ := S1.alloc (n := X.N.length) (o := .lst vs) hp
    exact k _ δ1 _ _ _ h1.2 (st1.trans st2) S2 (.lst upd_same (D1.step st2))⟩⟩⟩
/-! ### built-in calls -/
def dCB (rD : List D → (D → Prop) → Prop) (t : TDA) : TDX := fun rx δ P => t rx δ fun ds δ1 => rD ds fun d => P d δ1
theorem lift_cb {r : List V → Hp → VK → Prop} {rD : List D → (D → Prop) → Prop} (L : LiftC K r rD) {rx : D → Prop} {σ : L2.St} {H : Hp} {Q : VK} (h : liftE K B n (dCB rD t rx) σ H Q) : tCB r (liftA K B n (t rx)) σ H Q := by
  obtain ⟨g, δ, P, S, q, k⟩ := h
  exact ⟨g, δ, _, S, q, fun ds δ1 g1 H1 vs h1 st1 S1 D1 => L B n g1 H1 σ δ1 vs ds _ Q S1 D1 h1 fun d g' H' v hp st S' Dn => k d δ1 g' H' v hp (st1.trans st) S' Dn⟩
variable {x : Str} {p : Pos} {id T : String} {r : List V → Hp → VK → Prop} {rD : List D → (D → Prop) → Prop}
theorem de_callB (hc : CallR X (.builtin id) r) (L : LiftC X.K r rD) (hg : Gl X x) (hm : X.mg x = none) (hv : bootBuiltins x = some (.builtin id)) (ha : DA X B (e :: es) t) (hn : x ≠ "__name__" := by decide) (hdb : (x == ("__debug__" : Str)) = false := by decide)
    (he : starEach (e :: es) X.env = (false, eval e X.env) :: starEach es X.env := by rfl) (hpl : (backTo pos (starEach es X.env)).any (·.1) = false := by rfl) : DE X B (.Call (.Name x p) (e :: es) [] pos) (dCB rD t) :=
  ⟨fun rx tk => PE.imp (pe_callB hc hg hm hv (ha.run rx tk) hn hdb he hpl) fun _ _ _ _ h => lift_cb L h⟩
theorem de_callTy (hc : CallR X (.type T) r) (L : LiftC X.K r rD) (hg : Gl X x) (hm : X.mg x = none) (hv : bootBuiltins x = some (.type T)) (ha : DA X B (e :: es) t) (hn : x ≠ "__name__" := by decide) (hdb : (x == ("__debug__" : Str)) = false := by decide)
    (he : starEach (e :: es) X.env = (false, eval e X.env) :: starEach es X.env := by rfl) (hpl : (backTo pos (starEach es X.env)).any (·.1) = false := by rfl) : DE X B (.Call (.Name x p) (e :: es) [] pos) (dCB rD t) :=
  ⟨fun rx tk => PE.imp (pe_callTy hc hg hm hv (ha.run rx tk) hn hdb he hpl) fun _ _ _ _ h => lift_cb L h⟩
end
/-! ### own defs -/
section
variable {K : PySem.W.Frag} {B : Base} {g : Gs} {H : Hp} {σ : L2.St} {δ : Env} {n : Nat}
abbrev SpD := List D → (D → Prop) → (D → Prop) → Prop
/-- behind a call -/
theorem Ret.trans {F1 H1 F' H' : Hp} {W1 W' : DW} (a : Ret B F1 H1 W1) (b : Ret ⟨F1, H1, W1, B.T⟩ F' H' W') : Ret B F' H' W' where
  sub := b.sub
  up := a.up.trans b.up
  old := fun p o e h nt => b.old p o (a.old p o e (fun z => h (by
    obtain ⟨w, e1, e2⟩ := z
    rcases b.wle with q | q
    · rw [show W1 = none from q] at e1; cases e1
    · exact ⟨w, by rw [q]; exact e1, e2⟩)) nt) h nt
  there := fun p h => b.there p (a.there p h)
  froz := fun p h => (b.froz p (a.there p h)).trans (a.froz p h)
  wle := a.wle.trans b.wle
  drw := b.drw
  tab := b.tab
  dnew := fun p h h2 => by
    by_cases q : has W1 p
    · exact a.dnew p q h2
    · have z := b.dnew p h q
      cases e : B.H p with
      | none => rfl
      | some o => exact absurd z (a.there p (by rw [e]; simp))
  fnt := b.fnt
theorem Stt.after {F' H' : Hp} {W' : DW} (S : Stt K B g H σ δ) (b : Ret ⟨g.F, H, g.W, B.T⟩ F' H' W') : Stt K B ⟨F', g.O, W'⟩ H' σ δ ∧ Step n g H ⟨F', g.O, W'⟩ H' := by
  have nh : ∀ a k, g.O a = some k → ¬ has W' a := fun a k e h => by
    obtain ⟨c1, c2, ⟨o, c3, c5⟩, c4⟩ := S.own a k e
    have z := b.dnew a h c4
    rw [show H a = none from z] at c3; cases c3
  have keep : ∀ a k o, g.O a = some k → H a = some o → plainO o → H' a = some o := fun a k o e h hp => b.old a o h (nh a k e) hp.tbl
  refine ⟨⟨S.ret.trans b, fun a k e => ?_, S.len, fun i s e => ?_⟩, ⟨b.up, b.wle, b.there, fun a k e _ => ⟨e, ?_⟩⟩⟩
  · obtain ⟨c1, c2, ⟨o, c3, c5⟩, c4⟩ := S.own a k e
    exact ⟨c1, (b.froz a (by show H a ≠ none; rw [c3]; simp)).trans c2, ⟨o, keep a k o e c3 c5, c5⟩, nh a k e⟩
  · have q := S.env i s e
    cases s with
    | sh d =>
      obtain ⟨v, e1, r⟩ := q
      exact ⟨v, e1, r.up b.up b.wle⟩
    | ol ds =>
      obtain ⟨a, xs, e1, e2, e3, r⟩ := q
      exact ⟨a, xs, e1, e2, keep a i _ e2 e3 trivial, r.up b.up b.wle⟩
    | od kvs =>
      obtain ⟨a, ks, e1, e2, e3, e4, r⟩ := q
      exact ⟨a, ks, e1, e2, keep a i _ e2 e3 trivial, e4, r.up b.up b.wle⟩
    | oi m C fs =>
      obtain ⟨a, dx, gs, e1, e2, e3, e4, r⟩ := q
      exact ⟨a, dx, gs, e1, e2, keep a i _ e2 e3 trivial, e4, r.up b.up b.wle⟩
  · obtain ⟨c1, c2, ⟨o, c3, c5⟩, c4⟩ := S.own a k e
    rw [c3, keep a k o e c3 c5]
structure Gd (T : List (Addr × Str)) (F H : Hp) (W : DW) : Prop where
  sub : Up F H
  drw : DrawOk W F H
  tab : LamX.Tabs T H
  fnt : ∀ a o, F a = some o → notTbl o
theorem Ret.gd {F H : Hp} {W : DW} (r : Ret B F H W) : Gd B.T F H W := ⟨r.sub, r.drw, r.tab, r.fnt⟩
def liftSp (K : PySem.W.Frag) (T : List (Addr × Str)) (m : Nat) (wp : SpD) : Sp := fun vs H Q E => ∃ F W ds P RX, Gd T F H W ∧ Dens K W F vs ds ∧ ds.length = m ∧ wp ds P RX ∧
  (∀ d v F' W' H', P d → Ret ⟨F, H, W, T⟩ F' H' W' → Den K W' F' v d → Q v H') ∧ ∀ cls dd H', liftX K ⟨F, H, W, T⟩ RX cls dd H' → E cls dd H'
theorem Ret.refl {F H : Hp} {W : DW} {T : List (Addr × Str)} (q : Gd T F H W) : Ret ⟨F, H, W, T⟩ F H W :=
  ⟨q.sub, Up.refl _, fun _ _ e _ _ => e, fun _ e => e, fun _ _ => rfl, WLe.refl _, q.drw, q.tab, fun a h1 h2 => absurd h1 h2, q.fnt⟩
theorem liftX.trans {F1 H1 : Hp} {W1 : DW} {rx : D → Prop} {c : Value} {dd : Option Addr} {H' : Hp} (a : Ret B F1 H1 W1) (h : liftX K ⟨F1, H1, W1, B.T⟩ rx c dd H') : liftX K B rx c dd H' := by
  obtain ⟨F, W, e, r, x, q⟩ := h
  exact ⟨F, W, e, a.trans r, x, q⟩
variable {X : Cx}
theorem passes_lift {rx : D → Prop} (tk : Takes X (XW (liftX X.K B rx))) : Passes (L2.CX X.prog X.w) X (liftX X.K B rx) := passes_call tk fun _ _ _ _ h => h
/-- a call by values: the callee's promise from the caller's state -/
theorem sp_of {wp : SpD} {rx : D → Prop} {vs : List V} {ds : List D} {P : D → Prop} {Q : VK} (S : Stt K B g H σ δ) (r : Dens K g.W g.F vs ds) (h : wp ds P rx)
    (k : ∀ d g' H' v, P d → Step n g H g' H' → Stt K B g' H' σ δ → Den K g'.W g'.F v d → Q v H') : liftSp K B.T ds.length wp vs H Q (liftX K B rx) :=
  ⟨g.F, g.W, ds, P, rx, S.ret.gd, r, rfl, h, fun d v F' W' H' hp rt dn => by
    obtain ⟨S', st⟩ := S.after (n := n) rt
    exact k d _ H' v hp st S' dn, fun cls dd H' hx => liftX.trans S.ret hx⟩
/-! ### room, with no display around -/
structure Rm (k : Nat) (A : Around) : Prop where
  room : Room k A
  gd : A.guards = some []
theorem Rm.mono {j k : Nat} {A : Around} (r : Rm k A) (h : j ≤ k) : Rm j A := ⟨r.room.mono h, r.gd⟩
theorem Rm.deeper {k : Nat} {A : Around} (r : Rm (k + 1) A) (env : PySem.Env) : Rm k (A.deeper env) := ⟨r.room.deeper env, r.gd⟩
theorem Rm.in1 {k : Nat} {A : Around} (r : Rm (k + 1) A) : Rm k A.in1 := ⟨r.room.in1, r.gd⟩
theorem Rm.make {k : Nat} {A : Around} (r : Rm (k + 1) A) (C : Addr) (us : List Value) (kw : List (Str × Value)) : Rm k (A.under (.builtin "type.__call__" ⟨.ref C :: us, kw⟩)) :=
  ⟨r.room.make C us kw, by
    have h : (Code.builtin "type.__call__" ⟨.ref C :: us, kw⟩).guards = [] := by simp [Code.guards, Code.isGuard, guardIds]
    simp [Around.under, h, pushGuards, r.gd]⟩
/-- a def that keeps its promise wherever there is room -/
structure FnG (P : Program) (w : World) (K : PySem.W.Frag) (mg : Str → Option Value) (base : Heap) (k : Nat) (f : Addr) (fd : FuncData) (ps : List Str) (sp : Sp) : Prop where
  len : ∀ vs H Q E, sp vs H Q E → vs.length = ps.length
  go : ∀ (A : Around) (outer : List PySem.Env) (s : Shared) (H : Hp) (args : Args) (us : List Value) (vs : List V) (Q : VK) (E : XK), Rm k A → Env0 P w K mg base A outer s H → BindsTo s fd args (ps.zip us) → Vals vs us → sp vs H Q E →
    codeAny (model P w) A (.call (.ref f) args) (CR (L2.CX P w) outer P w H s Q E) s
theorem FnG.up {P : Program} {w : World} {K : PySem.W.Frag} {mg : Str → Option Value} {base : Heap} {j k : Nat} {f : Addr} {fd : FuncData} {ps : List Str} {sp : Sp} (F : FnG P w K mg base j f fd ps sp) (h : j ≤ k) : FnG P w K mg base k f fd ps sp :=
  ⟨F.len, fun A o s H a us vs Q E hr => F.go A o s H a us vs Q E (hr.mono h)⟩
section
variable {X : Cx} {k : Nat} {f : Addr} {fd : FuncData} {ps : List Str} {sp : Sp} {E : XK} {pins : List (Addr × Obj)} {σ : L2.St} {H : Hp} {s : Shared}
/-- what a callee hands over, told of the caller's state -/
theorem after_call {Q : VK} {r : Result} {s' : Shared} (I : Inv X pins σ H s) (hx : Passes (L2.CX X.prog X.w) X E) (h : CR (L2.CX X.prog X.w) X.stack X.prog X.w H s Q E r s') :
    match r with
    | .ok (.ret u) => EP X pins σ Q u s'
    | .ok _ => False
    | .error e => X.xe e s' := by
  rcases r with e | fl
  · exact hx pins σ H s e s' I h
  · cases fl <;> first | exact h | exact I.after h
theorem run_g {Q : VK} {us : List Value} {kw : List (Str × Value)} {vals : List Value} {vs : List V} (F : FnG X.prog X.w X.K X.mg X.base k f fd ps sp) (hr : Rm k X.A) (hb : BindsTo s fd ⟨us, kw⟩ (ps.zip vals)) (hx : Passes (L2.CX X.prog X.w) X E)
    (I : Inv X pins σ H s) (r : Vals vs vals) (h : sp vs H Q E) : wpAny (model X.prog X.w) X.A (call (.ref f) us kw) (EP X pins σ Q) X.xe s := by
  refine wpAny_call (codeAny_mono (F.go X.A X.stack s H ⟨us, kw⟩ vals vs Q E hr I.env0 hb r h) fun r s' hq => ?_)
  have z := after_call I hx hq
  rcases r with e | fl
  · exact z
  · cases fl <;> exact z
end
/-- an own def, as a thing to call -/
structure FnD (P : Program) (w : World) (K : PySem.W.Frag) (mg : Str → Option Value) (base : Heap) (T : List (Addr × Str)) (x : Str) (k : Nat) (ps : List Str) (wp : SpD) : Prop where
  ex : ∃ (f : Addr) (fd : FuncData), mg x = some (.ref f) ∧ PySem.W.keepIn K (.ref f) = true ∧ (∀ (s : Shared) (us : List Value), us.length = ps.length → BindsTo s fd ⟨us, []⟩ (ps.zip us)) ∧ FnG P w K mg base k f fd ps (liftSp K T ps.length wp)
def dCall (wp : SpD) (m : Nat) (t : TDA) : TDX := fun rx δ P => t rx δ fun ds δ1 => ds.length = m ∧ wp ds (fun d => P d δ1) rx
variable {k : Nat} {ps : List Str} {wp : SpD} {x : Str} {p pos : Pos} {e : Expr} {es : List Expr} {t : TDA}
theorem lift_call {rx : D → Prop} {m : Nat} {σ : L2.St} {H : Hp} {Q : VK} (h : liftE K B n (dCall wp m t rx) σ H Q) : liftA K B n (t rx) σ H (fun vs H1 => vs.length = m ∧ liftSp K B.T m wp vs H1 Q (liftX K B rx)) := by
  obtain ⟨g, δ, P, S, q, k⟩ := h
  refine ⟨g, δ, _, S, q, fun ds δ1 g1 H1 vs h1 st1 S1 D1 => ?_⟩
  obtain ⟨hl, h1⟩ := h1
  subst hl
  exact ⟨D1.length, sp_of (n := n) S1 D1 h1 fun d g' H' v hp st S' Dn => k d δ1 g' H' v hp (st1.trans st) S' Dn⟩
theorem de_call (G : FnD X.prog X.w X.K X.mg X.base B.T x k ps wp) (hr : Rm k X.A) (hg : Gl X x) (ha : DA X B (e :: es) t) (hdb : (x == ("__debug__" : Str)) = false := by decide)
    (he : starEach (e :: es) X.env = (false, eval e X.env) :: starEach es X.env := by rfl) (hpl : (backTo pos (starEach es X.env)).any (·.1) = false := by rfl) : DE X B (.Call (.Name x p) (e :: es) [] pos) (dCall wp ps.length t) := by
  obtain ⟨f, fd, hm, hk, hb, F⟩ := G.ex
  refine ⟨fun rx tk => ⟨fun pins s σ H Q I h => ?_⟩⟩
  have h2 := lift_call h
  refine wpAny_Call_Name_kw (ld_glob I hg hm ?_ hdb)
  refine PySem.W.callWith_K (h₀ := X.base) I.ok.mod.kin hk (thn ((ha.run rx tk).run pos pins s σ H _ I h2) fun us s1 ⟨vs, H1, I1, r, q1, q2⟩ => ⟨I1.kIn, ?_⟩) he hpl
  exact run_g F hr (hb s1 us (by rw [← r.length, q1])) (passes_lift tk) I1 r q2
theorem de_call0 (G : FnD X.prog X.w X.K X.mg X.base B.T x k ps wp) (hr : Rm k X.A) (hg : Gl X x) (hdb : (x == ("__debug__" : Str)) = false := by decide) : DE X B (.Call (.Name x p) [] [] pos) (dCall wp ps.length dNil) := by
  obtain ⟨f, fd, hm, hk, hb, F⟩ := G.ex
  refine ⟨fun rx tk => ⟨fun pins s σ H Q I ⟨g, δ, P, S, ⟨hl, q⟩, k⟩ => ?_⟩⟩
  refine wpAny_Call_Name_kw (ld_glob I hg hm ?_ hdb)
  refine PySem.W.callWith_K0 I.kIn hk (run_g (vals := []) (vs := []) F hr (hb s [] hl) (passes_lift tk) I .nil ?_)
  rw [← hl]
  exact sp_of (n := X.N.length) S .nil q fun d g' H' v hp st S' Dn => k d δ g' H' v hp st S' Dn
end
end DL

namespace DL
open PySem PySem.Spec L2
open PyProof.Rows hiding St
/-! ### statements -/
section
variable {K : PySem.W.Frag} {B : Base} {n : Nat} {X : Cx} {st : Stmt} {rest : List Stmt} {t u : TDS} {e : Expr} {te : TDX} {pos : Pos}
def dNext : TDS := fun _ DE δ => DE.nx δ
def dSeq (t u : TDS) : TDS := fun rx DE δ => t rx { DE with nx := fun δ' => u rx DE δ' } δ
theorem lift_next {rx : D → Prop} {DD : Ends} {σ : L2.St} {H : Hp} (h : liftS K B n (dNext rx) DD σ H) : tNext DD σ H := by
  obtain ⟨g, δ, DE, S, q, k1, k2, k3, k4⟩ := h
  exact k1 _ _ g H q (Step.refl _ _ _) S
theorem dss_nil : DSs X B [] dNext := ⟨fun rx _ => PSs.imp pss_nil fun _ _ _ _ h => lift_next h⟩
theorem lift_seq {rx : D → Prop} {DD : Ends} {σ : L2.St} {H : Hp} (h : liftS K B n (dSeq t u rx) DD σ H) : tSeq (liftS K B n (t rx)) (liftS K B n (u rx)) DD σ H := by
  obtain ⟨g, δ, DE, S, q, k1, k2, k3, k4⟩ := h
  exact ⟨g, δ, _, S, q, fun σ' δ' g' H' hn st S' => ⟨g', δ', DE, S', hn, fun σ2 δ2 g2 H2 a b c => k1 σ2 δ2 g2 H2 a (st.trans b) c, k2, fun σ2 δ2 g2 H2 a b c => k3 σ2 δ2 g2 H2 a (st.trans b) c, fun σ2 δ2 g2 H2 a b c => k4 σ2 δ2 g2 H2 a (st.trans b) c⟩, k2, k3, k4⟩
theorem dss_cons (h1 : DS X B st t) (h2 : DSs X B rest u) : DSs X B (st :: rest) (dSeq t u) :=
  ⟨fun rx tk => PSs.imp (pss_cons (h1.run rx tk) (h2.run rx tk)) fun _ _ _ _ h => lift_seq h⟩
theorem dss_one (h1 : DS X B st t) : DSs X B [st] t := ⟨fun rx tk => pss_one (h1.run rx tk)⟩
def dBreak : TDS := fun _ DE δ => DE.bk δ
def dCont : TDS := fun _ DE δ => DE.ct δ
theorem ds_pass : DS X B (.Pass pos) dNext := ⟨fun rx _ => PS.imp ps_pass fun _ _ _ _ h => lift_next h⟩
theorem ds_doc {x j pos'} : DS X B (.Expr (.Constant (.str x) j pos) pos') dNext := ⟨fun rx _ => PS.imp ps_doc fun _ _ _ _ h => lift_next h⟩
theorem ds_break : DS X B (.Break pos) dBreak := ⟨fun rx _ => PS.imp ps_break fun _ _ _ _ ⟨g, δ, DE, S, q, k1, k2, k3, k4⟩ => k3 _ _ g _ q (Step.refl _ _ _) S⟩
theorem ds_continue : DS X B (.Continue pos) dCont := ⟨fun rx _ => PS.imp ps_continue fun _ _ _ _ ⟨g, δ, DE, S, q, k1, k2, k3, k4⟩ => k4 _ _ g _ q (Step.refl _ _ _) S⟩
def dExpr (te : TDX) : TDS := fun rx DE δ => te rx δ fun _ δ' => DE.nx δ'
theorem ds_expr (he : DE X B e te) (hs : swapsWith e none pos.line X.env = pure false := by rfl) : DS X B (.Expr e pos) (dExpr te) :=
  ⟨fun rx tk => PS.imp (ps_expr (he.run rx tk) hs) fun DD σ H _ ⟨g, δ, DE, S, q, k1, k2, k3, k4⟩ => ⟨g, δ, _, S, q, fun d δ1 g1 H1 v h1 st1 S1 D1 => k1 _ _ g1 H1 h1 st1 S1⟩⟩
def dRet (te : TDX) : TDS := fun rx DE δ => te rx δ fun d _ => DE.rt d
theorem ds_ret (he : DE X B e te) : DS X B (.Return (some e) pos) (dRet te) :=
  ⟨fun rx tk => PS.imp (ps_ret (he.run rx tk)) fun DD σ H _ ⟨g, δ, DE, S, q, k1, k2, k3, k4⟩ => ⟨g, δ, _, S, q, fun d δ1 g1 H1 v h1 st1 S1 D1 => k2 d v _ _ H1 h1 S1.ret D1⟩⟩
def dRetN : TDS := fun rx DE δ => DE.rt .non
theorem ds_retN : DS X B (.Return none pos) dRetN :=
  ⟨fun rx tk => PS.imp ps_retN fun DD σ H _ ⟨g, δ, DE, S, q, k1, k2, k3, k4⟩ => k2 _ _ _ _ H q S.ret .non⟩
def dIfS (c : TDB) (t u : TDS) : TDS := fun rx DE δ => c rx δ fun b δ1 => if b = true then t rx DE δ1 else u rx DE δ1
theorem ds_if {c : Expr} {a b : List Stmt} {tc : TDB} (hc : DT X B c tc) (ha : DSs X B a t) (hb : DSs X B b u) : DS X B (.If c a b pos) (dIfS tc t u) :=
  ⟨fun rx tk => PS.imp (ps_if (hc.run rx tk) (ha.run rx tk) (hb.run rx tk)) fun DD σ H _ ⟨g, δ, DE, S, q, k1, k2, k3, k4⟩ => ⟨g, δ, _, S, q, fun c δ1 g1 H1 h1 st S1 => by
    cases c with
    | true => exact ⟨g1, δ1, DE, S1, h1, fun σ2 δ2 g2 H2 a b c => k1 σ2 δ2 g2 H2 a (st.trans b) c, k2, fun σ2 δ2 g2 H2 a b c => k3 σ2 δ2 g2 H2 a (st.trans b) c, fun σ2 δ2 g2 H2 a b c => k4 σ2 δ2 g2 H2 a (st.trans b) c⟩
    | false => exact ⟨g1, δ1, DE, S1, h1, fun σ2 δ2 g2 H2 a b c => k1 σ2 δ2 g2 H2 a (st.trans b) c, k2, fun σ2 δ2 g2 H2 a b c => k3 σ2 δ2 g2 H2 a (st.trans b) c, fun σ2 δ2 g2 H2 a b c => k4 σ2 δ2 g2 H2 a (st.trans b) c⟩⟩⟩
/-- name = value -/
def dSet (i : Nat) (te : TDX) : TDS := fun rx DE δ => te rx δ fun d δ' => DE.nx (δ'.set i (some (.sh d)))
theorem ds_set {i : Nat} {x : Str} {pos' : Pos} (hN : X.N.Nodup) (hi : X.N[i]? = some x) (hx : Loc X.env.scope x) (he : DE X B e te) (hs : swapsWith e (some (.Name x pos')) pos.line X.env = pure false := by rfl) (hf : X.fn x = true ∨ X.env.scope.names.lookup x = some .local := by first | exact .inl rfl | exact .inr rfl | assumption) :
    DS X B (.Assign [.Name x pos'] e pos) (dSet i te) :=
  ⟨fun rx tk => PS.imp (ps_set hN hi hx (he.run rx tk) hs hf) fun DD σ H _ ⟨g, δ, DE, S, q, k1, k2, k3, k4⟩ => ⟨g, δ, _, S, q, fun d δ1 g1 H1 v h1 st1 S1 D1 => by
    obtain ⟨g2, S2, st2⟩ := S1.put D1 (List.getElem?_eq_some_iff.mp hi).1
    exact k1 _ _ g2 H1 h1 (st1.trans st2) S2⟩⟩
/-! ### targets -/
abbrev TDG := D → Env → (Env → Prop) → Prop
abbrev TDGs := List D → Env → (Env → Prop) → Prop
/-- the slots but those in vs are as they were -/
def SameOut (vs : List Nat) (σ σ' : L2.St) : Prop := σ'.length = σ.length ∧ ∀ j, j ∉ vs → σ'[j]? = σ[j]?
theorem SameOut.refl (vs : List Nat) (σ : L2.St) : SameOut vs σ σ := ⟨rfl, fun _ _ => rfl⟩
theorem SameOut.mono {vs ws : List Nat} {σ σ' : L2.St} (h : SameOut vs σ σ') (s : ∀ j ∈ vs, j ∈ ws) : SameOut ws σ σ' := ⟨h.1, fun j hj => h.2 j fun z => hj (s j z)⟩
theorem SameOut.trans {vs : List Nat} {a b c : L2.St} (h : SameOut vs a b) (h2 : SameOut vs b c) : SameOut vs a c := ⟨h2.1.trans h.1, fun j hj => (h2.2 j hj).trans (h.2 j hj)⟩
theorem SameOut.set {i : Nat} {σ : L2.St} {x : Option V} : SameOut [i] σ (σ.set i x) := ⟨by simp, fun j hj => by
  rw [List.getElem?_set_ne (by intro e; exact hj (by simp [e]))]⟩
def liftG (K : PySem.W.Frag) (B : Base) (n : Nat) (vs : List Nat) (t : TDG) : TG := fun v σ H Q => ∃ g δ d P, Stt K B g H σ δ ∧ Den K g.W g.F v d ∧ t d δ P ∧ ∀ σ' δ' g' H', P δ' → Step n g H g' H' → Stt K B g' H' σ' δ' → SameOut vs σ σ' → Q σ' H'
def liftGs (K : PySem.W.Frag) (B : Base) (n : Nat) (ws : List Nat) (t : TDGs) : TGs := fun vs σ H Q => ∃ g δ ds P, Stt K B g H σ δ ∧ Dens K g.W g.F vs ds ∧ t ds δ P ∧ ∀ σ' δ' g' H', P δ' → Step n g H g' H' → Stt K B g' H' σ' δ' → SameOut ws σ σ' → Q σ' H'
theorem PG.imp {tg : Expr} {t t' : TG} (h : PG X tg t) (i : ∀ v σ H Q, σ.length = X.N.length → t' v σ H Q → t v σ H Q) : PG X tg t' := ⟨fun pins s σ H v u Q I r q => h.run pins s σ H v u Q I r (i v σ H Q I.len q)⟩
theorem PGs.imp {tg : List Expr} {t t' : TGs} (h : PGs X tg t) (i : ∀ v σ H Q, σ.length = X.N.length → t' v σ H Q → t v σ H Q) : PGs X tg t' := ⟨fun pins s σ H v u Q I r q => h.run pins s σ H v u Q I r (i v σ H Q I.len q)⟩
structure DG (X : Cx) (B : Base) (tg : Expr) (vs : List Nat) (t : TDG) : Prop where
  run : PG X tg (liftG X.K B X.N.length vs t)
structure DGs (X : Cx) (B : Base) (tgs : List Expr) (vs : List Nat) (t : TDGs) : Prop where
  run : PGs X tgs (liftGs X.K B X.N.length vs t)
def gN (i : Nat) : TDG := fun d δ P => P (δ.set i (some (.sh d)))
theorem dg_name {i : Nat} {x : Str} (hN : X.N.Nodup) (hi : X.N[i]? = some x) (hx : Loc X.env.scope x) (hf : X.fn x = true ∨ X.env.scope.names.lookup x = some .local := by first | exact .inl rfl | exact .inr rfl | assumption) : DG X B (.Name x pos) [i] (gN i) :=
  ⟨PG.imp (pg_name hN hi hx hf) fun v σ H Q _ ⟨g, δ, d, P, S, r, q, k⟩ => by
    obtain ⟨g2, S2, st2⟩ := S.put r (List.getElem?_eq_some_iff.mp hi).1
    exact k _ _ g2 H q st2 S2 SameOut.set⟩
def gsNil : TDGs := fun ds δ P => match ds with
  | [] => P δ
  | _ => False
def gsCons (t : TDG) (u : TDGs) : TDGs := fun ds δ P => match ds with
  | d :: r => t d δ fun δ' => u r δ' P
  | [] => False
theorem dgs_nil : DGs X B [] [] gsNil := ⟨PGs.imp pgs_nil fun vs σ H Q _ ⟨g, δ, ds, P, S, r, q, k⟩ => by
  cases r with
  | nil => exact ⟨rfl, k _ _ g H q (Step.refl _ _ _) S (SameOut.refl _ _)⟩
  | cons _ _ => exact q.elim⟩
theorem dgs_cons {es : List Expr} {tg : TDG} {tgs : TDGs} {v1 v2 : List Nat} (h1 : DG X B e v1 tg) (h2 : DGs X B es v2 tgs) (hs : (assignEach (e :: es) X.env).map (·.2) = assign e X.env :: (assignEach es X.env).map (·.2) := by rfl) : DGs X B (e :: es) (v1 ++ v2) (gsCons tg tgs) :=
  ⟨PGs.imp (pgs_cons h1.run h2.run hs) fun vs σ H Q _ ⟨g, δ, ds, P, S, r, q, k⟩ => by
    cases r with
    | nil => exact q.elim
    | @cons v vr d dr r1 r2 => exact ⟨v, vr, rfl, g, δ, d, _, S, r1, q, fun σ' δ' g' H' hp st S' so => ⟨g', δ', dr, P, S', r2.step st, hp, fun σ2 δ2 g2 H2 a b c so2 => k σ2 δ2 g2 H2 a (st.trans b) c ((so.mono (by simp +contextual)).trans (so2.mono (by simp +contextual)))⟩⟩⟩
def gT (m : Nat) (t : TDGs) : TDG := fun d δ P => match d with
  | .tup ds => ds.length = m ∧ t ds δ P
  | _ => False
theorem dg_tup {es : List Expr} {k : Nat} {tgs : TDGs} {m : Nat} {vs : List Nat} (hc : X.calm = true) (h : DGs X B es vs tgs) (hn : (assignEach es X.env).length = m := by rfl) (hst : (assignEach es X.env).findIdx? (·.1) = none := by rfl) : DG X B (.Tuple es k pos) vs (gT m tgs) :=
  ⟨PG.imp (pg_tup hc h.run hn hst) fun v σ H Q _ ⟨g, δ, d, P, S, r, q, k⟩ => by
    cases r with
    | @tup a xs ds hs rs => exact ⟨a, xs, rfl, SqT.up S.ret.sub hs, rs.length.trans q.1, g, δ, ds, P, S, rs, q.2, k⟩
    | _ => exact q.elim⟩
/-- target = value -/
def dAsg (te : TDX) (tg : TDG) : TDS := fun rx DE δ => te rx δ fun d δ' => tg d δ' DE.nx
theorem ds_asg {tg : Expr} {g : TDG} {vs : List Nat} (he : DE X B e te) (hg : DG X B tg vs g) (hs : swapsWithSole [tg] e pos.line X.env = pure false := by rfl) (hw : swappedStores [tg] e X.env = pure none := by rfl)
    (h1 : (assignEach [tg] X.env).map (·.2) = [assign tg X.env] := by rfl) : DS X B (.Assign [tg] e pos) (dAsg te g) :=
  ⟨fun rx tk => PS.imp (ps_asg (he.run rx tk) hg.run hs hw h1) fun DD σ H _ ⟨g, δ, DE, S, q, k1, k2, k3, k4⟩ => ⟨g, δ, _, S, q, fun d δ1 g1 H1 v h1 st1 S1 D1 => ⟨g1, δ1, d, _, S1, D1, h1, fun σ2 δ2 g2 H2 a b c _ => k1 σ2 δ2 g2 H2 a (st1.trans b) c⟩⟩⟩
/-! ### what is walked -/
/-- the iterator J walks the items ds -/
def IterD (K : PySem.W.Frag) (B : Base) (n : Nat) (J : It) (ds : List D) (g1 : Gs) (H1 : Hp) : Prop := ∀ (i : Nat) (g : Gs) (H : Hp) (σ : L2.St) (δ : Env), Step n g1 H1 g H → Stt K B g H σ δ →
  (∀ d, ds[i]? = some d → J.go i H ∧ ∀ x H', J.yld i H x H' → ∃ g', Step n g H g' H' ∧ Stt K B g' H' σ δ ∧ Den K g'.W g'.F x d) ∧ (ds.length ≤ i → J.stop i H)
abbrev TDI := (D → Prop) → Env → (List D → Env → Prop) → Prop
def liftI (K : PySem.W.Frag) (B : Base) (n : Nat) (t : Env → (List D → Env → Prop) → Prop) : TI := fun σ H R => ∃ g δ P, Stt K B g H σ δ ∧ t δ P ∧
  ∀ ds δ' g' H' J, P ds δ' → Step n g H g' H' → Stt K B g' H' σ δ' → IterD K B n J ds g' H' → R J H'
structure DI (X : Cx) (B : Base) (tg it : Expr) (t : TDI) : Prop where
  run : ∀ rx, Takes X (XW (liftX X.K B rx)) → PI X tg it (liftI X.K B X.N.length (t rx))
theorem PI.imp {tg it : Expr} {t t' : TI} (h : PI X tg it t) (i : ∀ σ H R, σ.length = X.N.length → t' σ H R → t σ H R) : PI X tg it t' := ⟨fun pins s σ H R I q => h.run pins s σ H R I (i σ H R I.len q)⟩
theorem iter_lst {a : Addr} {xs : List V} {ds : List D} {g1 : Gs} {H1 : Hp} (h : SqL K g1.F a xs) (r : Dens K g1.W g1.F xs ds) : IterD K B n (Itl K a) ds g1 H1 := fun i g H σ δ st S =>
  ⟨fun d e => by
    obtain ⟨v, e1, r1⟩ := r.get e
    have q : SqL K H a xs := SqL.up S.ret.sub (SqL.up st.up h)
    exact ⟨⟨xs, v, q, e1⟩, fun x H' ⟨e2, e3⟩ => by
      subst e2
      have e4 : x = v := Option.some.inj ((e3 xs q).symm.trans e1)
      subst e4
      exact ⟨g, Step.refl _ _ _, S, r1.step st⟩⟩, fun hl => ⟨xs, SqL.up S.ret.sub (SqL.up st.up h), by rw [r.length]; exact hl⟩⟩
theorem iter_tup {a : Addr} {xs : List V} {ds : List D} {g1 : Gs} {H1 : Hp} (h : SqT K g1.F a xs) (r : Dens K g1.W g1.F xs ds) : IterD K B n (Itt K a) ds g1 H1 := fun i g H σ δ st S =>
  ⟨fun d e => by
    obtain ⟨v, e1, r1⟩ := r.get e
    have q : SqT K H a xs := SqT.up S.ret.sub (SqT.up st.up h)
    exact ⟨⟨xs, v, q, e1⟩, fun x H' ⟨e2, e3⟩ => by
      subst e2
      have e4 : x = v := Option.some.inj ((e3 xs q).symm.trans e1)
      subst e4
      exact ⟨g, Step.refl _ _ _, S, r1.step st⟩⟩, fun hl => ⟨xs, SqT.up S.ret.sub (SqT.up st.up h), by rw [r.length]; exact hl⟩⟩
/-- a list or a tuple, whichever comes -/
def iSeq (K : PySem.W.Frag) (tl : TE) : TI := fun σ H R => tl σ H fun x H1 => ∃ a, x = .ref a ∧ (((∃ xs, SqL K H1 a xs) ∧ R (Itl K a) H1) ∨ ((∃ xs, SqT K H1 a xs) ∧ R (Itt K a) H1))
theorem pi_seq {tg l : Expr} {tl : TE} (hl : PE X l tl) : PI X tg l (iSeq X.K tl) := by
  refine ⟨fun pins s σ H R I h => ?_⟩
  refine thn (hl.run pins s σ H _ I h) fun v s1 ⟨x, H1, I1, r1, q1⟩ => ?_
  obtain ⟨a, e, q⟩ := q1
  subst e
  cases r1
  have fin : ∀ (o : Obj) (tn : Nat → Heap → Prop) (J : It), Turn X.prog X.w X.K tg J [s1.heap.objs.size] s1.heap.objs.size tn → tn 0 (s1.heap.push o) → R J H1 → PIE X pins σ tg R (.ref s1.heap.objs.size) { s1 with heap := s1.heap.push o } := fun o tn J T t0 q => by
    refine ⟨s1.heap.objs.size, [s1.heap.objs.size], tn, J, H1, rfl, I1.kept (t' := s1.toks) fun b o e => Heap.get?_push_of_some _ e, T, t0, fun b hb => ?_, q⟩
    have e : b = s1.heap.objs.size := by simpa using hb
    subst e
    exact I1.fpOk (Nat.le_refl _) (I1.hok.fresh (Nat.le_refl _))
  rcases q with ⟨⟨xs, hq⟩, q⟩ | ⟨⟨xs, hq⟩, q⟩
  · obtain ⟨its, rv, p, hz⟩ := I1.list hq
    exact wpAny_pyIter_list p.isList (fin _ _ _ (turn_list a _) ⟨_, Heap.get?_push_size _ rfl, rfl, rfl⟩ q)
  · obtain ⟨its, rv, p, hz⟩ := I1.tuple hq
    exact wpAny_pyIter_tuple (show s1.heap.IsTuple a its.toArray from p) (fin _ _ _ (turn_tuple a _) ⟨_, Heap.get?_push_size _ rfl, rfl, rfl⟩ q)
def seqOf : D → Option (List D)
  | .lst ds => some ds
  | .kls ds => some ds
  | .tup ds => some ds
  | _ => none
def dSeqI (te : TDX) : TDI := fun rx δ P => te rx δ fun d δ1 => match seqOf d with
  | some ds => P ds δ1
  | none => False
theorem seq_of {g1 : Gs} {H1 : Hp} {v : V} {d : D} {ds : List D} {R : It → Hp → Prop} {σ : L2.St} {δ1 : Env} (S : Stt K B g1 H1 σ δ1) (r : Den K g1.W g1.F v d) (e : seqOf d = some ds) (k : ∀ J, IterD K B n J ds g1 H1 → R J H1) :
    ∃ a, v = .ref a ∧ (((∃ xs, SqL K H1 a xs) ∧ R (Itl K a) H1) ∨ ((∃ xs, SqT K H1 a xs) ∧ R (Itt K a) H1)) := by
  cases r with
  | @lst a xs es h r => cases e; exact ⟨a, rfl, .inl ⟨⟨xs, SqL.of (S.ret.sub _ _ h)⟩, k _ (iter_lst (.inl (.inl h)) r)⟩⟩
  | @kls a xs es h r => cases e; exact ⟨a, rfl, .inl ⟨⟨xs, SqL.up S.ret.sub h⟩, k _ (iter_lst h r)⟩⟩
  | @tup a xs es h r => cases e; exact ⟨a, rfl, .inr ⟨⟨xs, SqT.up S.ret.sub h⟩, k _ (iter_tup h r)⟩⟩
  | _ => cases e
theorem di_seq {tg : Expr} (he : DE X B e te) : DI X B tg e (dSeqI te) :=
  ⟨fun rx tk => PI.imp (pi_seq (he.run rx tk)) fun σ H R _ ⟨g, δ, P, S, q, k⟩ => ⟨g, δ, _, S, q, fun d δ1 g1 H1 v h1 st1 S1 D1 => by
    cases z : seqOf d with
    | none => simp only [z] at h1
    | some ds =>
      simp only [z] at h1
      exact seq_of (n := X.N.length) S1 D1 z fun J hJ => k ds δ1 g1 H1 J h1 st1 S1 hJ⟩⟩
theorem iter_range {lo : Int} {m : Nat} {g1 : Gs} {H1 : Hp} : IterD K B n (Itr lo m) ((List.range m).map fun (i : Nat) => D.int (lo + i)) g1 H1 := fun i g H σ δ st S =>
by
  refine ⟨fun d e => ?_, fun hl => ?_⟩
  · rw [List.getElem?_map] at e
    by_cases h : i < m
    · rw [List.getElem?_range h] at e
      cases e
      exact ⟨h, fun x H' ⟨e2, e3⟩ => by
        subst e2 e3
        exact ⟨g, Step.refl _ _ _, S, .int _⟩⟩
    · rw [List.getElem?_eq_none (by simpa using h)] at e; cases e
  · have : m ≤ i := by simpa using hl
    exact this
def rangeD (lo hi : Int) : List D := (List.range (hi - lo).toNat).map fun (i : Nat) => D.int (lo + i)
def bnd (i : Int) : Prop := -(2 ^ 62) ≤ i ∧ i < 2 ^ 62
def dRange1 (t : TDA) : TDI := fun rx δ P => t rx δ fun ds δ1 => match ds with
  | [.int j] => bnd j ∧ P (rangeD 0 j) δ1
  | _ => False
def dRange2 (t : TDA) : TDI := fun rx δ P => t rx δ fun ds δ1 => match ds with
  | [.int i, .int j] => (bnd i ∧ bnd j) ∧ P (rangeD i j) δ1
  | _ => False
theorem di_range1 {tg a : Expr} {ta : TDA} {p : Pos} (hg : Gl X "range") (hm : X.mg "range" = none) (ha : DA X B [a] ta) (hs : starEach [a] X.env = [(false, eval a X.env)] := by rfl) : DI X B tg (.Call (.Name "range" p) [a] [] pos) (dRange1 ta) :=
  ⟨fun rx tk => PI.imp (pi_range1 hg hm (ha.run rx tk) hs) fun σ H R _ ⟨g, δ, P, S, q, k⟩ => ⟨g, δ, _, S, q, fun ds δ1 g1 H1 vs h1 st1 S1 D1 => by
    cases D1 with
    | nil => exact h1.elim
    | cons r1 r2 =>
      cases r1 with
      | int j =>
        cases r2 with
        | nil =>
          obtain ⟨⟨b1, b2⟩, h1⟩ := h1
          refine ⟨j, rfl, b1, b2, ?_⟩
          have z := iter_range (K := X.K) (B := B) (n := X.N.length) (lo := 0) (m := j.toNat) (g1 := g1) (H1 := H1)
          refine k _ δ1 g1 H1 _ h1 st1 S1 ?_
          unfold rangeD
          rw [Int.sub_zero]
          exact z
        | cons _ _ => exact h1.elim
      | _ => cases r2 <;> exact h1.elim⟩⟩
theorem di_range2 {tg a b : Expr} {ta : TDA} {p : Pos} (hg : Gl X "range") (hm : X.mg "range" = none) (ha : DA X B [a, b] ta) (hs : starEach [a, b] X.env = [(false, eval a X.env), (false, eval b X.env)] := by rfl) (hs2 : starEach [b] X.env = [(false, eval b X.env)] := by rfl) : DI X B tg (.Call (.Name "range" p) [a, b] [] pos) (dRange2 ta) :=
  ⟨fun rx tk => PI.imp (pi_range2 hg hm (ha.run rx tk) hs hs2) fun σ H R _ ⟨g, δ, P, S, q, k⟩ => ⟨g, δ, _, S, q, fun ds δ1 g1 H1 vs h1 st1 S1 D1 => by
    cases D1 with
    | nil => exact h1.elim
    | cons r1 r2 =>
      cases r1 with
      | int i =>
        cases r2 with
        | nil => exact h1.elim
        | cons r2 r3 =>
          cases r2 with
          | int j =>
            cases r3 with
            | nil =>
              obtain ⟨⟨⟨b1, b2⟩, b3, b4⟩, h1⟩ := h1
              exact ⟨i, j, rfl, ⟨b1, b2, b3, b4⟩, k _ δ1 g1 H1 _ h1 st1 S1 iter_range⟩
            | cons _ _ => exact h1.elim
          | _ => cases r3 <;> exact h1.elim
      | _ =>
        cases r2 with
        | nil => exact h1.elim
        | cons r2 r3 => cases r3 <;> exact h1.elim⟩⟩
/-! ### for -/
def dForL (tg : TDG) (tb : TDS) (rx : D → Prop) (DE : DEnds) : List D → Env → Prop
  | [], δ => DE.nx δ
  | d :: ds, δ => tg d δ fun δ1 => tb rx { nx := dForL tg tb rx DE ds, ct := dForL tg tb rx DE ds, bk := DE.nx, rt := DE.rt } δ1
def dFor (ti : TDI) (tg : TDG) (tb : TDS) : TDS := fun rx DE δ => ti rx δ fun ds δ1 => dForL tg tb rx DE ds δ1
theorem ds_for {tg it : Expr} {body : List Stmt} {ti : TDI} {g : TDG} {vs : List Nat} {tb : TDS} (hp : PassesOwn (model X.prog X.w) X.A X.env X.xe) (hc : X.calm = true) (hi : DI X B tg it ti) (hg : DG X B tg vs g) (hb : DSs X B body tb)
    (hs : ∀ x, foldedSetIterable it X.env x = pure x := by intro _; rfl) : DS X B (.For tg it body [] pos) (dFor ti g tb) :=
  ⟨fun rx tk => PS.imp (ps_for hp hc (hi.run rx tk) hg.run (hb.run rx tk) hs) fun DD σ H _ ⟨g0, δ, DE, S, q, k1, k2, k3, k4⟩ => ⟨g0, δ, _, S, q, fun ds δ1 g1 H1 J h1 st1 S1 hJ => by
    refine ⟨fun i m σ H => m = ds.length - i ∧ i ≤ ds.length ∧ ∃ g' δ', Step X.N.length g1 H1 g' H ∧ Stt X.K B g' H σ δ' ∧ dForL g tb rx DE (ds.drop i) δ', ⟨_, rfl, Nat.zero_le _, g1, δ1, Step.refl _ _ _, S1, by simpa using h1⟩, ?_⟩
    rintro i m σ2 H2 ⟨rfl, hi, g2, δ2, st2, S2, q2⟩
    obtain ⟨ja, jb⟩ := hJ i g2 H2 σ2 δ2 st2 S2
    by_cases hlt : i < ds.length
    · have e : ds.drop i = ds[i] :: ds.drop (i + 1) := List.drop_eq_getElem_cons hlt
      rw [e] at q2
      obtain ⟨jgo, jy⟩ := ja ds[i] (List.getElem?_eq_getElem hlt)
      refine .inr ⟨jgo, fun σ' H' => ∃ g' δ', Step X.N.length g1 H1 g' H' ∧ Stt X.K B g' H' σ' δ' ∧ dForL g tb rx DE (ds.drop (i + 1)) δ', fun σ' H' ⟨g', δ', a, b, c⟩ => ⟨ds.length - (i + 1), by omega, rfl, hlt, g', δ', a, b, c⟩, fun x H' y => ?_⟩
      obtain ⟨g3, st3, S3, r3⟩ := jy x H' y
      refine ⟨g3, δ2, ds[i], _, S3, r3, q2, fun σ4 δ4 g4 H4 h4 st4 S4 _ => ?_⟩
      have s4 : Step X.N.length g1 H1 g4 H4 := (st2.trans st3).trans st4
      exact ⟨g4, δ4, _, S4, h4, fun σ5 δ5 g5 H5 a b c => ⟨g5, δ5, s4.trans b, c, a⟩, k2, fun σ5 δ5 g5 H5 a b c => k1 σ5 δ5 g5 H5 a (st1.trans (s4.trans b)) c, fun σ5 δ5 g5 H5 a b c => ⟨g5, δ5, s4.trans b, c, a⟩⟩
    · have e : i = ds.length := by omega
      subst e
      rw [List.drop_length] at q2
      exact .inl ⟨jb (Nat.le_refl _), k1 σ2 δ2 g2 H2 q2 (st1.trans st2) S2⟩⟩⟩
/-! ### while -/
def dWhileN (c : TDB) (tb : TDS) (rx : D → Prop) (DE : DEnds) : Nat → Env → Prop
  | 0, _ => False
  | m + 1, δ => c rx δ fun b δ1 => if b = true then tb rx { nx := dWhileN c tb rx DE m, ct := dWhileN c tb rx DE m, bk := DE.nx, rt := DE.rt } δ1 else DE.nx δ1
def dWhile (c : TDB) (tb : TDS) : TDS := fun rx DE δ => ∃ m, dWhileN c tb rx DE m δ
theorem ds_while {c : Expr} {body : List Stmt} {tc : TDB} {tb : TDS} (hp : PassesOwn (model X.prog X.w) X.A X.env X.xe) (hc : DT X B c tc) (hb : DSs X B body tb) : DS X B (.While c body [] pos) (dWhile tc tb) :=
  ⟨fun rx tk => PS.imp (ps_while hp (hc.run rx tk) (hb.run rx tk)) fun DD σ H0 _ ⟨g0, δ, DE, S, ⟨m0, q⟩, k1, k2, k3, k4⟩ => by
    refine ⟨fun m σ H => ∃ g' δ', Step X.N.length g0 H0 g' H ∧ Stt X.K B g' H σ δ' ∧ dWhileN tc tb rx DE m δ', ⟨m0, g0, δ, Step.refl _ _ _, S, q⟩, ?_⟩
    rintro m σ2 H2 ⟨g2, δ2, st2, S2, q2⟩
    cases m with
    | zero => exact q2.elim
    | succ m =>
      refine ⟨g2, δ2, _, S2, q2, fun b δ3 g3 H3 h3 st3 S3 => ?_⟩
      cases b with
      | false => exact k1 σ2 δ3 g3 H3 h3 (st2.trans st3) S3
      | true =>
        have s3 := st2.trans st3
        exact ⟨fun σ' H' => ∃ g' δ', Step X.N.length g0 H0 g' H' ∧ Stt X.K B g' H' σ' δ' ∧ dWhileN tc tb rx DE m δ', fun σ' H' h => ⟨m, Nat.lt_succ_self m, h⟩,
          g3, δ3, _, S3, h3, fun σ5 δ5 g5 H5 a b c => ⟨g5, δ5, s3.trans b, c, a⟩, k2, fun σ5 δ5 g5 H5 a b c => k1 σ5 δ5 g5 H5 a (s3.trans b) c, fun σ5 δ5 g5 H5 a b c => ⟨g5, δ5, s3.trans b, c, a⟩⟩⟩
end
/-! ### a def's body -/
def envOfArgs (m : Nat) (ds : List D) : Env := ds.map (fun d => some (.sh d)) ++ List.replicate (m - ds.length) none
def dBody (m : Nat) (t : TDS) : SpD := fun ds Q E => t E { nx := fun _ => Q .non, rt := Q } (envOfArgs m ds)
theorem stt_start {K : PySem.W.Frag} {F H : Hp} {W : DW} {T : List (Addr × Str)} {N : List Str} {vs : List V} {ds : List D} (q : Gd T F H W) (r : Dens K W F vs ds) :
    Stt K ⟨F, H, W, T⟩ ⟨F, fun _ => none, W⟩ H (start N vs) (envOfArgs N.length ds) := by
  refine ⟨Ret.refl q, fun a k e => (nomatch e), ?_, fun i s e => ?_⟩
  · unfold envOfArgs L2.start
    simp [r.length]
  · unfold envOfArgs at e
    by_cases hi : i < ds.length
    · rw [List.getElem?_append_left (by simpa using hi), List.getElem?_map] at e
      cases q : ds[i]? with
      | none => rw [q] at e; cases e
      | some d =>
        rw [q] at e
        cases e
        obtain ⟨v, e1, r1⟩ := r.get q
        refine ⟨v, ?_, r1⟩
        unfold L2.start
        rw [List.getElem?_append_left (by simpa [r.length] using hi), List.getElem?_map, e1]
        rfl
    · rw [List.getElem?_append_right (by simpa using hi)] at e
      have := List.getElem?_eq_some_iff.mp e
      obtain ⟨h1, h2⟩ := this
      simp at h2
section
variable {P : Program} {w : World} {K : PySem.W.Frag} {mg : Str → Option Value} {base : Heap} {T : List (Addr × Str)}
/-- the code object of a def -/
def codeAt (K : PySem.W.Frag) (a : Addr) : Addr := match K.lookup a with
  | some ⟨_, _, .func fd, _⟩ => (match fd.code with
    | .ref c => c
    | _ => 0)
  | _ => 0
theorem codeAt_of {oc : Value} {od : Option Addr} {fd : FuncData} {osl : Array (Option Value)} {f : Addr} {q : Str} (lk : K.lookup f = some ⟨oc, od, .func fd, osl⟩) (h : PySem.W.codeIn K fd.code q = true) : fd.code = .ref (codeAt K f) := by
  unfold codeAt
  rw [lk]
  cases e : fd.code with
  | ref c => simp only [e]
  | _ => rw [e] at h; simp [PySem.W.codeIn] at h
/-- THE RULE for a def: its body is walked once, over data -/
theorem fn_ok {x qual : Str} {params : Arguments} {body : List Stmt} {scope : Scope} {f : Addr} {fd : FuncData} {N ps : List Str} {k : Nat} {t : TDS} (F : FunD K x qual params body scope [] [] f fd) (S : FnScope N ps scope)
    (hbody : ∀ (cdv : Value) (A : Around) (outer : List PySem.Env) (s : Shared) (H : Hp) (E : XK) (B : Base), cdv = .ref (codeAt K f) → B.T = T → Rm k (A.deeper (envOfC qual scope s.heap.objs.size f cdv)) →
      DSs (cxOf (L2.CX P w) P w K mg base N qual scope f cdv A outer s H E) B body t) : FnG P w K mg base (k + 1) f fd ps (liftSp K T ps.length (dBody N.length t)) := by
  obtain ⟨oc, od, dV, kV, doc, pm, an, cdv, ct, osl, rfl, lk, hcd, _, _⟩ := F.ex
  refine ⟨fun vs H Q E ⟨F, W, ds, P, RX, _, r, hl, _⟩ => r.length.trans hl, fun A outer s H args us vs Q E hr e0 hb r h => ?_⟩
  obtain ⟨F, W, ds, P', RX, h1, rd, hl, hw, k1, k2⟩ := h
  have atBase : ∀ b o, base.get? b = some o → s.heap.get? b = some o := fun b o e => (e0.bs b o e).1
  have inK : K.In s.heap := e0.mod.kin.keeps atBase
  refine codeAny_call_function hr.room.depth (inK _ _ lk) rfl S.co S.gen rfl (PySem.W.codeRec_of inK hcd) (hb _ _ _ _ (wpAny_newFunctionEnv_cells S.kind (fun y hy => ?_) fun env he s1 x => ?_))
  · rcases S.par y.1 (List.of_mem_zip (show (y.1, y.2) ∈ ps.zip us from hy)).1 with q | q
    · exact .inl q
    · exact .inr ⟨q, PySem.W.cellsFrom_some _ _ _ (.inl q)⟩
  · subst he
    refine ⟨(e0.mod.nolimit.keeps atBase).keeps x.toInCall.keep, codeAny_func ?_⟩
    have I := inv_start (CX := L2.CX P w) (E := E) (N := N) S hr.room.hd e0 (rd.length.trans hl) r x
    have tk := takes_of (X := cxOf (L2.CX P w) P w K mg base N qual scope f cdv A outer s H E) (E := E) rfl rfl rfl rfl
    have body := (hbody cdv A outer s H E ⟨F, H, W, T⟩ (codeAt_of lk hcd) rfl (hr.deeper _)).run RX (tk.imp fun c d σ H' hx => k2 c d H' hx)
    have start : liftS K ⟨F, H, W, T⟩ N.length (t RX) { nx := fun _ H' => Q .non H', rt := Q } (L2.start N vs) H :=
      ⟨_, _, { nx := fun _ => P' .non, rt := P' }, stt_start h1 rd, hw, fun σ' δ' g' H' hn st S' => k1 _ _ _ _ _ hn S'.ret .non, fun d v F' W' H' hq rt dn => k1 d v F' W' H' hq rt dn, fun _ _ _ _ h => h.elim, fun _ _ _ _ h => h.elim⟩
    refine wpAny_mono (body.run [] s1 _ H _ I start) (fun fl s' hs => ?_) fun e s' hs => hs
    cases fl with
    | ret u =>
      obtain ⟨v, σ', H', J, rv, q⟩ := hs
      exact ⟨v, H', J.os, J.bare, J.base, J.hok, rv, q⟩
    | next =>
      obtain ⟨σ', H', J, q⟩ := hs
      exact ⟨V.non, H', J.os, J.bare, J.base, J.hok, rfl, q⟩
    | brk => exact False.elim (hs.elim fun _ z => z.elim fun _ y => y.2)
    | cont => exact False.elim (hs.elim fun _ z => z.elim fun _ y => y.2)
theorem fnD_of {x qual : Str} {params : Arguments} {body : List Stmt} {scope : Scope} {f : Addr} {fd : FuncData} {ps : List Str} {k : Nat} {wp : SpD} (F : FunD K x qual params body scope [] [] f fd) (hm : mg x = some (.ref f)) (hb : ∀ (s : Shared) (us : List Value), us.length = ps.length → BindsTo s fd ⟨us, []⟩ (ps.zip us))
    (ok : FnG P w K mg base k f fd ps (liftSp K T ps.length wp)) : FnD P w K mg base T x k ps wp := ⟨f, fd, hm, F.kp, hb, ok⟩
end
end DL

namespace DL
open PySem PySem.Spec L2
open PyProof.Rows hiding St
/-! ### new objects that may still be changed -/
def ItOk (K : PySem.W.Frag) (n : Nat) (gp g : Gs) (H : Hp) (v : V) : Sl → Prop
  | .sh d => Den K g.W g.F v d
  | .ol ds => ∃ a xs, v = .ref a ∧ gp.O a = none ∧ g.O a = some (n + a) ∧ H a = some (.lst xs) ∧ Dens K g.W g.F xs ds
  | .od kvs => ∃ a ks, v = .ref a ∧ gp.O a = none ∧ g.O a = some (n + a) ∧ H a = some (.dK ks) ∧ ks.map (·.1) = kvs.map (·.1) ∧ Dens K g.W g.F (ks.map (·.2)) (kvs.map (·.2))
  | .oi m c fs => ∃ a dx gs, v = .ref a ∧ gp.O a = none ∧ g.O a = some (n + a) ∧ H a = some (.ins (He.ga K c) dx gs) ∧ KeyM m a gs fs ∧ Dens K g.W g.F (gs.map (·.2)) (fs.map (·.2))
abbrev TDF := (D → Prop) → Env → (Sl → Env → Prop) → Prop
def liftF (K : PySem.W.Frag) (B : Base) (n : Nat) (t : Env → (Sl → Env → Prop) → Prop) : TE := fun σ H Q => ∃ g δ P, Stt K B g H σ δ ∧ t δ P ∧
  ∀ s δ' g' H' v, P s δ' → Step n g H g' H' → Stt K B g' H' σ δ' → ItOk K n g g' H' v s → Q v H'
structure DF (X : Cx) (B : Base) (e : Expr) (t : TDF) : Prop where
  run : ∀ rx, Takes X (XW (liftX X.K B rx)) → PE X e (liftF X.K B X.N.length (t rx))
def slD : Sl → D
  | .sh d => d
  | .ol ds => .lst ds
  | .od kvs => .dct kvs
  | .oi m C fs => .ob C fs
section
variable {K : PySem.W.Frag} {B : Base} {g gp : Gs} {H : Hp} {σ : L2.St} {δ : Env} {n : Nat} {X : Cx} {e : Expr} {pos : Pos}
/-- an item is frozen -/
theorem Stt.frz {v : V} {s : Sl} (S : Stt K B g H σ δ) (hn : σ.length = n) (h : ItOk K n gp g H v s) : ∃ g', Stt K B g' H σ δ ∧ (Up g.F g'.F ∧ WLe g.W g'.W ∧ ∀ b k', g.O b = some k' → gp.O b = some k' → g'.O b = some k') ∧ Den K g'.W g'.F v (slD s) := by
  cases s with
  | sh d => exact ⟨g, S, ⟨Up.refl _, WLe.refl _, fun b k' e _ => e⟩, h⟩
  | ol ds =>
    obtain ⟨a, xs, rfl, e0, e1, e2, r⟩ := h
    obtain ⟨g', S', u, wl, hF, hW, ho⟩ := S.freezeX hn e1 (Nat.le_add_right _ _) e2
    exact ⟨g', S', ⟨u, wl, fun b k' z1 z2 => ho b k' z1 fun q => by rw [q, e0] at z2; cases z2⟩, .lst hF (r.up u wl)⟩
  | od kvs =>
    obtain ⟨a, xs, rfl, e0, e1, e2, e3, r⟩ := h
    obtain ⟨g', S', u, wl, hF, hW, ho⟩ := S.freezeX hn e1 (Nat.le_add_right _ _) e2
    exact ⟨g', S', ⟨u, wl, fun b k' z1 z2 => ho b k' z1 fun q => by rw [q, e0] at z2; cases z2⟩, .dct hF e3 (r.up u wl)⟩
  | oi m C fs =>
    obtain ⟨a, dx, xs, rfl, e0, e1, e2, e3, r⟩ := h
    obtain ⟨g', S', u, wl, hF, hW, ho⟩ := S.freezeX hn e1 (Nat.le_add_right _ _) e2
    exact ⟨g', S', ⟨u, wl, fun b k' z1 z2 => ho b k' z1 fun q => by rw [q, e0] at z2; cases z2⟩, .ob hF e3.1 (r.up u wl)⟩
theorem ItOk.step {g1 g2 : Gs} {H1 H2 : Hp} {v : V} {s : Sl} (h : ItOk K n gp g1 H1 v s) (st : Step n g1 H1 g2 H2) : ItOk K n gp g2 H2 v s := by
  cases s with
  | sh d => exact Den.step st h
  | ol ds =>
    obtain ⟨a, xs, e, e0, e1, e2, r⟩ := h
    obtain ⟨z1, z2⟩ := st.ext a _ e1 (Nat.le_add_right _ _)
    exact ⟨a, xs, e, e0, z1, z2.trans e2, r.step st⟩
  | od kvs =>
    obtain ⟨a, xs, e, e0, e1, e2, e3, r⟩ := h
    obtain ⟨z1, z2⟩ := st.ext a _ e1 (Nat.le_add_right _ _)
    exact ⟨a, xs, e, e0, z1, z2.trans e2, e3, r.step st⟩
  | oi m C fs =>
    obtain ⟨a, dx, xs, e, e0, e1, e2, e3, r⟩ := h
    obtain ⟨z1, z2⟩ := st.ext a _ e1 (Nat.le_add_right _ _)
    exact ⟨a, dx, xs, e, e0, z1, z2.trans e2, e3, r.step st⟩
def dFrz (t : TDF) : TDX := fun rx δ P => t rx δ fun s δ' => P (slD s) δ'
def dSh (t : TDX) : TDF := fun rx δ P => t rx δ fun d δ' => P (.sh d) δ'
theorem lift_frz {t : Env → (Sl → Env → Prop) → Prop} (hl : σ.length = n) {Q : VK} (h : liftE K B n (fun δ P => t δ fun s δ' => P (slD s) δ') σ H Q) : liftF K B n t σ H Q := by
  obtain ⟨g, δ, P, S, q, k⟩ := h
  refine ⟨g, δ, _, S, q, fun s δ1 g1 H1 v h1 st1 S1 it => ?_⟩
  obtain ⟨g2, S2, ⟨u, wl, ho⟩, dn⟩ := S1.frz hl it
  exact k _ δ1 g2 H1 v h1 ⟨st1.up.trans u, st1.wle.trans wl, st1.thr, fun a k e hk => by
    obtain ⟨z1, z2⟩ := st1.ext a k e hk
    exact ⟨ho a k z1 e, z2⟩⟩ S2 dn
theorem de_frz {t : TDF} (h : DF X B e t) : DE X B e (dFrz t) := ⟨fun rx tk => PE.imp (h.run rx tk) fun _ _ _ hl q => lift_frz hl q⟩
theorem df_sh {t : TDX} (h : DE X B e t) : DF X B e (dSh t) := ⟨fun rx tk => PE.imp (h.run rx tk) fun _ _ _ hl ⟨g, δ, P, S, q, k⟩ => ⟨g, δ, _, S, q, fun d δ1 g1 H1 v h1 st1 S1 D1 => k _ δ1 g1 H1 v h1 st1 S1 D1⟩⟩
def Apart (v : V) (b : Addr) : Sl → Prop
  | .sh _ => True
  | _ => v ≠ .ref b
/-- slot i takes an item -/
theorem Stt.take {i : Nat} {v : V} {s : Sl} (S : Stt K B g H σ δ) (hn : σ.length = n) (hi : i < n) (h : ItOk K n gp g H v s) : ∃ g', Stt K B g' H (σ.set i (some v)) (δ.set i (some s)) ∧ (Up g.F g'.F ∧ WLe g.W g'.W ∧ ∀ b k', g.O b = some k' → n ≤ k' → (gp.O b = some k' ∨ Apart v b s) → g'.O b = some k') := by
  cases s with
  | sh d =>
    obtain ⟨g', S', st⟩ := S.put (n := n) h hi
    exact ⟨g', S', st.up, st.wle, fun b k' z1 z2 _ => (st.ext b k' z1 z2).1⟩
  | ol ds =>
    obtain ⟨a, xs, rfl, e0, e1, e2, r⟩ := h
    obtain ⟨g', S', u, wl, ho⟩ := S.putOwn (s := .ol ds) hn hi e1 (Nat.le_add_right _ _) fun O' z => ⟨a, xs, rfl, z, e2, r⟩
    exact ⟨g', S', u, wl, fun b k' z1 z2 z3 => ho b k' z1 z2 fun q => by
      rcases z3 with z3 | z3
      · rw [q, e0] at z3; cases z3
      · exact z3 (by rw [q])⟩
  | od kvs =>
    obtain ⟨a, xs, rfl, e0, e1, e2, e3, r⟩ := h
    obtain ⟨g', S', u, wl, ho⟩ := S.putOwn (s := .od kvs) hn hi e1 (Nat.le_add_right _ _) fun O' z => ⟨a, xs, rfl, z, e2, e3, r⟩
    exact ⟨g', S', u, wl, fun b k' z1 z2 z3 => ho b k' z1 z2 fun q => by
      rcases z3 with z3 | z3
      · rw [q, e0] at z3; cases z3
      · exact z3 (by rw [q])⟩
  | oi m C fs =>
    obtain ⟨a, dx, xs, rfl, e0, e1, e2, e3, r⟩ := h
    obtain ⟨g', S', u, wl, ho⟩ := S.putOwn (s := .oi m C fs) hn hi e1 (Nat.le_add_right _ _) fun O' z => ⟨a, dx, xs, rfl, z, e2, e3, r⟩
    exact ⟨g', S', u, wl, fun b k' z1 z2 z3 => ho b k' z1 z2 fun q => by
      rcases z3 with z3 | z3
      · rw [q, e0] at z3; cases z3
      · exact z3 (by rw [q])⟩
def dSetX (i : Nat) (t : TDF) : TDS := fun rx DE δ => t rx δ fun s δ' => DE.nx (δ'.set i (some s))
theorem lift_setX {i : Nat} {t : TDF} {rx : D → Prop} {DD : Ends} (hl : σ.length = n) (hi : i < n) (h : liftS K B n (dSetX i t rx) DD σ H) : tAsg (liftF K B n (t rx)) (gName i) DD σ H := by
  obtain ⟨g, δ, DE, S, q, k1, k2, k3, k4⟩ := h
  refine ⟨g, δ, _, S, q, fun s δ1 g1 H1 v h1 st1 S1 it => ?_⟩
  obtain ⟨g2, S2, u, wl, ho⟩ := S1.take hl hi it
  exact k1 _ _ g2 H1 h1 ⟨st1.up.trans u, st1.wle.trans wl, st1.thr, fun a k e hk => by
    obtain ⟨z1, z2⟩ := st1.ext a k e hk
    exact ⟨ho a k z1 hk (.inl e), z2⟩⟩ S2
theorem ds_setX {t : TDF} {i : Nat} {x : Str} {pos' : Pos} (hN : X.N.Nodup) (hi : X.N[i]? = some x) (hx : Loc X.env.scope x) (he : DF X B e t) (hs : swapsWith e (some (.Name x pos')) pos.line X.env = pure false := by rfl) (hf : X.fn x = true ∨ X.env.scope.names.lookup x = some .local := by first | exact .inl rfl | exact .inr rfl | assumption) :
    DS X B (.Assign [.Name x pos'] e pos) (dSetX i t) :=
  ⟨fun rx tk => PS.imp (ps_set hN hi hx (he.run rx tk) hs hf) fun DD σ H hl h => lift_setX hl (List.getElem?_eq_some_iff.mp hi).1 h⟩
/-- a, b = x, y, both names local -/
def dPar (i j : Nat) (t u : TDF) : TDS := fun rx DE δ => t rx δ fun s δ1 => u rx δ1 fun s' δ2 => DE.nx ((δ2.set i (some s)).set j (some s'))
theorem ds_par {t u : TDF} {i j : Nat} {x y : Str} {a b : Expr} {px py pt : Pos} {kt k2 pt2} (hc : X.calm = true) (hN : X.N.Nodup) (hi : X.N[i]? = some x) (hj : X.N[j]? = some y) (hij : i ≠ j)
    (hx : X.env.scope.names.lookup x = some .local) (hy : X.env.scope.names.lookup y = some .local) (ha : DF X B a t) (hb : DF X B b u)
    (hw : swappedStores [.Tuple [.Name x px, .Name y py] kt pt] (.Tuple [a, b] k2 pt2) X.env = pure (some [x, y]))
    (hs : swapsWithSole [.Tuple [.Name x px, .Name y py] kt pt] (.Tuple [a, b] k2 pt2) pos.line X.env = pure false := by rfl)
    (h1 : starEach [a, b] X.env = (false, eval a X.env) :: starEach [b] X.env := by rfl) (h2 : starEach [b] X.env = (false, eval b X.env) :: starEach [] X.env := by rfl) :
    DS X B (.Assign [.Tuple [.Name x px, .Name y py] kt pt] (.Tuple [a, b] k2 pt2) pos) (dPar i j t u) :=
  ⟨fun rx tk => PS.imp (ps_par hc hN hi hj hij hx hy (pa_cons (ha.run rx tk) (pa_cons (hb.run rx tk) pa_nil h2) h1) hw hs) fun DD σ H hl h => by
    obtain ⟨g, δ, DE, S, q, k1, k2, k3, k4⟩ := h
    refine ⟨g, δ, _, S, q, fun s δ1 g1 H1 v h1 st1 S1 it1 => ⟨g1, δ1, _, S1, h1, fun s' δ2 g2 H2 v' h2 st2 S2 it2 => ⟨v, v', rfl, ?_⟩⟩⟩
    have hil := (List.getElem?_eq_some_iff.mp hi).1
    have hjl := (List.getElem?_eq_some_iff.mp hj).1
    have it1' := it1.step st2
    -- the first name, then the second
    obtain ⟨g3, S3, u3, w3, o3⟩ := S2.take hl hil it1'
    have ap : ∀ b, g1.O b = none → Apart v b s := fun b e => by
      cases s with
      | sh d => trivial
      | ol ds =>
        obtain ⟨a, xs, rfl, z0, z1, _⟩ := it1
        intro q; cases q; rw [z1] at e; cases e
      | od kvs =>
        obtain ⟨a, xs, rfl, z0, z1, _⟩ := it1
        intro q; cases q; rw [z1] at e; cases e
      | oi m C fs =>
        obtain ⟨a, dx, xs, rfl, z0, z1, _⟩ := it1
        intro q; cases q; rw [z1] at e; cases e
    have it2' : ItOk X.K X.N.length g1 g3 H2 v' s' := by
      cases s' with
      | sh d => exact it2.up u3 w3
      | ol ds =>
        obtain ⟨a, xs, rfl, z0, z1, z2, r⟩ := it2
        exact ⟨a, xs, rfl, z0, o3 a _ z1 (Nat.le_add_right _ _) (.inr (ap a z0)), z2, r.up u3 w3⟩
      | od kvs =>
        obtain ⟨a, xs, rfl, z0, z1, z2, z3, r⟩ := it2
        exact ⟨a, xs, rfl, z0, o3 a _ z1 (Nat.le_add_right _ _) (.inr (ap a z0)), z2, z3, r.up u3 w3⟩
      | oi m C fs =>
        obtain ⟨a, dx, xs, rfl, z0, z1, z2, z3, r⟩ := it2
        exact ⟨a, dx, xs, rfl, z0, o3 a _ z1 (Nat.le_add_right _ _) (.inr (ap a z0)), z2, z3, r.up u3 w3⟩
    obtain ⟨g4, S4, u4, w4, o4⟩ := S3.take (by simpa using hl) hjl it2'
    refine k1 _ _ g4 H2 h2 ⟨st1.up.trans (st2.up.trans (u3.trans u4)), st1.wle.trans (st2.wle.trans (w3.trans w4)), fun a h => st2.thr a (st1.thr a h), fun a k e hk => ?_⟩ S4
    obtain ⟨z1, z2⟩ := st1.ext a k e hk
    obtain ⟨z3, z4⟩ := st2.ext a k z1 hk
    exact ⟨o4 a k (o3 a k z3 hk (.inl e)) hk (.inl z1), z4.trans z2⟩⟩
/-! ### displays as new objects -/
def dLstF (t : TDA) : TDF := fun rx δ P => t rx δ fun ds δ1 => ds.length ≤ sizeLine ∧ P (.ol ds) δ1
theorem own_none (S : Stt K B g H σ δ) {p : Addr} (hp : H p = none) : g.O p = none := by
  cases q : g.O p with
  | none => rfl
  | some k =>
    obtain ⟨_, _, ⟨o, z, _⟩, _⟩ := S.own p k q
    rw [hp] at z; cases z
/-- a new list that is owned for now -/
theorem Stt.newL {p : Addr} {xs : List V} {ds : List D} {g0 : Gs} {H0 : Hp} {δ0 : Env} (S : Stt K B g H σ δ) (st : Step n g0 H0 g H) (S0 : Stt K B g0 H0 σ δ0) (hp : H p = none) (r : Dens K g.W g.F xs ds) :
    ∃ g', Step n g0 H0 g' (upd H p (.lst xs)) ∧ Stt K B g' (upd H p (.lst xs)) σ δ ∧ ItOk K n g0 g' (upd H p (.lst xs)) (.ref p) (.ol ds) := by
  obtain ⟨S2, st2⟩ := S.allocOwn (n := n) (k := n + p) hp (o := .lst xs) trivial
  refine ⟨_, st.trans st2, S2, p, xs, rfl, own_none S0 ?_, by simp, upd_same, r.step st2⟩
  cases q : H0 p with
  | none => rfl
  | some o => exact absurd hp (st.thr p (by rw [q]; simp))
theorem Stt.newK {p : Addr} {ks : List (Key × V)} {kvs : List (Key × D)} {g0 : Gs} {H0 : Hp} {δ0 : Env} (S : Stt K B g H σ δ) (st : Step n g0 H0 g H) (S0 : Stt K B g0 H0 σ δ0) (hp : H p = none) (e : ks.map (·.1) = kvs.map (·.1)) (r : Dens K g.W g.F (ks.map (·.2)) (kvs.map (·.2))) :
    ∃ g', Step n g0 H0 g' (upd H p (.dK ks)) ∧ Stt K B g' (upd H p (.dK ks)) σ δ ∧ ItOk K n g0 g' (upd H p (.dK ks)) (.ref p) (.od kvs) := by
  obtain ⟨S2, st2⟩ := S.allocOwn (n := n) (k := n + p) hp (o := .dK ks) trivial
  refine ⟨_, st.trans st2, S2, p, ks, rfl, own_none S0 ?_, by simp, upd_same, e, r.step st2⟩
  cases q : H0 p with
  | none => rfl
  | some o => exact absurd hp (st.thr p (by rw [q]; simp))
variable {es : List Expr} {t : TDA}
theorem df_lst (h : DA X B es t) : DF X B (.List es pos) (dLstF t) :=
  ⟨fun rx tk => PE.imp (pe_lst (h.run rx tk)) fun σ H Q _ ⟨g, δ, P, S, q, k⟩ => ⟨g, δ, _, S, q, fun ds δ1 g1 H1 vs h1 st1 S1 D1 => ⟨by rw [D1.length]; exact h1.1, fun p hp => by
    obtain ⟨g2, st2, S2, it⟩ := S1.newL st1 S hp D1
    exact k _ δ1 _ _ _ h1.2 st2 S2 it⟩⟩⟩
/-! ### comprehensions -/
def wipeD (δ : Env) : List Nat → Env
  | [] => δ
  | v :: vs => (wipeD δ vs).set v none
theorem wipeD_get {δ : Env} {i : Nat} {s : Sl} : ∀ {vs : List Nat}, (wipeD δ vs)[i]? = some (some s) → δ[i]? = some (some s) ∧ i ∉ vs
  | [], h => ⟨h, by simp⟩
  | v :: vs, h => by
    unfold wipeD at h
    rcases getSet h with ⟨_, e, _⟩ | ⟨e1, e2⟩
    · cases e
    · obtain ⟨h1, h2⟩ := wipeD_get e2
      exact ⟨h1, by simp only [List.mem_cons, not_or]; exact ⟨e1, h2⟩⟩
theorem wipeD_length (δ : Env) : ∀ vs : List Nat, (wipeD δ vs).length = δ.length
  | [] => rfl
  | v :: vs => by unfold wipeD; rw [List.length_set, wipeD_length δ vs]
theorem wipe_get {σ : L2.St} {i : Nat} : ∀ {vs : List Nat}, i ∉ vs → (wipe σ vs)[i]? = σ[i]?
  | [], _ => rfl
  | v :: vs, h => by
    unfold wipe
    rw [List.getElem?_set_ne (by intro e; exact h (by simp [e])), wipe_get (fun z => h (by simp [z]))]
theorem wipe_in {σ : L2.St} {i : Nat} : ∀ {vs : List Nat}, i ∈ vs → i < σ.length → (wipe σ vs)[i]? = some none
  | [], h, _ => by simp at h
  | v :: vs, h, hl => by
    unfold wipe
    by_cases e : v = i
    · subst e
      rw [List.getElem?_set_self (by rw [wipe_length]; exact hl)]
    · rw [List.getElem?_set_ne e]
      rcases List.mem_cons.mp h with z | z
      · exact absurd z.symm e
      · exact wipe_in z hl
theorem SameOut.wipe {vs : List Nat} {σ σ' : L2.St} (h : SameOut vs σ σ') : L2.wipe σ' vs = L2.wipe σ vs := by
  apply List.ext_getElem?
  intro i
  by_cases hi : i ∈ vs
  · by_cases hl : i < σ.length
    · rw [wipe_in hi hl, wipe_in hi (by rw [h.1]; exact hl)]
    · rw [List.getElem?_eq_none (by rw [wipe_length, h.1]; omega), List.getElem?_eq_none (by rw [wipe_length]; omega)]
  · rw [wipe_get hi, wipe_get hi, h.2 i hi]
theorem Stt.wiped {vs : List Nat} (S : Stt K B g H σ δ) : Stt K B g H (L2.wipe σ vs) (wipeD δ vs) := ⟨S.ret, S.own, by rw [wipeD_length, wipe_length]; exact S.len, fun i s e => by
  obtain ⟨e1, e2⟩ := wipeD_get e
  rw [wipe_get e2]
  exact S.env i s e1⟩
/-- behind a comprehension: its own names are what they were (if they held data) -/
def backD (δ0 δ : Env) : List Nat → Env
  | [] => δ
  | v :: vs => (backD δ0 δ vs).set v (match δ0[v]? with
    | some (some (.sh d)) => some (.sh d)
    | _ => none)
theorem backD_length (δ0 δ : Env) : ∀ vs : List Nat, (backD δ0 δ vs).length = δ.length
  | [] => rfl
  | v :: vs => by unfold backD; rw [List.length_set, backD_length δ0 δ vs]
theorem backD_get {δ0 δ : Env} {i : Nat} {s : Sl} : ∀ {vs : List Nat}, (backD δ0 δ vs)[i]? = some (some s) → (i ∉ vs ∧ δ[i]? = some (some s)) ∨ (∃ d, s = .sh d ∧ δ0[i]? = some (some (.sh d)))
  | [], h => .inl ⟨by simp, h⟩
  | v :: vs, h => by
    unfold backD at h
    rcases getSet h with ⟨e1, e2, _⟩ | ⟨e1, e2⟩
    · subst e1
      split at e2
      · rename_i d q
        cases e2
        exact .inr ⟨d, rfl, q⟩
      · cases e2
    · rcases backD_get e2 with ⟨h1, h2⟩ | h2
      · exact .inl ⟨by simp only [List.mem_cons, not_or]; exact ⟨e1, h1⟩, h2⟩
      · exact .inr h2
theorem Stt.back {vs : List Nat} {g0 : Gs} {H0 : Hp} {δ0 : Env} (S0 : Stt K B g0 H0 σ δ0) (st : Step n g0 H0 g H) (S : Stt K B g H (L2.wipe σ vs) δ) : Stt K B g H σ (backD δ0 δ vs) :=
  ⟨S.ret, S.own, by rw [backD_length, S.len, wipe_length], fun i s e => by
    rcases backD_get e with ⟨h1, h2⟩ | ⟨d, rfl, h2⟩
    · have q := S.env i s h2
      rw [wipe_get h1] at q
      exact q
    · obtain ⟨v, e1, r⟩ := S0.env i _ h2
      exact ⟨v, e1, r.step st⟩⟩
def dCompL (tg : TDG) (tt : TDB) (te : TDX) (vs : List Nat) (P : List D → Env → Prop) : List D → List D → Env → Prop
  | [], acc, δ => P acc δ
  | d :: ds, acc, δ => tg d δ fun δ1 => tt (fun _ => False) δ1 fun b δ2 => if b = true then te (fun _ => False) δ2 fun y δ3 => acc.length < sizeLine ∧ dCompL tg tt te vs P ds (acc ++ [y]) (wipeD δ3 vs) else dCompL tg tt te vs P ds acc (wipeD δ2 vs)
def dComp (ti : TDI) (tg : TDG) (tt : TDB) (te : TDX) (vs : List Nat) : TDF := fun rx δ P => ti rx δ fun ds δ1 => dCompL tg tt te vs (fun acc δ2 => P (.ol acc) (backD δ1 δ2 vs)) ds [] (wipeD δ1 vs)
structure DTs (X : Cx) (B : Base) (ifs : List Expr) (t : TDB) : Prop where
  run : ∀ rx, Takes X (XW (liftX X.K B rx)) → PTs X ifs (liftT X.K B X.N.length (t rx))
def dYes : TDB := fun _ δ P => P true δ
theorem PTs.imp {ifs : List Expr} {t t' : TT} (h : PTs X ifs t) (i : ∀ σ H Q, σ.length = X.N.length → t' σ H Q → t σ H Q) : PTs X ifs t' := ⟨fun pins s σ H Q I q => h.run pins s σ H Q I (i σ H Q I.len q)⟩
theorem dts_nil : DTs X B [] dYes := ⟨fun rx tk => PTs.imp pts_nil fun σ H Q _ ⟨g, δ, P, S, q, k⟩ => k true δ g H q (Step.refl _ _ _) S⟩
theorem dts_one {c : Expr} {t : TDB} (h : DT X B c t) : DTs X B [c] t := ⟨fun rx tk => pts_one (h.run rx tk)⟩
theorem takes_never {X : Cx} {B : Base} {K : PySem.W.Frag} : Takes X (XW (liftX K B fun _ => False)) := fun u s' x => by
  obtain ⟨a, B', sI, pins, σ, H, cls, d, e, I, nb, up, sky, na, os, ag, w⟩ := x
  obtain ⟨F, W, e, r, x, q⟩ := w
  exact q.elim
/-- what a comprehension's reading asks, from data -/
theorem lift_comp {ti : TDI} {tg : TDG} {tt : TDB} {te : TDX} {vs : List Nat} {rx : D → Prop} {Q : VK} (hl : σ.length = n) (h : liftF K B n (dComp ti tg tt te vs rx) σ H Q) :
    tLc (liftI K B n (ti rx)) (liftG K B n vs tg) (liftT K B n (tt fun _ => False)) (liftE K B n (te fun _ => False)) vs σ H Q := by
  obtain ⟨g, δ, P, S, q, k⟩ := h
  refine ⟨g, δ, _, S, q, fun ds δ1 g1 H1 J h1 st1 S1 hJ => fun D hD => ?_⟩
  obtain ⟨S2, st2⟩ := S1.allocOwn (n := n) (k := n + D) hD (o := .lst []) trivial
  refine ⟨fun i m H => m = ds.length - i ∧ i ≤ ds.length ∧ ∃ g' δ' acc xs, Step n g1 H1 g' H ∧ g'.O D = some (n + D) ∧ H D = some (.lst xs) ∧ Dens K g'.W g'.F xs acc ∧ Stt K B g' H (L2.wipe σ vs) δ' ∧ dCompL tg tt te vs (fun acc δ2 => P (.ol acc) (backD δ1 δ2 vs)) (ds.drop i) acc δ',
    ⟨_, rfl, Nat.zero_le _, _, _, [], [], st2, by simp, upd_same, .nil, S2.wiped, by simpa using h1⟩, ?_⟩
  rintro i m H2 ⟨rfl, hi, g2, δ2, acc, xs, st2', oD, eD, rD, S2', q2⟩
  obtain ⟨ja, jb⟩ := hJ i g2 H2 _ δ2 st2' S2'
  have hwl : (L2.wipe σ vs).length = n := by rw [wipe_length]; exact hl
  have nD : g1.O D = none := own_none S1 hD
  by_cases hlt : i < ds.length
  · have e : ds.drop i = ds[i] :: ds.drop (i + 1) := List.drop_eq_getElem_cons hlt
    rw [e] at q2
    obtain ⟨jgo, jy⟩ := ja ds[i] (List.getElem?_eq_getElem hlt)
    refine .inr ⟨jgo, fun H' => ∃ g' δ' acc xs, Step n g1 H1 g' H' ∧ g'.O D = some (n + D) ∧ H' D = some (.lst xs) ∧ Dens K g'.W g'.F xs acc ∧ Stt K B g' H' (L2.wipe σ vs) δ' ∧ dCompL tg tt te vs (fun acc δ2 => P (.ol acc) (backD δ1 δ2 vs)) (ds.drop (i + 1)) acc δ',
      fun H' h => ⟨ds.length - (i + 1), by omega, rfl, hlt, h⟩, fun x H' y => ?_⟩
    obtain ⟨g3, st3, S3, r3⟩ := jy x H' y
    refine ⟨g3, δ2, ds[i], _, S3, r3, q2, fun σ4 δ4 g4 H4 h4 st4 S4 so => ⟨?_, g4, δ4, _, S4, h4, fun b δ5 g5 H5 h5 st5 S5 => ?_⟩⟩
    · have hw := so.wipe
      rw [hw]
      apply List.ext_getElem?
      intro j
      by_cases hj : j ∈ vs
      · by_cases hjl : j < σ.length
        · rw [wipe_in hj (by rw [wipe_length]; exact hjl), wipe_in hj hjl]
        · rw [List.getElem?_eq_none (by rw [wipe_length, wipe_length]; omega), List.getElem?_eq_none (by rw [wipe_length]; omega)]
      · rw [wipe_get hj]
    · have sAll : Step n g2 H2 g5 H5 := (st3.trans st4).trans st5
      obtain ⟨oD5, eD5⟩ := sAll.ext D _ oD (Nat.le_add_right _ _)
      have eD5 : H5 D = some (.lst xs) := eD5.trans eD
      have hw : L2.wipe σ4 vs = L2.wipe σ vs := by
        rw [so.wipe]
        apply List.ext_getElem?
        intro j
        by_cases hj : j ∈ vs
        · by_cases hjl : j < σ.length
          · rw [wipe_in hj (by rw [wipe_length]; exact hjl), wipe_in hj hjl]
          · rw [List.getElem?_eq_none (by rw [wipe_length, wipe_length]; omega), List.getElem?_eq_none (by rw [wipe_length]; omega)]
        · rw [wipe_get hj]
      cases b with
      | false => exact ⟨g5, wipeD δ5 vs, acc, xs, st2'.trans sAll, oD5, eD5, rD.step sAll, by rw [← hw]; exact S5.wiped, h5⟩
      | true =>
        refine ⟨g5, δ5, _, S5, h5, fun yd δ6 g6 H6 yv h6 st6 S6 r6 => ?_⟩
        obtain ⟨oD6, eD6⟩ := st6.ext D _ oD5 (Nat.le_add_right _ _)
        have eD6 : H6 D = some (.lst xs) := eD6.trans eD5
        have rD6 := (rD.step sAll).step st6
        refine ⟨xs, eD6, by rw [rD.length]; exact h6.1, ?_⟩
        have hl6 : (L2.wipe σ4 vs).length = n := by rw [hw]; exact hwl
        obtain ⟨S7, k7⟩ := (S6.wiped (vs := vs)).writeX (o' := .lst (xs ++ [yv])) hl6 oD6 (Nat.le_add_right _ _) eD6 trivial trivial
        have s6 : Step n g1 H1 g6 H6 := st2'.trans (sAll.trans st6)
        refine ⟨g6, wipeD δ6 vs, acc ++ [yd], xs ++ [yv], ⟨s6.up, s6.wle, fun a h => upd_thr a (s6.thr a h), fun a k' z1 z2 => ?_⟩, oD6, upd_same, rD6.append (.cons r6 .nil), by rw [← hw]; exact S7, h6.2⟩
        obtain ⟨y1, y2⟩ := s6.ext a k' z1 z2
        have na : a ≠ D := fun z => by rw [z, nD] at z1; cases z1
        exact ⟨y1, (k7 a na).trans y2⟩
  · have e : i = ds.length := by omega
    subst e
    rw [List.drop_length] at q2
    refine .inl ⟨jb (Nat.le_refl _), ?_⟩
    have s2 : Step n g H g2 H2 := st1.trans st2'
    have S3 := Stt.back (vs := vs) S1 st2' S2'
    refine k _ _ g2 H2 _ q2 s2 S3 ⟨D, xs, rfl, own_none S ?_, oD, eD, rD⟩
    cases z : H D with
    | none => rfl
    | some o => exact absurd hD (st1.thr D (by rw [z]; simp))
theorem df_comp {elt tg iter : Expr} {ifs : List Expr} {scope : Scope} {own : List (Str × Nat)} {ti : TDI} {dg : TDG} {tt : TDB} {te : TDX} (hc : X.calm = true) (hN : X.N.Nodup) (hi : DI X B tg iter ti) (ok : BlkOk X.N X.env.scope scope own)
    (hg : ∀ (s : Shared) (H : Hp) (C : Addr) (cl : List (Str × Addr)) (fp : List Addr), DG (X.blk s H scope (compEnvC scope cl C X.env) fp) B tg (own.map (·.2)) dg) (ht : ∀ (s : Shared) (H : Hp) (C : Addr) (cl : List (Str × Addr)) (fp : List Addr), DTs (X.blk s H scope (compEnvC scope cl C X.env) fp) B ifs tt)
    (he : ∀ (s : Shared) (H : Hp) (C : Addr) (cl : List (Str × Addr)) (fp : List Addr), DE (X.blk s H scope (compEnvC scope cl C X.env) fp) B elt te) (hs : ∀ x, foldedSetIterable iter X.env x = pure x := by intro _; rfl) :
    DF X B (.ListComp elt [⟨tg, iter, ifs, 0⟩] scope pos) (dComp ti dg tt te (own.map (·.2))) :=
  ⟨fun rx tk => PE.imp (pe_lc hc hN (hi.run rx tk) ok (fun s H C cl fp => (hg s H C cl fp).run) (fun s H C cl fp => (ht s H C cl fp).run (fun _ => False) takes_never) (fun s H C cl fp => (he s H C cl fp).run (fun _ => False) takes_never) hs) fun σ H Q hl h => lift_comp hl h⟩
theorem ds_comp {i : Nat} {y : Str} {py spos : Pos} {elt tg iter : Expr} {ifs : List Expr} {scope : Scope} {own : List (Str × Nat)} {ti : TDI} {dg : TDG} {tt : TDB} {te : TDX} (hc : X.calm = true) (hN : X.N.Nodup) (hy : X.N[i]? = some y) (hyl : X.env.scope.names.lookup y = some .local)
    (hsw : swapsWith (.ListComp elt [⟨tg, iter, ifs, 0⟩] scope pos) (some (.Name y py)) spos.line X.env = pure true) (hi : DI X B tg iter ti) (ok : BlkOk X.N X.env.scope scope own)
    (hg : ∀ (s : Shared) (H : Hp) (C : Addr) (cl : List (Str × Addr)) (fp : List Addr), DG (X.blk s H scope (compEnvC scope cl C X.env) fp) B tg (own.map (·.2)) dg) (ht : ∀ (s : Shared) (H : Hp) (C : Addr) (cl : List (Str × Addr)) (fp : List Addr), DTs (X.blk s H scope (compEnvC scope cl C X.env) fp) B ifs tt)
    (he : ∀ (s : Shared) (H : Hp) (C : Addr) (cl : List (Str × Addr)) (fp : List Addr), DE (X.blk s H scope (compEnvC scope cl C X.env) fp) B elt te) (hs : ∀ x, foldedSetIterable iter X.env x = pure x := by intro _; rfl) :
    DS X B (.Assign [.Name y py] (.ListComp elt [⟨tg, iter, ifs, 0⟩] scope pos) spos) (dSetX i (dComp ti dg tt te (own.map (·.2)))) :=
  ⟨fun rx tk => PS.imp (ps_setLc hc hN hy hyl hsw (hi.run rx tk) ok (fun s H C cl fp => (hg s H C cl fp).run) (fun s H C cl fp => (ht s H C cl fp).run (fun _ => False) takes_never) (fun s H C cl fp => (he s H C cl fp).run (fun _ => False) takes_never) hs) fun DD σ H hl h => by
    have h2 := lift_setX (K := X.K) (B := B) hl (List.getElem?_eq_some_iff.mp hy).1 h
    exact lift_comp hl h2⟩
end
end DL

namespace DL
open PySem PySem.Spec L2
open PyProof.Rows hiding St
/-! ### owned things lent for a look -/
def frz1 : Option Sl → Option Sl
  | some s => some (.sh (slD s))
  | none => none
def frzAll (δ : Env) : Env := δ.map frz1
def scalar : D → Bool
  | .non => true
  | .bl _ => true
  | .int _ => true
  | .str _ => true
  | .ty _ => true
  | .glo _ => true
  | .adr _ => true
  | _ => false
theorem Den.scal {K : PySem.W.Frag} {W W' : DW} {F F' : Hp} {v : V} {d : D} (h : Den K W F v d) (s : scalar d = true) : Den K W' F' v d := by
  cases h with
  | non => exact .non
  | bl b => exact .bl b
  | int i => exact .int i
  | str x => exact .str x
  | ty n => exact .ty n
  | glo x => exact .glo x
  | adr x => exact .adr x
  | _ => cases s
section
variable {K : PySem.W.Frag} {B : Base} {g g' gp : Gs} {H H' : Hp} {σ : L2.St} {δ : Env} {n : Nat} {X : Cx} {e a b : Expr} {pos : Pos}
open Classical in
noncomputable def frzG (n : Nat) (g : Gs) (H : Hp) : Gs := ⟨fun a => if ∃ k, g.O a = some k ∧ k < n then H a else g.F a, fun a => if ∃ k, g.O a = some k ∧ k < n then none else g.O a, g.W⟩
theorem frzG_F {a : Addr} {k : Nat} (h : g.O a = some k) (hk : k < n) : (frzG n g H).F a = H a := if_pos ⟨k, h, hk⟩
theorem Stt.frzAll (S : Stt K B g H σ δ) (hn : σ.length = n) : Stt K B (frzG n g H) H σ (DL.frzAll δ) ∧ Step n g H (frzG n g H) H := by
  have up : Up g.F (frzG n g H).F := fun a o e => by
    show (if _ then _ else _) = _
    rw [if_neg]
    · exact e
    · rintro ⟨k, h, _⟩
      rw [(S.own a k h).2.1] at e; cases e
  refine ⟨⟨⟨fun a o e => ?_, S.ret.up.trans up, S.ret.old, S.ret.there, fun a ha => ?_, S.ret.wle, S.ret.drw.keep fun a ha => ⟨rfl, ?_⟩, S.ret.tab, S.ret.dnew, fun a o e => ?_⟩, fun a k e => ?_, by simpa [DL.frzAll] using S.len, fun i s e => ?_⟩, ⟨up, WLe.refl _, fun _ h => h, fun a k e hk => ⟨?_, rfl⟩⟩⟩
  · have e : (if ∃ k, g.O a = some k ∧ k < n then H a else g.F a) = some o := e
    split at e
    · exact e
    · exact S.ret.sub _ _ e
  · show (if _ then _ else _) = _
    rw [if_neg]
    · exact S.ret.froz a ha
    · rintro ⟨k, h, _⟩
      exact ha (S.own a k h).1
  · show (if _ then _ else _) = _
    rw [if_neg]
    rintro ⟨k, h, _⟩
    exact (S.own a k h).2.2.2 ha
  · have e : (if ∃ k, g.O a = some k ∧ k < n then H a else g.F a) = some o := e
    split at e
    · rename_i q
      obtain ⟨k, h, _⟩ := q
      obtain ⟨o', z, p⟩ := (S.own a k h).2.2.1
      rw [e] at z; cases z; exact p.tbl
    · exact S.ret.fnt _ _ e
  · have e : (if ∃ k, g.O a = some k ∧ k < n then none else g.O a) = some k := e
    split at e
    · cases e
    · rename_i hne
      obtain ⟨c1, c2, c3, c4⟩ := S.own a k e
      exact ⟨c1, (if_neg hne).trans c2, c3, c4⟩
  · unfold DL.frzAll at e
    rw [List.getElem?_map] at e
    cases q : δ[i]? with
    | none => rw [q] at e; cases e
    | some o =>
      rw [q] at e
      cases o with
      | none => cases e
      | some s0 =>
        cases e
        have hi : i < n := by rw [← hn, ← S.len]; exact (List.getElem?_eq_some_iff.mp q).1
        have z := S.env i s0 q
        cases s0 with
        | sh d =>
          obtain ⟨v, e1, r⟩ := z
          exact ⟨v, e1, r.up up (WLe.refl _)⟩
        | ol ds =>
          obtain ⟨a, xs, e1, e2, e3, r⟩ := z
          exact ⟨_, e1, .lst ((frzG_F e2 hi).trans e3) (r.up up (WLe.refl _))⟩
        | od kvs =>
          obtain ⟨a, xs, e1, e2, e3, e4, r⟩ := z
          exact ⟨_, e1, .dct ((frzG_F e2 hi).trans e3) e4 (r.up up (WLe.refl _))⟩
        | oi m c fs =>
          obtain ⟨a, dx, xs, e1, e2, e3, e4, r⟩ := z
          exact ⟨_, e1, .ob ((frzG_F e2 hi).trans e3) e4.1 (r.up up (WLe.refl _))⟩
  · show (if _ then _ else _) = _
    rw [if_neg]
    · exact e
    · rintro ⟨k', h, h2⟩
      rw [e] at h; cases h; omega
open Classical in
/-- the look is over: what was owned is owned again -/
theorem Stt.back2 (S : Stt K B g H σ δ) (hn : σ.length = n) (S' : Stt K B g' H' σ (DL.frzAll δ)) (st : Step n (frzG n g H) H g' H') : ∃ g2, Stt K B g2 H' σ δ ∧ Step n g H g2 H' ∧ g2.W = g'.W := by
  obtain ⟨_, st0⟩ := S.frzAll hn
  have stA := st0.trans st
  have up : Up g.F g'.F := stA.up
  have hw : WLe g.W g'.W := stA.wle
  -- slot-owned things are frozen meanwhile
  have fz : ∀ a k o, g.O a = some k → k < n → H a = some o → g'.F a = some o ∧ H' a = some o := fun a k o e hk h => by
    have z : g'.F a = some o := st.up a o ((frzG_F e hk).trans h)
    exact ⟨z, S'.ret.sub _ _ z⟩
  have nh : ∀ a k, g.O a = some k → ¬ has g'.W a := fun a k e h => by
    by_cases hk : k < n
    · obtain ⟨o, q, _⟩ := (S.own a k e).2.2.1
      have z := (fz a k o e hk q).1
      rw [(S'.ret.drw.has_ne h).2] at z; cases z
    · have z := (stA.ext a k e (by omega)).1
      exact (S'.own a k z).2.2.2 h
  have pl : ∀ a k, g.O a = some k → ∃ o, H a = some o ∧ H' a = some o ∧ plainO o := fun a k e => by
    obtain ⟨o, q, p⟩ := (S.own a k e).2.2.1
    by_cases hk : k < n
    · exact ⟨o, q, (fz a k o e hk q).2, p⟩
    · exact ⟨o, q, (stA.ext a k e (by omega)).2.trans q, p⟩
  refine ⟨⟨g.F, g.O, g'.W⟩, ⟨⟨fun a o e => S'.ret.sub _ _ (up a o e), S.ret.up, S'.ret.old, S'.ret.there, S.ret.froz, S'.ret.wle, fun w e => ?_, S'.ret.tab, S'.ret.dnew, S.ret.fnt⟩, fun a k e => ?_, S.len, fun i s e => ?_⟩, ⟨Up.refl _, hw, stA.thr, fun a k e hk => ⟨e, (stA.ext a k e hk).2⟩⟩, rfl⟩
  · obtain ⟨d, f1, f2, f3⟩ := S'.ret.drw w e
    have dn : ∀ a, g'.F a = none → g.F a = none := fun a h => by
      cases q : g.F a with
      | none => rfl
      | some o => rw [up a o q] at h; cases h
    exact ⟨d, dn _ f1, dn _ f2, dn _ f3⟩
  · obtain ⟨c1, c2, c3, c4⟩ := S.own a k e
    obtain ⟨o, _, q, p⟩ := pl a k e
    exact ⟨c1, c2, ⟨o, q, p⟩, nh a k e⟩
  · have z := S.env i s e
    have hi : i < n := by rw [← hn, ← S.len]; exact (List.getElem?_eq_some_iff.mp e).1
    cases s with
    | sh d =>
      obtain ⟨v, e1, r⟩ := z
      exact ⟨v, e1, r.up (Up.refl _) hw⟩
    | ol ds =>
      obtain ⟨a, xs, e1, e2, e3, r⟩ := z
      exact ⟨a, xs, e1, e2, (fz a i _ e2 hi e3).2, r.up (Up.refl _) hw⟩
    | od kvs =>
      obtain ⟨a, xs, e1, e2, e3, e4, r⟩ := z
      exact ⟨a, xs, e1, e2, (fz a i _ e2 hi e3).2, e4, r.up (Up.refl _) hw⟩
    | oi m c fs =>
      obtain ⟨a, dx, xs, e1, e2, e3, e4, r⟩ := z
      exact ⟨a, dx, xs, e1, e2, (fz a i _ e2 hi e3).2, e4, r.up (Up.refl _) hw⟩
def dBor (t : TDX) : TDX := fun rx δ P => t rx (frzAll δ) fun d δ' => scalar d = true ∧ δ' = frzAll δ ∧ P d δ
def dBorT (t : TDB) : TDB := fun rx δ P => t rx (frzAll δ) fun b δ' => δ' = frzAll δ ∧ P b δ
theorem de_bor {t : TDX} (h : DE X B e t) : DE X B e (dBor t) := ⟨fun rx tk => PE.imp (h.run rx tk) fun σ H Q hl ⟨g, δ, P, S, q, k⟩ => by
  obtain ⟨S1, st1⟩ := S.frzAll hl
  refine ⟨_, _, _, S1, q, fun d δ' g' H' v hp st S' r => ?_⟩
  obtain ⟨hs, rfl, hp⟩ := hp
  obtain ⟨g2, S2, st2, _⟩ := S.back2 hl S' st
  exact k d δ g2 H' v hp st2 S2 (r.scal hs)⟩
theorem dt_bor {t : TDB} (h : DT X B e t) : DT X B e (dBorT t) := ⟨fun rx tk => PT.imp (h.run rx tk) fun σ H Q hl ⟨g, δ, P, S, q, k⟩ => by
  obtain ⟨S1, st1⟩ := S.frzAll hl
  refine ⟨_, _, _, S1, q, fun d δ' g' H' hp st S' => ?_⟩
  obtain ⟨rfl, hp⟩ := hp
  obtain ⟨g2, S2, st2, _⟩ := S.back2 hl S' st
  exact k d δ g2 H' hp st2 S2⟩
/-! ### methods on what a slot owns -/
def MOp (K : PySem.W.Frag) (T : String) (r : V → List V → Hp → VK → Prop) (m : Sl → List D → (Sl → D → Prop) → Prop) : Prop :=
  ∀ (B : Base) (n : Nat) (g : Gs) (H : Hp) (σ : L2.St) (δ : Env) (i : Nat) (v : V) (s : Sl) (us : List V) (ds : List D) (P : Sl → D → Prop) (Q : VK), Stt K B g H σ δ → i < n → σ[i]? = some (some v) → SlOk K g H i (some (some v)) s → Dens K g.W g.F us ds → m s ds P →
    (∀ s' d g' H' u, P s' d → Step n g H g' H' → Stt K B g' H' σ (δ.set i (some s')) → Den K g'.W g'.F u d → Q u H') → r v us H Q
def ownSl : Sl → String
  | .ol _ => "list"
  | .od _ => "dict"
  | _ => ""
/-- x.m(..) where slot i owns x -/
def dMut (i : Nat) (T : String) (m : Sl → List D → (Sl → D → Prop) → Prop) (t : TDA) : TDX := fun rx δ P =>
  (match δ[i]? with
    | some (some s) => ownSl s = T
    | _ => False) ∧ t rx δ fun ds δ1 => match δ1[i]? with
    | some (some s) => ownSl s = T ∧ m s ds fun s' d => P d (δ1.set i (some s'))
    | _ => False
theorem own_look {i : Nat} {s : Sl} {T : String} (S : Stt K B g H σ δ) (e : δ[i]? = some (some s)) (hT : ownSl s = T) (hT0 : T ≠ "") : ∃ a, σ[i]? = some (some (.ref a)) ∧ tyV K T (.ref a) H := by
  have z := S.env i s e
  cases s with
  | sh d => exact absurd hT.symm hT0
  | ol ds =>
    obtain ⟨a, xs, e1, e2, e3, r⟩ := z
    exact ⟨a, e1, .inl ⟨hT.symm, xs, SqL.of e3⟩⟩
  | od kvs =>
    obtain ⟨a, xs, e1, e2, e3, r⟩ := z
    exact ⟨a, e1, .inr (.inr (.inl ⟨hT.symm, .inl ⟨xs, e3⟩⟩))⟩
  | oi m c fs => exact absurd hT.symm hT0
variable {T id : String} {r : V → List V → Hp → VK → Prop} {m : Sl → List D → (Sl → D → Prop) → Prop} {name x : Str} {apos cpos npos : Pos} {es : List Expr} {t : TDA} {i : Nat}
theorem de_mut (hT0 : T ≠ "") (pa : PlainAttrs T) (slot : Slot T name id) (hty : typeOf (.builtin id) = pure (.type "method_descriptor")) (hm : MtR X id r) (L : MOp X.K T r m) (ho : PE X (.Name x npos) (tVar i)) (hi : i < X.N.length) (ha : DA X B (e :: es) t)
    (hbase : attributeBase (.Name x npos) name X.env (eval (.Name x npos) X.env) = eval (.Name x npos) X.env := by rfl)
    (hfew : ((backTo cpos (starEach (e :: es) X.env)).all (fun x => !x.1) && (backToKw cpos (keywordEach [] X.env)).all (fun x => x.1.isSome) && decide ((e :: es).length + ([] : List Keyword).length + (if ([] : List Keyword).isEmpty then 0 else 1) < 30)) = true := by rfl)
    (hline : (apos.endLine == cpos.line) = true := by rfl) (hs : starEach (e :: es) X.env = (false, eval e X.env) :: starEach es X.env := by rfl) (hplain : (backTo cpos (starEach es X.env)).any (·.1) = false := by rfl) :
    DE X B (.Call (.Attribute (.Name x npos) name apos) (e :: es) [] cpos) (dMut i T m t) :=
  ⟨fun rx tk => PE.imp (pe_bm pa slot hty hm ho (ha.run rx tk) hbase hfew hline hs hplain) fun σ H Q hl ⟨g, δ, P, S, ⟨q0, q⟩, k⟩ => by
    cases e0 : δ[i]? with
    | none => simp only [e0] at q0
    | some o0 =>
      cases o0 with
      | none => simp only [e0] at q0
      | some s0 =>
        simp only [e0] at q0
        obtain ⟨a, ea, ta⟩ := own_look S e0 q0 hT0
        refine ⟨.ref a, ea, ta, g, δ, _, S, q, fun ds δ1 g1 H1 us h1 st1 S1 D1 => ?_⟩
        cases e1 : δ1[i]? with
        | none => simp only [e1] at h1
        | some o1 =>
          cases o1 with
          | none => simp only [e1] at h1
          | some s1 =>
            simp only [e1] at h1
            have z := S1.env i s1 e1
            rw [ea] at z
            exact L B X.N.length g1 H1 σ δ1 i _ s1 us ds _ Q S1 hi ea z D1 h1.2 fun s' d g' H' u hp st S' r => k d _ g' H' u hp (st1.trans st) S' r⟩
theorem de_mut0 (hT0 : T ≠ "") (pa : PlainAttrs T) (slot : Slot T name id) (hty : typeOf (.builtin id) = pure (.type "method_descriptor")) (hm : MtR X id r) (L : MOp X.K T r m) (ho : PE X (.Name x npos) (tVar i)) (hi : i < X.N.length)
    (hbase : attributeBase (.Name x npos) name X.env (eval (.Name x npos) X.env) = eval (.Name x npos) X.env := by rfl) (hline : (apos.endLine == cpos.line) = true := by rfl) :
    DE X B (.Call (.Attribute (.Name x npos) name apos) [] [] cpos) (dMut i T m dNil) :=
  ⟨fun rx tk => PE.imp (pe_bm0 pa slot hty hm ho hbase hline) fun σ H Q hl ⟨g, δ, P, S, ⟨q0, q⟩, k⟩ => by
    cases e0 : δ[i]? with
    | none => simp only [e0] at q0
    | some o0 =>
      cases o0 with
      | none => simp only [e0] at q0
      | some s0 =>
        simp only [e0] at q0
        obtain ⟨a, ea, ta⟩ := own_look S e0 q0 hT0
        refine ⟨.ref a, ea, ta, ?_⟩
        unfold dNil at q
        simp only [e0] at q
        have z := S.env i s0 e0
        rw [ea] at z
        exact L B X.N.length g H σ δ i _ s0 [] [] _ Q S hi ea z .nil q.2 fun s' d g' H' u hp st S' r => k d _ g' H' u hp st S' r⟩
def mAppend : Sl → List D → (Sl → D → Prop) → Prop := fun s ds P => match s, ds with
  | .ol xs, [d] => xs.length < sizeLine ∧ P (.ol (xs ++ [d])) .non
  | _, _ => False
theorem mop_append : MOp K "list" rAppend mAppend := fun B n g H σ δ i v s us ds P Q S hi hv z r q k => by
  cases s with
  | ol xs =>
    cases r with
    | nil => exact q.elim
    | cons r1 r2 =>
      cases r2 with
      | cons _ _ => exact q.elim
      | nil =>
        obtain ⟨a, vs, e1, e2, e3, rv⟩ := z
        cases e1
        obtain ⟨S', st⟩ := S.write (s := .ol (xs ++ [_])) (o' := .lst (vs ++ [_])) e2 hi e3 trivial trivial ⟨a, _, hv, e2, upd_same, rv.append (.cons r1 .nil)⟩
        exact ⟨a, vs, _, rfl, rfl, e3, by rw [rv.length]; exact q.1, k _ _ g _ _ q.2 st S' .non⟩
  | _ => cases r <;> exact q.elim
def mPop : Sl → List D → (Sl → D → Prop) → Prop := fun s ds P => match s, ds with
  | .ol xs, [] => ∃ d, xs[xs.length - 1]? = some d ∧ P (.ol xs.dropLast) d
  | _, _ => False
theorem Dens.dropLast {W : DW} {F : Hp} {vs : List V} {ds : List D} (r : Dens K W F vs ds) : Dens K W F vs.dropLast ds.dropLast := by
  rw [List.dropLast_eq_take, List.dropLast_eq_take, r.length]
  exact r.take _
theorem mop_pop : MOp K "list" rPop mPop := fun B n g H σ δ i v s us ds P Q S hi hv z r q k => by
  cases s with
  | ol xs =>
    cases r with
    | cons _ _ => exact q.elim
    | nil =>
      obtain ⟨a, vs, e1, e2, e3, rv⟩ := z
      cases e1
      obtain ⟨d, ed, q⟩ := q
      obtain ⟨u, eu, ru⟩ := rv.get ed
      obtain ⟨S', st⟩ := S.write (s := .ol xs.dropLast) (o' := .lst vs.dropLast) e2 hi e3 trivial trivial ⟨a, _, hv, e2, upd_same, rv.dropLast⟩
      exact ⟨a, vs, u, rfl, rfl, e3, by rw [rv.length]; exact eu, k _ _ g _ _ q st S' ru⟩
  | _ => cases r <;> exact q.elim
def mPopAt : Sl → List D → (Sl → D → Prop) → Prop := fun s ds P => match s, ds with
  | .ol xs, [.int i] => (-(2 ^ 63) ≤ i ∧ i < 2 ^ 63) ∧ ∃ k d, seqIndex? i xs.length = some k ∧ xs[k]? = some d ∧ P (.ol (xs.eraseIdx k)) d
  | _, _ => False
theorem Dens.eraseIdx {W : DW} {F : Hp} : ∀ {vs : List V} {ds : List D} (k : Nat), Dens K W F vs ds → Dens K W F (vs.eraseIdx k) (ds.eraseIdx k)
  | _, _, _, .nil => .nil
  | _, _, 0, .cons r t => t
  | _, _, k + 1, .cons r t => .cons r (Dens.eraseIdx k t)
theorem mop_popAt : MOp K "list" rPopAt mPopAt := fun B n g H σ δ i v s us ds P Q S hi hv z r q k => by
  cases s with
  | ol xs =>
    cases r with
    | nil => exact q.elim
    | cons r1 r2 =>
      cases r2 with
      | cons _ _ => cases r1 <;> exact q.elim
      | nil =>
        cases r1 with
        | int j =>
          obtain ⟨a, vs, e1, e2, e3, rv⟩ := z
          cases e1
          obtain ⟨⟨b1, b2⟩, kk, d, ek, ed, q⟩ := q
          obtain ⟨u, eu, ru⟩ := rv.get ed
          obtain ⟨S', st⟩ := S.write (s := .ol (xs.eraseIdx kk)) (o' := .lst (vs.eraseIdx kk)) e2 hi e3 trivial trivial ⟨a, _, hv, e2, upd_same, rv.eraseIdx kk⟩
          exact ⟨a, vs, j, kk, u, rfl, rfl, e3, b1, b2, by rw [rv.length]; exact ek, eu, k _ _ g _ _ q st S' ru⟩
        | _ => exact q.elim
  | _ => cases r <;> exact q.elim
/-- x[k] = v where slot i owns the list x -/
def dSetIx (i : Nat) (tv tk : TDX) : TDS := fun rx DE δ => tv rx δ fun d δ1 => tk rx δ1 fun ix δ2 => match ix, δ2[i]? with
  | .int k, some (some (.ol xs)) => ∃ j, ixN xs.length k = some j ∧ DE.nx (δ2.set i (some (.ol (xs.set j d))))
  | _, _ => False
end
end DL

namespace DL
open PySem PySem.Spec L2
open PyProof.Rows hiding St
/-! ### operators -/
section
variable {K : PySem.W.Frag} {B : Base} {g gp : Gs} {H : Hp} {σ : L2.St} {δ : Env} {n : Nat} {X : Cx} {e a b : Expr} {ta tb : TDX} {pos : Pos}
def LiftF2 (K : PySem.W.Frag) (r : R2) (rD : D → D → (Sl → Prop) → Prop) : Prop := ∀ (B : Base) (n : Nat) (g0 : Gs) (H0 : Hp) (δ0 : Env) (g : Gs) (H : Hp) (σ : L2.St) (δ : Env) (x y : V) (d1 d2 : D) (P : Sl → Prop) (Q : VK), Stt K B g0 H0 σ δ0 → Step n g0 H0 g H → Stt K B g H σ δ →
  Den K g.W g.F x d1 → Den K g.W g.F y d2 → rD d1 d2 P → (∀ s g' H' v, P s → Step n g0 H0 g' H' → Stt K B g' H' σ δ → ItOk K n g0 g' H' v s → Q v H') → r x y H Q
def f2 (rD : D → D → (Sl → Prop) → Prop) (ta tb : TDX) : TDF := fun rx δ P => ta rx δ fun x δ1 => tb rx δ1 fun y δ2 => rD x y fun z => P z δ2
theorem df_op {op : Operator} {r : R2} {rD : D → D → (Sl → Prop) → Prop} (ho : OpR X (binaryOp op) r) (L : LiftF2 X.K r rD) (ha : DE X B a ta) (hb : DE X B b tb) : DF X B (.BinOp a op b pos) (f2 rD ta tb) :=
  ⟨fun rx tk => PE.imp (pe_op ho (ha.run rx tk) (hb.run rx tk)) fun σ H Q hl ⟨g, δ, P, S, q, k⟩ => ⟨g, δ, _, S, q, fun d1 δ1 g1 H1 v1 h1 st1 S1 D1 => ⟨g1, δ1, _, S1, h1, fun d2 δ2 g2 H2 v2 h2 st2 S2 D2 =>
    L B _ g H δ g2 H2 σ δ2 v1 v2 d1 d2 _ Q S (st1.trans st2) S2 (D1.step st2) D2 h2 fun s g' H' v hp st S' it => k s δ2 g' H' v hp st S' it⟩⟩⟩
/-- a + b -/
def addF (x y : D) (P : Sl → Prop) : Prop := match x, y with
  | .int i, .int j => P (.sh (.int (i + j)))
  | .str u, .str v => u.length + v.length ≤ sizeLine ∧ P (.sh (.str (u ++ v)))
  | .lst xs, .lst ys => xs.length + ys.length ≤ sizeLine ∧ P (.ol (xs ++ ys))
  | .tup xs, .tup ys => xs.length + ys.length ≤ sizeLine ∧ P (.sh (.tup (xs ++ ys)))
  | _, _ => False
def rAddA (K : PySem.W.Frag) : R2 := fun x y H Q => rI0 (fun i j => .int (i + j)) x y H Q ∨ (∃ i j, x = .str i ∧ y = .str j ∧ i.length + j.length ≤ sizeLine ∧ Q (.str (i ++ j)) H) ∨ rCat x y H Q ∨ rCatA K x y H Q
theorem op_addA : OpR X (binaryOp .Add) (rAddA X.K) := op_add.or (op_add_str.or (op_cat.or op_catA))
theorem nil_of {W : DW} {F : Hp} {vs : List V} {ds : List D} (r : Dens K W F vs ds) : vs = [] ↔ ds = [] := by
  cases r <;> simp
theorem lf_add : LiftF2 K (rAddA K) addF := fun B n g0 H0 δ0 g H σ δ x y d1 d2 P Q S0 st S r1 r2 q k => by
  cases r1 with
  | int i =>
    cases r2 with
    | int j => exact .inl ⟨i, j, rfl, rfl, k _ g H _ q st S (.int _)⟩
    | _ => exact q.elim
  | str u =>
    cases r2 with
    | str v => exact .inr (.inl ⟨u, v, rfl, rfl, q.1, k _ g H _ q.2 st S (.str _)⟩)
    | _ => exact q.elim
  | @lst a xs ds h rs =>
    cases r2 with
    | @lst b ys es h2 rs2 =>
      refine .inr (.inr (.inl ⟨a, b, xs, ys, rfl, rfl, S.ret.sub _ _ h, S.ret.sub _ _ h2, by rw [rs.length, rs2.length]; exact q.1, fun p hp => ?_⟩))
      obtain ⟨g2, st2, S2, it⟩ := S.newL st S0 hp (rs.append rs2)
      exact k _ g2 _ _ q.2 st2 S2 it
    | _ => exact q.elim
  | @tup a xs ds h rs =>
    cases r2 with
    | @tup b ys es h2 rs2 =>
      refine .inr (.inr (.inr ⟨a, b, xs, ys, rfl, rfl, SqT.up S.ret.sub h, SqT.up S.ret.sub h2, by rw [rs.length, rs2.length]; exact q.1, fun e => ?_, fun e1 e2 => ?_, fun e1 e2 p hp => ?_⟩))
      · subst e
        cases rs
        exact k _ g H _ q.2 st S (.tup h2 rs2)
      · subst e2
        cases rs2
        refine k _ g H _ q.2 st S (.tup h ?_)
        rw [List.append_nil]; exact rs
      · obtain ⟨S2, st2⟩ := S.alloc (n := n) (o := .tup (xs ++ ys)) hp
        exact k _ _ _ _ q.2 (st.trans st2) S2 (.tup (.inl (.inl upd_same)) ((rs.append rs2).step st2))
    | _ => exact q.elim
  | _ => cases r2 <;> exact q.elim
theorem df_add (ha : DE X B a ta) (hb : DE X B b tb) : DF X B (.BinOp a .Add b pos) (f2 addF ta tb) := df_op op_addA lf_add ha hb
/-- a * b -/
def mulF (x y : D) (P : Sl → Prop) : Prop := match x, y with
  | .int i, .int j => CMul i j ∧ P (.sh (.int (i * j)))
  | .lst xs, .int k => (-(2 ^ 63) ≤ k ∧ k < 2 ^ 63 ∧ xs.length * k.toNat ≤ sizeLine) ∧ P (.ol (List.replicate k.toNat xs).flatten)
  | _, _ => False
theorem Dens.flat {W : DW} {F : Hp} {vs : List V} {ds : List D} (r : Dens K W F vs ds) : ∀ m : Nat, Dens K W F (List.replicate m vs).flatten (List.replicate m ds).flatten
  | 0 => .nil
  | m + 1 => by
    rw [List.replicate_succ, List.replicate_succ, List.flatten_cons, List.flatten_cons]
    exact r.append (Dens.flat r m)
theorem lf_mul : LiftF2 K (fun x y H Q => rI CMul (fun i j => .int (i * j)) x y H Q ∨ rRep x y H Q) mulF := fun B n g0 H0 δ0 g H σ δ x y d1 d2 P Q S0 st S r1 r2 q k => by
  cases r1 with
  | int i =>
    cases r2 with
    | int j => exact .inl ⟨i, j, rfl, rfl, q.1, k _ g H _ q.2 st S (.int _)⟩
    | _ => exact q.elim
  | @lst a xs ds h rs =>
    cases r2 with
    | int j =>
      obtain ⟨⟨b1, b2, b3⟩, q⟩ := q
      refine .inr ⟨a, j, xs, rfl, rfl, S.ret.sub _ _ h, b1, b2, by rw [rs.length]; exact b3, fun p hp => ?_⟩
      obtain ⟨g2, st2, S2, it⟩ := S.newL st S0 hp (rs.flat j.toNat)
      exact k _ g2 _ _ q st2 S2 it
    | _ => exact q.elim
  | _ => cases r2 <;> exact q.elim
theorem df_mul (ha : DE X B a ta) (hb : DE X B b tb) : DF X B (.BinOp a .Mult b pos) (f2 mulF ta tb) := df_op (op_mul.or op_rep) lf_mul ha hb
/-! ints in, a scalar out -/
def i2 (C : Int → Int → Prop) (f : Int → Int → D) (x y : D) (P : D → Prop) : Prop := match x, y with
  | .int i, .int j => C i j ∧ P (f i j)
  | _, _ => False
theorem l_i2 {C : Int → Int → Prop} {f : Int → Int → V} {fD : Int → Int → D} (h : ∀ i j W F, Den K W F (f i j) (fD i j)) : Lift2 K (rI C f) (i2 C fD) := fun B n g H σ δ x y d1 d2 P Q S r1 r2 q k => by
  cases r1 with
  | int i =>
    cases r2 with
    | int j => exact ⟨i, j, rfl, rfl, q.1, k _ g H _ q.2 (Step.refl _ _ _) S (h i j _ _)⟩
    | _ => exact q.elim
  | _ => cases r2 <;> exact q.elim
def i20 (f : Int → Int → D) (x y : D) (P : D → Prop) : Prop := match x, y with
  | .int i, .int j => P (f i j)
  | _, _ => False
theorem l_i20 {f : Int → Int → V} {fD : Int → Int → D} (h : ∀ i j W F, Den K W F (f i j) (fD i j)) : Lift2 K (rI0 f) (i20 fD) := fun B n g H σ δ x y d1 d2 P Q S r1 r2 q k => by
  cases r1 with
  | int i =>
    cases r2 with
    | int j => exact ⟨i, j, rfl, rfl, k _ g H _ q (Step.refl _ _ _) S (h i j _ _)⟩
    | _ => exact q.elim
  | _ => cases r2 <;> exact q.elim
def subD := i20 fun i j => .int (i - j)
def modD := i2 (fun _ j => 0 < j) fun i j => .int (i % j)
def fdivD := i2 CDiv fun i j => .int (i / j)
def powD := i2 CPow fun i j => .int (i ^ j.toNat)
def ltD := i20 fun i j => .bl (decide (i < j))
def leD := i20 fun i j => .bl (decide (i ≤ j))
def gtD := i20 fun i j => .bl (decide (j < i))
def geD := i20 fun i j => .bl (decide (j ≤ i))
theorem de_sub (ha : DE X B a ta) (hb : DE X B b tb) : DE X B (.BinOp a .Sub b pos) (d2 subD ta tb) := de_op op_sub (l_i20 fun _ _ _ _ => .int _) ha hb
theorem de_mod (ha : DE X B a ta) (hb : DE X B b tb) : DE X B (.BinOp a .Mod b pos) (d2 modD ta tb) := de_op op_mod (l_i2 fun _ _ _ _ => .int _) ha hb
theorem de_fdiv (ha : DE X B a ta) (hb : DE X B b tb) : DE X B (.BinOp a .FloorDiv b pos) (d2 fdivD ta tb) := de_op op_fdiv (l_i2 fun _ _ _ _ => .int _) ha hb
theorem de_pow (ha : DE X B a ta) (hb : DE X B b tb) : DE X B (.BinOp a .Pow b pos) (d2 powD ta tb) := de_op op_pow (l_i2 fun _ _ _ _ => .int _) ha hb
theorem l_lt : Lift2 K (rI0 fun i j => .bl (decide (i < j))) ltD := l_i20 fun _ _ _ _ => .bl _
theorem l_le : Lift2 K (rI0 fun i j => .bl (decide (i ≤ j))) leD := l_i20 fun _ _ _ _ => .bl _
theorem l_gt : Lift2 K (rI0 fun i j => .bl (decide (j < i))) gtD := l_i20 fun _ _ _ _ => .bl _
theorem l_ge : Lift2 K (rI0 fun i j => .bl (decide (j ≤ i))) geD := l_i20 fun _ _ _ _ => .bl _
def negD (x : D) (P : D → Prop) : Prop := match x with
  | .int i => P (.int (-i))
  | _ => False
theorem l_neg : Lift1 K (rU fun i => .int (-i)) negD := fun B n g H σ δ x d1 P Q S r1 q k => by
  cases r1 with
  | int i => exact ⟨i, rfl, k _ g H _ q (Step.refl _ _ _) S (.int _)⟩
  | _ => exact q.elim
theorem de_neg (ha : DE X B a ta) : DE X B (.UnaryOp .USub a pos) (d1 negD ta) := de_un un_neg l_neg ha
/-! ### data compared -/
mutual
def toPD : D → Option PyData
  | .non => some .none
  | .bl b => some (.bool b)
  | .int i => some (.int i)
  | .str x => some (.str x)
  | .lst xs => (toPDs xs).map .list
  | .kls xs => (toPDs xs).map .list
  | .tup xs => (toPDs xs).map .tuple
  | _ => none
def toPDs : List D → Option (List PyData)
  | [] => some []
  | d :: ds => match toPD d, toPDs ds with
    | some p, some ps => some (p :: ps)
    | _, _ => none
end
mutual
theorem Den.dp {W : DW} {F H : Hp} (u : Up F H) : ∀ {v : V} {d : D} {p : PyData}, Den K W F v d → toPD d = some p → Dp K H v p
  | _, _, _, .non, e => by cases e; exact .non
  | _, _, _, .bl b, e => by cases e; exact .bl b
  | _, _, _, .int i, e => by cases e; exact .int i
  | _, _, _, .str x, e => by cases e; exact .str x
  | _, _, _, .lst (ds := ds) h r, e => by
    unfold toPD at e
    cases q : toPDs ds with
    | none => rw [q] at e; cases e
    | some ps =>
      rw [q] at e
      cases e
      exact .lst (SqL.of (u _ _ h)) (Dens.dp u r q)
  | _, _, _, .kls (ds := ds) h r, e => by
    unfold toPD at e
    cases q : toPDs ds with
    | none => rw [q] at e; cases e
    | some ps =>
      rw [q] at e
      cases e
      exact .lst (SqL.up u h) (Dens.dp u r q)
  | _, _, _, .tup (ds := ds) h r, e => by
    unfold toPD at e
    cases q : toPDs ds with
    | none => rw [q] at e; cases e
    | some ps =>
      rw [q] at e
      cases e
      exact .tup (SqT.up u h) (Dens.dp u r q)
  | _, _, _, .ty n, e => by cases e
  | _, _, _, .glo x, e => by cases e
  | _, _, _, .dct _ _ _, e => by cases e
  | _, _, _, .ob _ _ _, e => by cases e
  | _, _, _, .exc0 _, e => by cases e
  | _, _, _, .exc1 _ _ _ _, e => by cases e
  | _, _, _, .drw _, e => by cases e
  | _, _, _, .adr _, e => by cases e
theorem Dens.dp {W : DW} {F H : Hp} (u : Up F H) : ∀ {vs : List V} {ds : List D} {ps : List PyData}, Dens K W F vs ds → toPDs ds = some ps → DpAll K H vs ps
  | _, _, _, .nil, e => by cases e; exact .nil
  | _, _, _, .cons (d := d) (ds := ds) r t, e => by
    unfold toPDs at e
    cases q : toPD d with
    | none => rw [q] at e; cases e
    | some p =>
      cases q2 : toPDs ds with
      | none => rw [q, q2] at e; cases e
      | some ps =>
        rw [q, q2] at e
        cases e
        exact .cons (Den.dp u r q) (Dens.dp u t q2)
end
/-- a == b of data -/
def eqD (x y : D) (P : D → Prop) : Prop := ∃ p q, toPD x = some p ∧ toPD y = some q ∧ SeqAt.shaped p = true ∧ SeqAt.shaped q = true ∧ P (.bl (PyData.eqv p q))
def neD (x y : D) (P : D → Prop) : Prop := ∃ p q, toPD x = some p ∧ toPD y = some q ∧ SeqAt.shaped p = true ∧ SeqAt.shaped q = true ∧ P (.bl (!PyData.eqv p q))
theorem l_eq : Lift2 K (rEqD K) eqD := fun B n g H σ δ x y d1 d2 P Q S r1 r2 ⟨p, q, e1, e2, h1, h2, hp⟩ k => ⟨p, q, r1.dp S.ret.sub e1, r2.dp S.ret.sub e2, h1, h2, k _ g H _ hp (Step.refl _ _ _) S (.bl _)⟩
theorem l_ne : Lift2 K (rNeD K) neD := fun B n g H σ δ x y d1 d2 P Q S r1 r2 ⟨p, q, e1, e2, h1, h2, hp⟩ k => ⟨p, q, r1.dp S.ret.sub e1, r2.dp S.ret.sub e2, h1, h2, k _ g H _ hp (Step.refl _ _ _) S (.bl _)⟩
/-- is None, is not None -/
def isN (x : D) : Bool := match x with
  | .non => true
  | _ => false
def isD (x y : D) (P : D → Prop) : Prop := match y with
  | .non => P (.bl (isN x))
  | _ => False
def isnD (x y : D) (P : D → Prop) : Prop := match y with
  | .non => P (.bl (!isN x))
  | _ => False
theorem den_non {W : DW} {F : Hp} {v : V} {d : D} (r : Den K W F v d) : decide (v = .non) = isN d := by cases r <;> simp [isN]
theorem l_is : Lift2 K (fun x y H Q => y = .non ∧ Q (.bl (decide (x = .non))) H) isD := fun B n g H σ δ x y d1 d2 P Q S r1 r2 q k => by
  cases r2 with
  | non => exact ⟨rfl, by rw [den_non r1]; exact k _ g H _ q (Step.refl _ _ _) S (.bl _)⟩
  | _ => exact q.elim
theorem l_isn : Lift2 K (fun x y H Q => y = .non ∧ Q (.bl (!decide (x = .non))) H) isnD := fun B n g H σ δ x y d1 d2 P Q S r1 r2 q k => by
  cases r2 with
  | non => exact ⟨rfl, by rw [den_non r1]; exact k _ g H _ q (Step.refl _ _ _) S (.bl _)⟩
  | _ => exact q.elim
/-! ### in -/
def keyD : D → Option Key
  | .int i => some (.inl i)
  | .str x => some (.inr x)
  | _ => none
theorem Den.key {W : DW} {F : Hp} {v : V} {d : D} {k : Key} (r : Den K W F v d) (e : keyD d = some k) : v = kV k := by
  cases r <;> cases e <;> rfl
def valD (kvs : List (Key × D)) (k : Key) : Option D := (kvs.find? fun kv => decide (kv.1 = k)).map (·.2)
theorem valD_rel {W : DW} {F : Hp} {k : Key} : ∀ {ks : List (Key × V)} {kvs : List (Key × D)}, ks.map (·.1) = kvs.map (·.1) → Dens K W F (ks.map (·.2)) (kvs.map (·.2)) →
    (valV ks k = none ∧ valD kvs k = none) ∨ ∃ v d, valV ks k = some v ∧ valD kvs k = some d ∧ Den K W F v d
  | [], [], _, _ => .inl ⟨rfl, rfl⟩
  | [], _ :: _, e, _ => by cases e
  | _ :: _, [], e, _ => by cases e
  | (k1, v1) :: ks, (k2, d2) :: kvs, e, r => by
    simp only [List.map_cons, List.cons.injEq] at e r
    obtain ⟨e1, e2⟩ := e
    cases r with
    | cons r1 r2 =>
      subst e1
      by_cases h : k1 = k
      · exact .inr ⟨v1, d2, by simp [valV, h], by simp [valD, h], r1⟩
      · rcases valD_rel (k := k) e2 r2 with ⟨h1, h2⟩ | ⟨v, d, h1, h2, r3⟩
        · refine .inl ⟨?_, ?_⟩
          · rw [← h1]; simp [valV, h]
          · rw [← h2]; simp [valD, h]
        · refine .inr ⟨v, d, ?_, ?_, r3⟩
          · rw [← h1]; simp [valV, h]
          · rw [← h2]; simp [valD, h]
def inB (f : Bool → Bool) (x y : D) (P : D → Prop) : Prop := match y with
  | .dct kvs => ∃ k, keyD x = some k ∧ P (.bl (f (valD kvs k).isSome))
  | .lst ds => ∃ p ps, toPD x = some p ∧ toPDs ds = some ps ∧ SeqAt.shaped p = true ∧ SeqAt.shaped (.list ps) = true ∧ P (.bl (f (ps.any fun z => PyData.eqv z p)))
  | .kls ds => ∃ p ps, toPD x = some p ∧ toPDs ds = some ps ∧ SeqAt.shaped p = true ∧ SeqAt.shaped (.list ps) = true ∧ P (.bl (f (ps.any fun z => PyData.eqv z p)))
  | _ => False
theorem op_inK (hu : X.A.units + 1 < cLine) : OpR X (compareOp .In) (fun y x H Q => ∃ a ov, x = .ref a ∧ DGet H a y ov ∧ Q (.bl ov.isSome) H) := by
  intro pins s σ H y x u v Q I ry rx h
  obtain ⟨a, ov, rfl, gg, q⟩ := h
  cases rx
  exact d_in hu I gg ry fun s3 I3 => ⟨.bl ov.isSome, H, I3, rfl, q⟩
theorem op_notInK (hu : X.A.units + 1 < cLine) : OpR X (compareOp .NotIn) (fun y x H Q => ∃ a ov, x = .ref a ∧ DGet H a y ov ∧ Q (.bl (!ov.isSome)) H) := by
  intro pins s σ H y x u v Q I ry rx h
  obtain ⟨a, ov, rfl, gg, q⟩ := h
  cases rx
  exact d_notIn hu I gg ry fun s3 I3 => ⟨.bl (!ov.isSome), H, I3, rfl, q⟩
theorem l_in : Lift2 K (fun x y H Q => (∃ a ov, y = .ref a ∧ DGet H a x ov ∧ Q (.bl ov.isSome) H) ∨ rInD K x y H Q) (inB fun b => b) := fun B n g H σ δ x y d1 d2 P Q S r1 r2 q k => by
  cases r2 with
  | @dct a ks kvs h hk rs =>
    obtain ⟨key, ek, q⟩ := q
    refine .inl ⟨a, valV ks key, rfl, .inl ⟨ks, key, .inl (S.ret.sub _ _ h), r1.key ek, rfl⟩, k _ g H _ q (Step.refl _ _ _) S ?_⟩
    rcases valD_rel (k := key) hk rs with ⟨h1, h2⟩ | ⟨v, d, h1, h2, _⟩
    · rw [h1, h2]; exact .bl _
    · rw [h1, h2]; exact .bl _
  | @lst a xs ds h rs =>
    obtain ⟨p, ps, e1, e2, h1, h2, q⟩ := q
    refine .inr ⟨p, ps, r1.dp S.ret.sub e1, .lst (SqL.of (S.ret.sub _ _ h)) (rs.dp S.ret.sub e2), h1, h2, k _ g H _ q (Step.refl _ _ _) S ?_⟩
    exact .bl _
  | @kls a xs ds h rs =>
    obtain ⟨p, ps, e1, e2, h1, h2, q⟩ := q
    refine .inr ⟨p, ps, r1.dp S.ret.sub e1, .lst (SqL.up S.ret.sub h) (rs.dp S.ret.sub e2), h1, h2, k _ g H _ q (Step.refl _ _ _) S ?_⟩
    exact .bl _
  | _ => exact q.elim
theorem l_notIn : Lift2 K (fun x y H Q => (∃ a ov, y = .ref a ∧ DGet H a x ov ∧ Q (.bl (!ov.isSome)) H) ∨ rNotInD K x y H Q) (inB not) := fun B n g H σ δ x y d1 d2 P Q S r1 r2 q k => by
  cases r2 with
  | @dct a ks kvs h hk rs =>
    obtain ⟨key, ek, q⟩ := q
    refine .inl ⟨a, valV ks key, rfl, .inl ⟨ks, key, .inl (S.ret.sub _ _ h), r1.key ek, rfl⟩, k _ g H _ q (Step.refl _ _ _) S ?_⟩
    rcases valD_rel (k := key) hk rs with ⟨h1, h2⟩ | ⟨v, d, h1, h2, _⟩
    · rw [h1, h2]; exact .bl _
    · rw [h1, h2]; exact .bl _
  | @lst a xs ds h rs =>
    obtain ⟨p, ps, e1, e2, h1, h2, q⟩ := q
    refine .inr ⟨p, ps, r1.dp S.ret.sub e1, .lst (SqL.of (S.ret.sub _ _ h)) (rs.dp S.ret.sub e2), h1, h2, k _ g H _ q (Step.refl _ _ _) S ?_⟩
    exact .bl _
  | @kls a xs ds h rs =>
    obtain ⟨p, ps, e1, e2, h1, h2, q⟩ := q
    refine .inr ⟨p, ps, r1.dp S.ret.sub e1, .lst (SqL.up S.ret.sub h) (rs.dp S.ret.sub e2), h1, h2, k _ g H _ q (Step.refl _ _ _) S ?_⟩
    exact .bl _
  | _ => exact q.elim
theorem op_inA (hu : X.A.units + 65 < cLine) : OpR X (compareOp .In) (fun x y H Q => (∃ a ov, y = .ref a ∧ DGet H a x ov ∧ Q (.bl ov.isSome) H) ∨ rInD X.K x y H Q) := (op_inK (by omega)).or (op_inD hu)
theorem op_notInA (hu : X.A.units + 65 < cLine) : OpR X (compareOp .NotIn) (fun x y H Q => (∃ a ov, y = .ref a ∧ DGet H a x ov ∧ Q (.bl (!ov.isSome)) H) ∨ rNotInD X.K x y H Q) := (op_notInK (by omega)).or (op_notInD hu)
theorem Rm.u64 {k : Nat} {A : Around} (r : Rm k A) : A.units + 64 < cLine := r.room.units
theorem Rm.u65 {k : Nat} {A : Around} (r : Rm k A) : A.units + 65 < cLine := by have := r.room.un; omega
theorem Rm.u1 {k : Nat} {A : Around} (r : Rm k A) : A.units + 1 < cLine := by have := r.room.un; omega
/-! ### items -/
def ixD (x y : D) (P : D → Prop) : Prop := match x, y with
  | .lst xs, .int i => ∃ d, atI xs i = some d ∧ P d
  | .kls xs, .int i => ∃ d, atI xs i = some d ∧ P d
  | .tup xs, .int i => ∃ d, atI xs i = some d ∧ P d
  | .str z, .int i => ∃ c, z.length ≤ sizeLine ∧ atI z.cps.toList i = some c ∧ P (.str ⟨#[c]⟩)
  | .dct kvs, k => ∃ key d, keyD k = some key ∧ valD kvs key = some d ∧ P d
  | _, _ => False
theorem atI_rel {W : DW} {F : Hp} {vs : List V} {ds : List D} {i : Int} {d : D} (r : Dens K W F vs ds) (h : atI ds i = some d) : ∃ v, atI vs i = some v ∧ Den K W F v d := by
  obtain ⟨j, h1, h2, h3, h4, h5⟩ := atI_get h
  obtain ⟨v, e, r1⟩ := r.get h2
  refine ⟨v, ?_, r1⟩
  unfold atI at h ⊢
  rw [r.length]
  cases q : ixN ds.length i with
  | none => rw [q] at h; cases h
  | some j' =>
    have := (ixN_seq q).1
    rw [h1] at this
    cases this
    exact e
theorem ix_dict (hu : X.A.units + 1 < cLine) : IxR X (fun x y H Q => ∃ a v, x = .ref a ∧ DGet H a y (some v) ∧ Q v H) := by
  intro value slice pins s σ H x y v u Q I rx ry h hs
  obtain ⟨a, w', rfl, gg, q⟩ := h
  cases rx
  exact tail_any (dict_typeIs I gg) PySem.F.slot_dict_getitem.lookup (d_getItem hu I gg ry fun r s' I' rr => ⟨w', H, I', rr, q⟩) hs
def rIxAll (K : PySem.W.Frag) : R2 := fun x y H Q => (∃ a v, x = .ref a ∧ DGet H a y (some v) ∧ Q v H) ∨ rIx K x y H Q
theorem ix_all (hu : X.A.units + 1 < cLine) : IxR X (rIxAll X.K) := (ix_dict hu).or ix_seq
theorem l_ix : Lift2 K (rIxAll K) ixD := fun B n g H σ δ x y d1 d2 P Q S r1 r2 q k => by
  cases r1 with
  | @lst a xs ds h rs =>
    cases r2 with
    | int i =>
      obtain ⟨d, e, q⟩ := q
      obtain ⟨v, ev, rv⟩ := atI_rel rs e
      exact .inr (.inl ⟨a, xs, i, v, rfl, rfl, SqL.of (S.ret.sub _ _ h), ev, k _ g H _ q (Step.refl _ _ _) S rv⟩)
    | _ => exact q.elim
  | @kls a xs ds h rs =>
    cases r2 with
    | int i =>
      obtain ⟨d, e, q⟩ := q
      obtain ⟨v, ev, rv⟩ := atI_rel rs e
      exact .inr (.inl ⟨a, xs, i, v, rfl, rfl, SqL.up S.ret.sub h, ev, k _ g H _ q (Step.refl _ _ _) S rv⟩)
    | _ => exact q.elim
  | @tup a xs ds h rs =>
    cases r2 with
    | int i =>
      obtain ⟨d, e, q⟩ := q
      obtain ⟨v, ev, rv⟩ := atI_rel rs e
      exact .inr (.inr (.inl ⟨a, xs, i, v, rfl, rfl, SqT.up S.ret.sub h, ev, k _ g H _ q (Step.refl _ _ _) S rv⟩))
    | _ => exact q.elim
  | str z =>
    cases r2 with
    | int i =>
      obtain ⟨c, hz, e, q⟩ := q
      exact .inr (.inr (.inr ⟨z, i, c, rfl, rfl, hz, e, k _ g H _ q (Step.refl _ _ _) S (.str _)⟩))
    | _ => exact q.elim
  | @dct a ks kvs h hk rs =>
    have q : ∃ key d, keyD d2 = some key ∧ valD kvs key = some d ∧ P d := by
      cases r2 <;> exact q
    obtain ⟨key, d, ek, ed, q⟩ := q
    rcases valD_rel (k := key) hk rs with ⟨h1, h2⟩ | ⟨v, d', h1, h2, rv⟩
    · rw [h2] at ed; cases ed
    · rw [h2] at ed
      cases ed
      exact .inl ⟨a, v, rfl, .inl ⟨ks, key, .inl (S.ret.sub _ _ h), r2.key ek, h1.symm⟩, k _ g H _ q (Step.refl _ _ _) S rv⟩
  | _ => cases r2 <;> exact q.elim
/-! ### built-ins -/
theorem lc_1 {r : V → Hp → VK → Prop} {rD : D → (D → Prop) → Prop} (h : ∀ (B : Base) (n : Nat) (g : Gs) (H : Hp) (σ : L2.St) (δ : Env) (x : V) (d : D) (P : D → Prop) (Q : VK), Stt K B g H σ δ → Den K g.W g.F x d → rD d P → (∀ d g' H' v, P d → Step n g H g' H' → Stt K B g' H' σ δ → Den K g'.W g'.F v d → Q v H') → r x H Q) :
    LiftC K (fun xs H Q => ∃ x, xs = [x] ∧ r x H Q) (fun ds P => match ds with
      | [d] => rD d P
      | _ => False) := fun B n g H σ δ xs ds P Q S rs q k => by
  cases rs with
  | nil => exact q.elim
  | cons r1 r2 =>
    cases r2 with
    | nil => exact ⟨_, rfl, h B n g H σ δ _ _ P Q S r1 q k⟩
    | cons _ _ => exact q.elim
def lenD (ds : List D) (P : D → Prop) : Prop := match ds with
  | [.lst xs] => P (.int xs.length)
  | [.kls xs] => P (.int xs.length)
  | [.tup xs] => P (.int xs.length)
  | [.dct xs] => P (.int xs.length)
  | [.str z] => z.length ≤ sizeLine ∧ P (.int z.length)
  | _ => False
def rLenA (K : PySem.W.Frag) : List V → Hp → VK → Prop := fun xs H Q => (∃ x n, xs = [x] ∧ LenV K x H n ∧ Q (.int n) H) ∨ ∃ a kvs, xs = [V.ref a] ∧ H a = some (.dK kvs) ∧ Q (.int kvs.length) H
theorem CallR.or {f : Value} {r r' : List V → Hp → VK → Prop} (h : CallR X f r) (h' : CallR X f r') : CallR X f (fun xs H Q => r xs H Q ∨ r' xs H Q) := by
  intro pins s σ H xs us Q I rx q
  rcases q with q | q
  · exact h pins s σ H xs us Q I rx q
  · exact h' pins s σ H xs us Q I rx q
theorem call_lenA : CallR X (.builtin "len") (rLenA X.K) := CallR.or call_len call_lenD
end
end DL

namespace DL
open PySem PySem.Spec L2
open PyProof.Rows hiding St
section
variable {K : PySem.W.Frag} {B : Base} {g gp : Gs} {H : Hp} {σ : L2.St} {δ : Env} {n : Nat} {X : Cx} {e a b : Expr} {ta tb : TDX} {pos : Pos}
/-! ### calls of built-ins, the argument list known by its data -/
theorem lc_len : LiftC K (rLenA K) lenD := fun B n g H σ δ xs ds P Q S rs q k => by
  cases rs with
  | nil => exact q.elim
  | cons r1 r2 =>
    cases r2 with
    | cons _ _ => cases r1 <;> exact q.elim
    | nil =>
      cases r1 with
      | @lst a vs ds h rs => exact .inl ⟨_, vs.length, rfl, .inl ⟨vs, SqL.of (S.ret.sub _ _ h), rfl⟩, by rw [rs.length]; exact k _ g H _ q (Step.refl _ _ _) S (.int _)⟩
      | @kls a vs ds h rs => exact .inl ⟨_, vs.length, rfl, .inl ⟨vs, SqL.up S.ret.sub h, rfl⟩, by rw [rs.length]; exact k _ g H _ q (Step.refl _ _ _) S (.int _)⟩
      | @tup a vs ds h rs => exact .inl ⟨_, vs.length, rfl, .inr ⟨vs, SqT.up S.ret.sub h, rfl⟩, by rw [rs.length]; exact k _ g H _ q (Step.refl _ _ _) S (.int _)⟩
      | @dct a ks kvs h hk rs =>
        refine .inr ⟨a, ks, rfl, S.ret.sub _ _ h, ?_⟩
        have hl : ks.length = kvs.length := by have := congrArg List.length hk; simpa using this
        rw [hl]; exact k _ g H _ q (Step.refl _ _ _) S (.int _)
      | str z => exact .inl ⟨_, z.length, rfl, ⟨q.1, rfl⟩, k _ g H _ q.2 (Step.refl _ _ _) S (.int _)⟩
      | _ => exact q.elim
/-- new things handed back by built-ins -/
def LiftFC (K : PySem.W.Frag) (r : List V → Hp → VK → Prop) (rD : List D → (Sl → Prop) → Prop) : Prop := ∀ (B : Base) (n : Nat) (g0 : Gs) (H0 : Hp) (δ0 : Env) (g : Gs) (H : Hp) (σ : L2.St) (δ : Env) (xs : List V) (ds : List D) (P : Sl → Prop) (Q : VK), Stt K B g0 H0 σ δ0 → Step n g0 H0 g H → Stt K B g H σ δ →
  Dens K g.W g.F xs ds → rD ds P → (∀ s g' H' v, P s → Step n g0 H0 g' H' → Stt K B g' H' σ δ → ItOk K n g0 g' H' v s → Q v H') → r xs H Q
def fCB (rD : List D → (Sl → Prop) → Prop) (t : TDA) : TDF := fun rx δ P => t rx δ fun ds δ1 => rD ds fun d => P d δ1
variable {x : Str} {p : Pos} {id T : String} {r : List V → Hp → VK → Prop} {rD : List D → (Sl → Prop) → Prop} {t : TDA} {es : List Expr}
theorem lift_fcb (L : LiftFC K r rD) {rx : D → Prop} {Q : VK} (h : liftF K B n (fCB rD t rx) σ H Q) : tCB r (liftA K B n (t rx)) σ H Q := by
  obtain ⟨g, δ, P, S, q, k⟩ := h
  exact ⟨g, δ, _, S, q, fun ds δ1 g1 H1 vs h1 st1 S1 D1 => L B n g H δ g1 H1 σ δ1 vs ds _ Q S st1 S1 D1 h1 fun d g' H' v hp st S' it => k d δ1 g' H' v hp st S' it⟩
theorem df_callTy (hc : CallR X (.type T) r) (L : LiftFC X.K r rD) (hg : Gl X x) (hm : X.mg x = none) (hv : bootBuiltins x = some (.type T)) (ha : DA X B (e :: es) t) (hn : x ≠ "__name__" := by decide) (hdb : (x == ("__debug__" : Str)) = false := by decide)
    (he : starEach (e :: es) X.env = (false, eval e X.env) :: starEach es X.env := by rfl) (hpl : (backTo pos (starEach es X.env)).any (·.1) = false := by rfl) : DF X B (.Call (.Name x p) (e :: es) [] pos) (fCB rD t) :=
  ⟨fun rx tk => PE.imp (pe_callTy hc hg hm hv (ha.run rx tk) hn hdb he hpl) fun _ _ _ _ h => lift_fcb L h⟩
theorem df_callB (hc : CallR X (.builtin id) r) (L : LiftFC X.K r rD) (hg : Gl X x) (hm : X.mg x = none) (hv : bootBuiltins x = some (.builtin id)) (ha : DA X B (e :: es) t) (hn : x ≠ "__name__" := by decide) (hdb : (x == ("__debug__" : Str)) = false := by decide)
    (he : starEach (e :: es) X.env = (false, eval e X.env) :: starEach es X.env := by rfl) (hpl : (backTo pos (starEach es X.env)).any (·.1) = false := by rfl) : DF X B (.Call (.Name x p) (e :: es) [] pos) (fCB rD t) :=
  ⟨fun rx tk => PE.imp (pe_callB hc hg hm hv (ha.run rx tk) hn hdb he hpl) fun _ _ _ _ h => lift_fcb L h⟩
/-- list(x) -/
def listF (ds : List D) (P : Sl → Prop) : Prop := match ds with
  | [.lst xs] => P (.ol xs)
  | [.kls xs] => P (.ol xs)
  | [.tup xs] => P (.ol xs)
  | _ => False
def rListA (K : PySem.W.Frag) : List V → Hp → VK → Prop := fun xs H Q => ∃ p ys, xs = [.ref p] ∧ (SqL K H p ys ∨ SqT K H p ys) ∧ ∀ l, H l = none → Q (.ref l) (upd H l (.lst ys))
theorem lf_list : LiftFC K (rListA K) listF := fun B n g0 H0 δ0 g H σ δ xs ds P Q S0 st S rs q k => by
  cases rs with
  | nil => exact q.elim
  | cons r1 r2 =>
    cases r2 with
    | cons _ _ => cases r1 <;> exact q.elim
    | nil =>
      cases r1 with
      | @lst a vs ds h rs =>
        refine ⟨a, vs, rfl, .inl (SqL.of (S.ret.sub _ _ h)), fun p hp => ?_⟩
        obtain ⟨g2, st2, S2, it⟩ := S.newL st S0 hp rs
        exact k _ g2 _ _ q st2 S2 it
      | @kls a vs ds h rs =>
        refine ⟨a, vs, rfl, .inl (SqL.up S.ret.sub h), fun p hp => ?_⟩
        obtain ⟨g2, st2, S2, it⟩ := S.newL st S0 hp rs
        exact k _ g2 _ _ q st2 S2 it
      | @tup a vs ds h rs =>
        refine ⟨a, vs, rfl, .inr (SqT.up S.ret.sub h), fun p hp => ?_⟩
        obtain ⟨g2, st2, S2, it⟩ := S.newL st S0 hp rs
        exact k _ g2 _ _ q st2 S2 it
      | _ => exact q.elim
/-- tuple(x) -/
def tupD (ds : List D) (P : D → Prop) : Prop := match ds with
  | [.lst xs] => P (.tup xs)
  | [.kls xs] => P (.tup xs)
  | [.tup xs] => P (.tup xs)
  | _ => False
def rTupA (K : PySem.W.Frag) : List V → Hp → VK → Prop := fun xs H Q => ∃ p ys, xs = [.ref p] ∧ ((SqL K H p ys ∧ ∀ l, H l = none → Q (.ref l) (upd H l (.tup ys))) ∨ (SqT K H p ys ∧ Q (.ref p) H))
theorem lc_tup : LiftC K (rTupA K) tupD := fun B n g H σ δ xs ds P Q S rs q k => by
  have fin : ∀ {vs : List V} {ds : List D}, Dens K g.W g.F vs ds → P (.tup ds) → ∀ l, H l = none → Q (.ref l) (upd H l (.tup vs)) := fun {vs ds} rs q l hl => by
    obtain ⟨S2, st2⟩ := S.alloc (n := n) (o := .tup vs) hl
    exact k _ _ _ _ q st2 S2 (.tup (.inl (.inl upd_same)) (rs.step st2))
  cases rs with
  | nil => exact q.elim
  | cons r1 r2 =>
    cases r2 with
    | cons _ _ => cases r1 <;> exact q.elim
    | nil =>
      cases r1 with
      | @lst a vs ds h rs => exact ⟨a, vs, rfl, .inl ⟨SqL.of (S.ret.sub _ _ h), fin rs q⟩⟩
      | @kls a vs ds h rs => exact ⟨a, vs, rfl, .inl ⟨SqL.up S.ret.sub h, fin rs q⟩⟩
      | @tup a vs ds h rs => exact ⟨a, vs, rfl, .inr ⟨SqT.up S.ret.sub h, k _ g H _ q (Step.refl _ _ _) S (.tup h rs)⟩⟩
      | _ => exact q.elim
/-- ints, bools of a list -/
def asInts : List D → Option (List Int)
  | [] => some []
  | .int i :: ds => (asInts ds).map (i :: ·)
  | _ :: _ => none
def asBls : List D → Option (List Bool)
  | [] => some []
  | .bl i :: ds => (asBls ds).map (i :: ·)
  | _ :: _ => none
theorem Dens.ints {W : DW} {F : Hp} : ∀ {vs : List V} {ds : List D} {ns : List Int}, Dens K W F vs ds → asInts ds = some ns → vs = ns.map V.int
  | _, _, _, .nil, e => by cases e; rfl
  | _, _, _, .cons (d := d) (ds := ds) r t, e => by
    cases r with
    | int i =>
      unfold asInts at e
      cases q : asInts ds with
      | none => rw [q] at e; cases e
      | some ms =>
        rw [q] at e
        cases e
        rw [t.ints q]; rfl
    | _ => cases e
theorem Dens.bls {W : DW} {F : Hp} : ∀ {vs : List V} {ds : List D} {ns : List Bool}, Dens K W F vs ds → asBls ds = some ns → vs = ns.map V.bl
  | _, _, _, .nil, e => by cases e; rfl
  | _, _, _, .cons (d := d) (ds := ds) r t, e => by
    cases r with
    | bl i =>
      unfold asBls at e
      cases q : asBls ds with
      | none => rw [q] at e; cases e
      | some ms =>
        rw [q] at e
        cases e
        rw [t.bls q]; rfl
    | _ => cases e
/-- one list, read as a list of ints (bools) -/
def onL (f : List D → (D → Prop) → Prop) (ds : List D) (P : D → Prop) : Prop := match ds with
  | [.lst xs] => f xs P
  | [.kls xs] => f xs P
  | _ => False
theorem lc_onL {r : List V → Hp → VK → Prop} {f : List D → (D → Prop) → Prop} (h : ∀ (B : Base) (n : Nat) (g : Gs) (H : Hp) (σ : L2.St) (δ : Env) (a : Addr) (vs : List V) (ds : List D) (P : D → Prop) (Q : VK), Stt K B g H σ δ → SqL K H a vs → Dens K g.W g.F vs ds → f ds P →
    (∀ d g' H' v, P d → Step n g H g' H' → Stt K B g' H' σ δ → Den K g'.W g'.F v d → Q v H') → r [.ref a] H Q) : LiftC K r (onL f) := fun B n g H σ δ xs ds P Q S rs q k => by
  cases rs with
  | nil => exact q.elim
  | cons r1 r2 =>
    cases r2 with
    | cons _ _ => cases r1 <;> exact q.elim
    | nil =>
      cases r1 with
      | @lst a vs ds e rs => exact h B n g H σ δ a vs ds P Q S (SqL.of (S.ret.sub _ _ e)) rs q k
      | @kls a vs ds e rs => exact h B n g H σ δ a vs ds P Q S (SqL.up S.ret.sub e) rs q k
      | _ => exact q.elim
def sumL (ds : List D) (P : D → Prop) : Prop := ∃ ns, asInts ds = some ns ∧ P (.int ns.sum)
def anyL (ds : List D) (P : D → Prop) : Prop := ∃ ns, asBls ds = some ns ∧ P (.bl (ns.any _root_.id))
def allL (ds : List D) (P : D → Prop) : Prop := ∃ ns, asBls ds = some ns ∧ P (.bl (ns.all _root_.id))
def maxL (ds : List D) (P : D → Prop) : Prop := ∃ ns, asInts ds = some ns ∧ 0 < ns.length ∧ ∀ m, m ∈ ns → (∀ y, y ∈ ns → y ≤ m) → P (.int m)
def minL (ds : List D) (P : D → Prop) : Prop := ∃ ns, asInts ds = some ns ∧ 0 < ns.length ∧ ∀ m, m ∈ ns → (∀ y, y ∈ ns → m ≤ y) → P (.int m)
theorem lc_sum : LiftC K (rSum K) (onL sumL) := lc_onL fun B n g H σ δ a vs ds P Q S e rs ⟨ns, h1, q⟩ k => ⟨a, ns, rfl, by rw [← rs.ints h1]; exact e, k _ g H _ q (Step.refl _ _ _) S (.int _)⟩
theorem lc_any : LiftC K (rAny K) (onL anyL) := lc_onL fun B n g H σ δ a vs ds P Q S e rs ⟨ns, h1, q⟩ k => ⟨a, ns, rfl, by rw [← rs.bls h1]; exact e, k _ g H _ q (Step.refl _ _ _) S (.bl _)⟩
theorem lc_all : LiftC K (rAll K) (onL allL) := lc_onL fun B n g H σ δ a vs ds P Q S e rs ⟨ns, h1, q⟩ k => ⟨a, ns, rfl, by rw [← rs.bls h1]; exact e, k _ g H _ q (Step.refl _ _ _) S (.bl _)⟩
theorem lc_maxL : LiftC K (rMax K) (onL maxL) := lc_onL fun B n g H σ δ a vs ds P Q S e rs ⟨ns, h1, h2, q⟩ k => ⟨a, ns, rfl, by rw [← rs.ints h1]; exact e, h2, fun m a1 a2 => k _ g H _ (q m a1 a2) (Step.refl _ _ _) S (.int _)⟩
theorem lc_minL : LiftC K (rMin K) (onL minL) := lc_onL fun B n g H σ δ a vs ds P Q S e rs ⟨ns, h1, h2, q⟩ k => ⟨a, ns, rfl, by rw [← rs.ints h1]; exact e, h2, fun m a1 a2 => k _ g H _ (q m a1 a2) (Step.refl _ _ _) S (.int _)⟩
/-- max(i, j), min(i, j), or of a list -/
def maxD (ds : List D) (P : D → Prop) : Prop := match ds with
  | [.int i, .int j] => P (.int (if j > i then j else i))
  | _ => onL maxL ds P
def minD (ds : List D) (P : D → Prop) : Prop := match ds with
  | [.int i, .int j] => P (.int (if j < i then j else i))
  | _ => onL minL ds P
theorem lc_max : LiftC K (fun xs H Q => (∃ i j, xs = [.int i, .int j] ∧ Q (.int (if j > i then j else i)) H) ∨ rMax K xs H Q) maxD := fun B n g H σ δ xs ds P Q S rs q k => by
  by_cases h : ∃ i j, ds = [.int i, .int j]
  · obtain ⟨i, j, rfl⟩ := h
    cases rs with
    | cons r1 r2 =>
      cases r1
      cases r2 with
      | cons r3 r4 =>
        cases r3
        cases r4
        exact .inl ⟨i, j, rfl, k _ g H _ q (Step.refl _ _ _) S (.int _)⟩
  · refine .inr (lc_maxL B n g H σ δ xs ds P Q S rs ?_ k)
    unfold maxD at q
    split at q
    · exact absurd ⟨_, _, rfl⟩ h
    · exact q
theorem lc_min : LiftC K (fun xs H Q => (∃ i j, xs = [.int i, .int j] ∧ Q (.int (if j < i then j else i)) H) ∨ rMin K xs H Q) minD := fun B n g H σ δ xs ds P Q S rs q k => by
  by_cases h : ∃ i j, ds = [.int i, .int j]
  · obtain ⟨i, j, rfl⟩ := h
    cases rs with
    | cons r1 r2 =>
      cases r1
      cases r2 with
      | cons r3 r4 =>
        cases r3
        cases r4
        exact .inl ⟨i, j, rfl, k _ g H _ q (Step.refl _ _ _) S (.int _)⟩
  · refine .inr (lc_minL B n g H σ δ xs ds P Q S rs ?_ k)
    unfold minD at q
    split at q
    · exact absurd ⟨_, _, rfl⟩ h
    · exact q
theorem call_maxA (hc : X.calm = true) : CallR X (.builtin "max") (fun xs H Q => (∃ i j, xs = [.int i, .int j] ∧ Q (.int (if j > i then j else i)) H) ∨ rMax X.K xs H Q) := CallR.or (call_max2 hc) (cr_max hc)
theorem call_minA (hc : X.calm = true) : CallR X (.builtin "min") (fun xs H Q => (∃ i j, xs = [.int i, .int j] ∧ Q (.int (if j < i then j else i)) H) ∨ rMin X.K xs H Q) := CallR.or (call_min2 hc) (cr_min hc)
def absD (ds : List D) (P : D → Prop) : Prop := match ds with
  | [.int i] => P (.int (if i < 0 then -i else i))
  | _ => False
theorem lc_abs : LiftC K (fun xs H Q => ∃ i, xs = [.int i] ∧ Q (.int (if i < 0 then -i else i)) H) absD := fun B n g H σ δ xs ds P Q S rs q k => by
  cases rs with
  | nil => exact q.elim
  | cons r1 r2 =>
    cases r2 with
    | cons _ _ => cases r1 <;> exact q.elim
    | nil =>
      cases r1 with
      | int i => exact ⟨i, rfl, k _ g H _ q (Step.refl _ _ _) S (.int _)⟩
      | _ => exact q.elim
def intD (ds : List D) (P : D → Prop) : Prop := match ds with
  | [.int i] => P (.int i)
  | [.bl b] => P (.int (if b then 1 else 0))
  | _ => False
theorem lc_int : LiftC K (fun xs H Q => (∃ i, xs = [.int i] ∧ Q (.int i) H) ∨ ∃ k, xs = [.bl k] ∧ Q (.int (if k then 1 else 0)) H) intD := fun B n g H σ δ xs ds P Q S rs q k => by
  cases rs with
  | nil => exact q.elim
  | cons r1 r2 =>
    cases r2 with
    | cons _ _ => cases r1 <;> exact q.elim
    | nil =>
      cases r1 with
      | int i => exact .inl ⟨i, rfl, k _ g H _ q (Step.refl _ _ _) S (.int _)⟩
      | bl i => exact .inr ⟨i, rfl, k _ g H _ q (Step.refl _ _ _) S (.int _)⟩
      | _ => exact q.elim
/-! ### slices -/
abbrev TDO := (D → Prop) → Env → (Option Int → Env → Prop) → Prop
def dNoPart : TDO := fun _ δ P => P none δ
def dPart (t : TDX) : TDO := fun rx δ P => t rx δ fun d δ1 => match d with
  | .int i => P (some i) δ1
  | _ => False
def cutD (xs : List D) (lo hi : Option Int) : List D := (xs.drop (HT.sIx xs.length 0 lo)).take (HT.sIx xs.length xs.length hi - HT.sIx xs.length 0 lo)
theorem cut_rel {W : DW} {F : Hp} {vs : List V} {ds : List D} (r : Dens K W F vs ds) (lo hi : Option Int) : Dens K W F (cutV vs lo hi) (cutD ds lo hi) := by
  unfold cutV cutD
  rw [r.length]
  exact (r.drop _).take _
def sliceF (x : D) (lo hi : Option Int) (P : Sl → Prop) : Prop := match x with
  | .lst xs => P (.ol (cutD xs lo hi))
  | .kls xs => P (.ol (cutD xs lo hi))
  | .tup xs => P (.sh (.tup (cutD xs lo hi)))
  | _ => False
def fSlice (te : TDX) (tl th : TDO) : TDF := fun rx δ P => te rx δ fun d δ1 => tl rx δ1 fun lo δ2 => th rx δ2 fun hi δ3 => sliceF d lo hi fun s => P s δ3
def liftO (K : PySem.W.Frag) (B : Base) (n : Nat) (t : Env → (Option Int → Env → Prop) → Prop) : TO := fun σ H Q => ∃ g δ P, Stt K B g H σ δ ∧ t δ P ∧ ∀ o δ' g' H', P o δ' → Step n g H g' H' → Stt K B g' H' σ δ' → Q o H'
structure DO (X : Cx) (B : Base) (e : Option Expr) (t : TDO) : Prop where
  run : ∀ rx, Takes X (XW (liftX X.K B rx)) → PO X e (liftO X.K B X.N.length (t rx))
theorem PO.imp {e : Option Expr} {t t' : TO} (h : PO X e t) (i : ∀ σ H Q, σ.length = X.N.length → t' σ H Q → t σ H Q) : PO X e t' := ⟨fun pins s σ H Q I q => h.run pins s σ H Q I (i σ H Q I.len q)⟩
theorem do_none : DO X B none dNoPart := ⟨fun rx tk => PO.imp po_none fun σ H Q _ ⟨g, δ, P, S, q, k⟩ => k none δ g H q (Step.refl _ _ _) S⟩
theorem do_some {te : TDX} (h : DE X B e te) : DO X B (some e) (dPart te) := ⟨fun rx tk => PO.imp (po_some (h.run rx tk)) fun σ H Q _ ⟨g, δ, P, S, q, k⟩ => ⟨g, δ, _, S, q, fun d δ1 g1 H1 v h1 st1 S1 D1 => by
  cases D1 with
  | int i => exact ⟨i, rfl, k (some i) δ1 g1 H1 h1 st1 S1⟩
  | _ => exact h1.elim⟩⟩
def rSlAll (K : PySem.W.Frag) : V → Option Int → Option Int → Hp → VK → Prop := fun x lo hi H Q => rSlL K x lo hi H Q ∨ rSlA K x lo hi H Q
theorem whole_cut {xs : List D} {lo hi : Option Int} (h1 : HT.sIx xs.length 0 lo = 0) (h2 : HT.sIx xs.length xs.length hi = xs.length) : cutD xs lo hi = xs := by
  unfold cutD
  rw [h1, h2]; simp
theorem df_slice {lo hi : Option Expr} {te : TDX} {tl th : TDO} {p2 : Pos} (he : DE X B e te) (hl : DO X B lo tl) (hh : DO X B hi th) : DF X B (.Subscript e (.Slice lo hi none p2) pos) (fSlice te tl th) :=
  ⟨fun rx tk => PE.imp (pe_slice (SlR.or sl_list sl_tupA) (he.run rx tk) (hl.run rx tk) (hh.run rx tk)) fun σ H Q _ ⟨g, δ, P, S, q, k⟩ => ⟨g, δ, _, S, q, fun d δ1 g1 H1 v h1 st1 S1 D1 =>
    ⟨g1, δ1, _, S1, h1, fun lo δ2 g2 H2 h2 st2 S2 => ⟨g2, δ2, _, S2, h2, fun hi δ3 g3 H3 h3 st3 S3 => by
      have D3 := (D1.step st2).step st3
      have stA := (st1.trans st2).trans st3
      cases D3 with
      | @lst a vs ds h rs =>
        refine .inl ⟨a, vs, rfl, SqL.of (S3.ret.sub _ _ h), fun p hp => ?_⟩
        obtain ⟨g4, st4, S4, it⟩ := S3.newL stA S hp (cut_rel rs lo hi)
        exact k _ δ3 g4 _ _ h3 st4 S4 it
      | @kls a vs ds h rs =>
        refine .inl ⟨a, vs, rfl, SqL.up S3.ret.sub h, fun p hp => ?_⟩
        obtain ⟨g4, st4, S4, it⟩ := S3.newL stA S hp (cut_rel rs lo hi)
        exact k _ δ3 g4 _ _ h3 st4 S4 it
      | @tup a vs ds h rs =>
        refine .inr ⟨a, vs, rfl, SqT.up S3.ret.sub h, fun ⟨e1, e2⟩ => ?_, fun _ p hp => ?_⟩
        · rw [rs.length] at e1 e2
          have z : sliceF (.tup ds) lo hi (fun s => P s δ3) := h3
          have z2 : P (.sh (.tup (cutD ds lo hi))) δ3 := z
          rw [whole_cut e1 e2] at z2
          exact k _ δ3 g3 H3 _ z2 stA S3 (.tup h rs)
        · obtain ⟨S4, st4⟩ := S3.alloc (n := X.N.length) (o := .tup (cutV vs lo hi)) hp
          exact k _ δ3 _ _ _ h3 (stA.trans st4) S4 (.tup (.inl (.inl upd_same)) ((cut_rel rs lo hi).step st4))
      | _ => exact h3.elim⟩⟩⟩⟩
end
end DL

namespace DL
open PySem PySem.Spec PySem.Calls PySem.W PyProof.Rows
/-! ### a class of exceptions whose __init__ says super().__init__(text), then self.f = p -/
/-- the body of such an __init__ -/
structure SuB where
  txt : Str
  fld : Str
  par : Str
  j : Nat
  p0 : Pos
  p1 : Pos
  p2 : Pos
  p3 : Pos
  p4 : Pos
  p5 : Pos
  q0 : Pos
  q1 : Pos
  q2 : Pos
  q3 : Pos
def SuB.body (b : SuB) : List Stmt := [.Expr (.Call (.Attribute (.Call (.Name "super" b.p0) [] [] b.p1) "__init__" b.p2) [.Constant (.str b.txt) b.j b.p3] [] b.p4) b.p5, .Assign [.Attribute (.Name "self" b.q0) b.fld b.q1] (.Name b.par b.q2) b.q3]
/-- how its first call is read -/
def SuB.Ev (b : SuB) (pl : PySem.Env → Sem Bool) : Prop := ∀ env, eval (.Call (.Attribute (.Call (.Name "super" b.p0) [] [] b.p1) "__init__" b.p2) [.Constant (.str b.txt) b.j b.p3] [] b.p4) env = (do
  let ov ← attributeBase (.Call (.Name "super" b.p0) [] [] b.p1) "__init__" env (eval (.Call (.Name "super" b.p0) [] [] b.p1) env)
  standAt b.p2.atName
  let (f, first) ← holding [ov] (getMethod ov "__init__" (pl env))
  callWith b.p4 f first (backTo b.p4 (starEach [.Constant (.str b.txt) b.j b.p3] env)) [])
/-- what is known of it: C the class, f the def, cc its cell, cda its code -/
structure SuK (P : Program) (K : Frag) (b : SuB) (C f : Addr) (fd : FuncData) : Prop where
  ex : ∃ (name qual : Str) (params : Arguments) (scope : Scope) (dV kV doc pm ct oc ccl cl : Value) (an od cdd cld : Option Addr) (osl ccs csl : Array (Option Value)) (cc cda : Addr) (ar : Arg) (vs : Array Value) (file : Str) (tf : Tok) (cd : ClassData),
    fd = ksFn name qual params b.body scope dV kV doc pm an (.ref cda) ct cc ∧ K.lookup f = some ⟨oc, od, .func fd, osl⟩ ∧ codeIn K (.ref cda) qual = true ∧ (∀ y ∈ scope.names, y.2 ≠ .cell) ∧
    scope.isCoroutine = false ∧ scope.isGenerator = false ∧ scope.kind = .function ∧ scope.names.lookup ("super" : Str) = some .globalImplicit ∧ scope.names.lookup ("__class__" : Str) = some .free ∧ scope.names.lookup ("self" : Str) = some .local ∧ scope.names.lookup b.par = some .local ∧
    (params.posonlyargs ++ params.args).head? = some ar ∧ ar.arg = "self" ∧
    K.lookup cda = some ⟨ccl, cdd, .fields vs, ccs⟩ ∧ vs[2]? = some (.str file tf) ∧ ((P.main.file : Str) == file) = true ∧ (P.main.scope.names.lookup ("super" : Str)).isSome = false ∧
    K.lookup cc = some ⟨cl, cld, .cell (some (.ref C)), csl⟩ ∧ clsIn K C = some cd ∧ HandSPX.refsVE cd.mro = true ∧ cd.hasDict = true ∧ mroIn K C (.ref C) = some true ∧ nsIn K cStatics "thirdparty.any" = some none
  sup : ks_superIn K C C "__init__" = some (some (.builtin "ValueError.__init__"))
  sub : subIn K (.ref C) (.type "ValueError") = some true
  exc : excInitIn K C [.type "ValueError", .type "Exception", .type "BaseException", .type "object"] "ValueError.__new__" = true
  sa : findIn K (.ref C) "__setattr__" = some (some (.builtin "object.__setattr__"))
  no : findIn K (.ref C) b.fld = some none
  pne : b.par ≠ "self"
  ini : findIn K (.ref C) "__init__" = some (some (.ref f))
  tyI : typeIn K (.ref f) = some (.type "function")
  kpC : keepIn K (.ref C) = true
  exB : subIn K (.ref C) (.type "BaseException") = some true
  tyC : typeIn K (.ref C) = some (.type "type")
  hdb : (b.par == ("__debug__" : Str)) = false
  ev : ∃ pl, b.Ev pl
  bind : ∀ (s : Shared) (us : List Value), us.length = 2 → BindsTo s fd ⟨us, []⟩ ((["self", b.par] : List Str).zip us)
theorem su_body {P : Program} {w : World} {A : Around} {K : Frag} {b : SuB} {C f e t0 cc cda : Addr} {fd : FuncData} {u : Value} {mg mb : Str → Option Value} {E : Value → Shared → Prop} {Q : Flow → Shared → Prop} {h0 : Heap} {g : Array GenState} {d : Drawn} {t : Nat} {os : OsState} {cb : List Stmt}
    {env : PySem.Env} {oc ccl cl : Value} {od cdd cld : Option Addr} {osl ccs csl : Array (Option Value)} {ar : Arg} {vs : Array Value} {file : Str} {tf : Tok} {cd : ClassData} {m : Str → Option Value}
    (KX : K.In h0) (ns : h0.Ns env.globals mg) (mgS : mg "super" = none) (nb : h0.Ns env.builtins mb) (bb : mb "super" = some (.type "super")) (he : h0.get? e = some (HandSPX.excO C t0)) (hns : h0.Ns env.locals m) (eL : e ≠ env.locals) (m1 : m "self" = some (.ref e)) (m2 : m b.par = some u)
    (lk : K.lookup f = some ⟨oc, od, .func fd, osl⟩) (hfu : env.func = some f) (hk : env.scope.kind = .function) (hks : env.kindOf "super" = some .globalImplicit) (hkc : env.kindOf "__class__" = some .free) (hka : env.kindOf "self" = some .local) (hkp : env.kindOf b.par = some .local)
    (hpar : (fd.params.posonlyargs ++ fd.params.args).head? = some ar) (har : ar.arg = "self") (hco : env.code = .ref cda) (hcode : K.lookup cda = some ⟨ccl, cdd, .fields vs, ccs⟩) (hvs : vs[2]? = some (.str file tf)) (hfile : ((P.main.file : Str) == file) = true)
    (htop : (P.main.scope.names.lookup ("super" : Str)).isSome = false) (hcl : env.cells.lookup ("__class__" : Str) = some cc) (hcel : K.lookup cc = some ⟨cl, cld, .cell (some (.ref C)), csl⟩) (hC : clsIn K C = some cd) (hmro : HandSPX.refsVE cd.mro = true) (hdct : cd.hasDict = true)
    (hsubC : mroIn K C (.ref C) = some true) (hop : nsIn K cStatics "thirdparty.any" = some none)
    (hsup : ks_superIn K C C "__init__" = some (some (.builtin "ValueError.__init__"))) (hsub : subIn K (.ref C) (.type "ValueError") = some true)
    (hexc : excInitIn K C [.type "ValueError", .type "Exception", .type "BaseException", .type "object"] "ValueError.__new__" = true) (hsa : findIn K (.ref C) "__setattr__" = some (some (.builtin "object.__setattr__"))) (hno : findIn K (.ref C) b.fld = some none)

    {pl : PySem.Env → Sem Bool} (hev : b.Ev pl) (hdb : (b.par == ("__debug__" : Str)) = false) (nK : ∀ o, K.lookup e ≠ some o)
    (hq : ∀ h' t' dx tA, (∀ a o, a ≠ e → h0.get? a = some o → h'.get? a = some o) → h0.objs.size ≤ dx → dx ≠ e → h'.get? e = some ({ cls := .ref C, dict := some dx, data := .fields #[.ref tA, .none, .none, .none, .bool false, .none] } : Obj) →
      h'.Ns1 dx (fun y => if y = b.fld then some u else none) → Q .next ⟨h', g, d, t', os⟩) :
    PySem.wpAt (model P w) A (.func cb env) (execs b.body env) Q E ⟨h0, g, d, t, os⟩ := by
  obtain ⟨oC, hC1, hC2⟩ : ∃ oD, h0.get? C = some oD ∧ oD.data = .cls cd := by
    have hD := hC
    unfold clsIn at hD
    split at hD
    · rename_i c d cd' sl ho
      cases hD
      exact ⟨_, KX _ _ ho, rfl⟩
    · cases hD
  have xC : e ≠ C := fun z => by
    rw [z, hC1] at he
    have := Option.some.inj he
    rw [this] at hC2
    cases hC2
  obtain ⟨nm, N', qn, bs, bm, hd', sn, sub', ab, col, dd, k0, k1, k2, k3, k5, hCo, hT⟩ := excInit_of KX hexc
  unfold SuB.body
  refine ks_wpAt_execs_cons (ks_wpAt_Expr_any ?_ (hi := by unfold interactive; rw [hk]; rfl) (hs := by rfl))
  refine ks_wpAt_MethodCall ?_ (hev env)
  refine ks_wpAt_super_base (ar := ar) hks hkc (by decide) hfu (KX _ _ lk) rfl hpar hco (KX _ _ hcode) rfl hvs hfile htop ?_
  refine ks_loadName_global hk hks (loadGlobal_builtin ns mgS nb bb ⟨rfl, ?_⟩)
  refine wpAny_loadName_free hk hkc hcl ⟨_, KX _ _ hcel, rfl⟩ ?_
  rw [har]
  refine wpAny_loadName_local hk hka hns m1 ?_
  refine ks_wpAny_isType_cls hC1 hC2 ⟨rfl, ?_⟩
  refine ks_wpAny_call_super hC1 hC2 he rfl (fun c z => by cases z) (looks_mroIn KX hsubC) (fun h1 e1 k1 => ?_)
  have X1 : K.In h1 := KX.keeps k1
  have he1 := k1 _ _ he
  have I1 : InstAt h1 e (HandSPX.excO C t0) C none := ⟨he1, rfl, rfl, trivial⟩
  have hm := hsup
  unfold ks_superIn at hm
  rw [hC] at hm
  refine kxs_getMethod kxs_ValueError e1 (looks_opaque X1 hop) (l₀ := cd.mro) (fun A Q E s k q => wpAny_bind ((looks_clsIn X1 hC) A _ E s k (wpAny_pure q))) rfl X1 hm (I1.type.andThen (looks_subIn X1 hsub)) xC (by decide) ?_
  have k2 : ∀ a o, h1.get? a = some o → (h1.push (kxs_mw "ValueError.__init__" e)).get? a = some o := fun a o z => Heap.get?_push_of_some _ z
  have hu : (h1.push (kxs_mw "ValueError.__init__" e)).get? h1.objs.size = some (kxs_mw "ValueError.__init__" e) := Heap.get?_push_at rfl rfl
  have nN : News h1 (h1.objs.size + 1) (h1.push (kxs_mw "ValueError.__init__" e)) [(h1.objs.size, kxs_mw "ValueError.__init__" e)] := fun p hp => by
    cases List.mem_singleton.mp hp
    refine ⟨hu, by simp, ?_⟩
    cases z : h1.get? h1.objs.size with
    | none => rfl
    | some o => exact absurd (Heap.lt_size z) (Nat.lt_irrefl _)
  refine kxs_callWith1 nN (List.mem_singleton.mpr rfl) ?_
  show wpAny _ _ (spliced ((false, eval (.Constant (.str b.txt) b.j b.p3) env) :: backTo b.p4 (starEach [] env))) _ _ _
  refine Calls.spliced_cons (Calls.Constant_str (Calls.spliced_nil ⟨hu, ?_⟩))
  refine wpAny_call (codeAny_of_tree ?_)
  show wpAny _ _ (callAny (.ref h1.objs.size) ⟨[.str b.txt _], []⟩) _ _ _
  simp only [callAny]
  refine wpAny_bind (wpAny_load hu ?_)
  simp only [kxs_mw, show (Value.type "method-wrapper" == Value.type "method" || Value.type "method-wrapper" == Value.type "builtin_function_or_method" || Value.type "method-wrapper" == Value.type "method-wrapper") = true by decide, if_true]
  refine KFB.if_so (by decide) ?_
  refine wpAny_bind (check_bound_init PySem.F.excBase_ValueError.toExcCallFacts (k2 _ _ (k1 _ _ hCo)) (k2 _ _ he1) rfl ?_)
  refine wpAny_bind (wpAny_pure (wpAny_pure ?_))
  refine ⟨plainId_quiet PySem.F.excBase_ValueError.init.plain _, codeAny_builtin PySem.F.excBase_ValueError.initEntry ?_⟩
  refine exc_init_tree (cls := .ref C) (t0 := t0) (dv := none) (c2 := .none) (c3 := .none) (b4 := .bool false) (k2 _ _ he1) (by show 1 ≤ sizeLine; rw [sizeLine_eq]; omega) (fun h3 k3 e3 _ => ?_)
  have e3' : h3.get? e = some (HandSPX.excO C (h1.push (kxs_mw "ValueError.__init__" e)).objs.size) := e3
  have k03 : ∀ a o, a ≠ e → h0.get? a = some o → h3.get? a = some o := fun a o ne z => k3 a o ne (k2 _ _ (k1 _ _ z))
  have X3 : K.In h3 := fun a o z => k03 a o (fun q => by
    rw [q] at z
    exact nK o z) (KX a o z)
  have ns3 : h3.Ns env.locals m := by
    obtain ⟨oL, es, ep, hL, r⟩ := hns
    exact ⟨oL, es, ep, k03 _ _ (Ne.symm eL) hL, r⟩
  refine ks_wpAt_execs_cons (ks_wpAt_Assign_Attr (wpAt_of_wpAny (wpAny_Name (wpAny_loadName_local hk hkp ns3 m2 ?_) hdb)) (hs := by rfl))
  refine wpAny_Name (wpAny_loadName_local hk hka ns3 m1 ?_) (by decide)
  refine set_plain X3 (ox := HandSPX.excO C (h1.push (kxs_mw "ValueError.__init__" e)).objs.size) (od := none) ⟨e3', rfl, rfl, trivial⟩ hsa ?_
  refine HandSPX.exc_osa X3 e3' hC hmro hdct hno (fun h' t' dx k hdx dne hx hn => ?_)
  show PySem.wpAt _ _ _ (execs [] env) _ _ _
  refine wpAt_of_wpAny (wpAny_execs_nil (hq h' t' dx _ (fun a o ne z => k a o ne (k03 a o ne z)) ?_ dne hx hn))
  exact Nat.le_trans (Nat.le_of_lt (Heap.lt_size (k3 _ _ (Ne.symm (Nat.ne_of_lt (Heap.lt_size he))) (k2 _ _ e1)))) hdx
theorem su_init {P : Program} {w : World} {A : Around} {K : Frag} {b : SuB} {C f e t0 : Addr} {fd : FuncData} {u : Value} {mg mb : Str → Option Value} {R : Result → Shared → Prop} {hp : Heap} {g : Array GenState} {d : Drawn} {t : Nat} {os : OsState} (S : SuK P K b C f fd)
    (KX : K.In hp) (ns : hp.Ns mainGlobals mg) (mgS : mg "super" = none) (nb : hp.Ns builtinsNs mb) (bb : mb "super" = bootBuiltins "super") (lim : hp.NoLimit) (hroom : A.depth < recursionLimit) (he : hp.get? e = some (HandSPX.excO C t0)) (nK : ∀ o, K.lookup e ≠ some o)
    (hq : ∀ h' t' dx tA, (∀ a o, a ≠ e → hp.get? a = some o → h'.get? a = some o) → hp.objs.size ≤ dx → dx ≠ e → h'.get? e = some ({ cls := .ref C, dict := some dx, data := .fields #[.ref tA, .none, .none, .none, .bool false, .none] } : Obj) →
      h'.Ns1 dx (fun y => if y = b.fld then some u else none) → R (.ok (.ret .none)) ⟨h', g, d, t', os⟩) :
    codeAny (model P w) A (.call (.ref f) ⟨[.ref e, u], []⟩) R ⟨hp, g, d, t, os⟩ := by
  obtain ⟨name, qual, params, scope, dV, kV, doc, pm, ct, oc, ccl, cl, an, od, cdd, cld, osl, ccs, csl, cc, cda, ar, vs, file, tf, cd, rfl, lk, hcd, hcell, hco, hgen, hk, hks, hkc, hka, hkp, hpar, har, hcode, hvs, hfile, htop, hcel, hC, hmro, hdct, hsubC, hop⟩ := S.ex
  obtain ⟨pl, hev⟩ := S.ev
  have hloc : ∀ y ∈ (["self", b.par] : List Str).zip [Value.ref e, u], scope.names.lookup y.1 = some .local := fun y hy => by
    have hy : y ∈ [(("self" : Str), Value.ref e), (b.par, u)] := hy
    rcases List.mem_cons.mp hy with rfl | hy
    · exact hka
    · rcases List.mem_cons.mp hy with rfl | hy
      · exact hkp
      · cases hy
  refine ks_codeAny_call_defAt (body := b.body) hroom (KX _ _ lk) rfl lim (codeRec_of KX hcd) rfl (S.bind _ [.ref e, u] rfl) hcell hloc (fun h0 hns hk0 => ?_) hco hgen hk
  have m1 : ((["self", b.par] : List Str).zip [Value.ref e, u]).reverse.lookup ("self" : Str) = some (Value.ref e) := by
    show [(b.par, u), (("self" : Str), Value.ref e)].lookup ("self" : Str) = _
    rw [List.lookup_cons, show (("self" : Str) == b.par) = false from beq_eq_false_iff_ne.mpr (Ne.symm S.pne)]
    rfl
  have m2 : ((["self", b.par] : List Str).zip [Value.ref e, u]).reverse.lookup b.par = some u := by
    show [(b.par, u), (("self" : Str), Value.ref e)].lookup b.par = _
    rw [List.lookup_cons, beq_self_eq_true]
  have hsz : hp.objs.size ≤ h0.objs.size := by
    obtain ⟨oL, _, _, hL, _⟩ := hns
    exact Nat.le_of_lt (Heap.lt_size hL)
  exact su_body (KX.keeps hk0) (ns.keeps hk0) mgS (nb.keeps hk0) (bb.trans PyProof.Rows.Boot.«super») (hk0 _ _ he) hns (Nat.ne_of_lt (Heap.lt_size he)) m1 m2 lk rfl hk hks hkc hka hkp hpar har rfl hcode hvs hfile htop rfl hcel hC hmro hdct hsubC hop S.sup S.sub S.exc S.sa S.no hev S.hdb nK
    fun h' t' dx tA k hdx dne hx hn => hq h' t' dx tA (fun a o ne z => k a o ne (hk0 _ _ z)) (Nat.le_trans hsz hdx) dne hx hn
end DL
namespace DL
open PySem PySem.Spec L2
open PyProof.Rows hiding St
section
variable {X : Cx} {pins : List (Addr × Obj)} {σ : L2.St} {H : Hp} {b : SuB} {C f : Addr} {fd : FuncData} {k : Nat}
/-- C(u): the new object, its dict, the heap -/
theorem su_call {hp : Heap} {g : Array GenState} {d : Drawn} {t : Nat} {os : OsState} {u : Value} {Q : Value → Shared → Prop} {E : Value → Shared → Prop} (S : SuK X.prog X.K b C f fd) (hr : Room (k + 1) X.A) (mgS : X.mg "super" = none) (I : Inv X pins σ H ⟨hp, g, d, t, os⟩)
    (hq : ∀ h' t' e dx tA, (∀ a o, hp.get? a = some o → h'.get? a = some o) → hp.get? e = none → hp.get? dx = none → dx ≠ e → h'.get? e = some ({ cls := .ref C, dict := some dx, data := .fields #[.ref tA, .none, .none, .none, .bool false, .none] } : Obj) →
      h'.Ns1 dx (fun y => if y = b.fld then some u else none) → Q (.ref e) ⟨h', g, d, t', os⟩) :
    wpAny (model X.prog X.w) X.A (call (.ref C) [u]) Q E ⟨hp, g, d, t, os⟩ := by
  obtain ⟨nm, N', qn, bs, bm, hd', sn, sub', ab, col, dd, k0, k1, k2, k3, k5, hCo, hT⟩ := PySem.W.excInit_of I.kIn S.exc
  obtain ⟨mb, hb1, hb2⟩ := I.mod.blt
  have kk : ∀ a o, hp.get? a = some o → ((hp.push (PySem.W.kdv_tup [u])).push (PySem.HandSPX.excO C hp.objs.size)).get? a = some o := fun b o e => Heap.get?_push_of_some _ (Heap.get?_push_of_some _ e)
  have hget : ((hp.push (PySem.W.kdv_tup [u])).push (PySem.HandSPX.excO C hp.objs.size)).get? (hp.objs.size + 1) = some (PySem.HandSPX.excO C hp.objs.size) := by heap_get
  have KX := I.kIn
  have none_of : ∀ a, hp.objs.size ≤ a → hp.get? a = none := fun a ha => by
    cases z : hp.get? a with
    | none => rfl
    | some o => exact absurd (Heap.lt_size z) (Nat.not_lt.mpr ha)
  have hz : (hp.push (PySem.W.kdv_tup [u])).objs.size = hp.objs.size + 1 := Heap.size_push ..
  have hz2 : ((hp.push (PySem.W.kdv_tup [u])).push (PySem.HandSPX.excO C hp.objs.size)).objs.size = hp.objs.size + 2 := by rw [Heap.size_push, hz]
  refine wpAny_call (PySem.HandSPX.call_own PySem.F.excBase_ValueError hT hCo (PySem.W.looks_findIn KX S.ini) (fun self => PySem.W.bind_fn KX self S.tyI) (by show 1 ≤ sizeLine; rw [sizeLine_eq]; omega) ?_)
  refine su_init S (KX.keeps kk) ((I.mod.glob.keeps I.bk).keeps kk) mgS ((hb1.keeps I.bk).keeps kk) (hb2 _ (by decide)) (I.nolimit.keeps kk) (hr.make C [u] []).depth hget (fun o z => ?_) fun h' t' dx tA k hdx dne hx hn => ?_
  · have := Heap.lt_size (KX _ _ z)
    exact absurd this (by show ¬ hp.objs.size + 1 < hp.objs.size; omega)
  · have hdx' : hp.objs.size + 2 ≤ dx := by rw [← hz2]; exact hdx
    refine ⟨rfl, hq h' t' _ dx tA (fun a o z => k a o (fun q => ?_) (kk a o z)) (none_of _ (Nat.le_succ _)) (none_of _ (Nat.le_trans (Nat.le_add_right _ 2) hdx')) dne hx hn⟩
    have z2 : a < hp.objs.size := Heap.lt_size z
    rw [show a = hp.objs.size + 1 from q] at z2
    exact absurd z2 (Nat.not_lt.mpr (Nat.le_succ _))
variable {B : Base} {x : Str} {e : Expr} {te : TE} {td : TDX} {p pos pos2 : Pos}
theorem xd_ok {P : Program} {w : World} {H : Hp} {h : Heap} {dx : Addr} {n : Str} {v : V} {u : Value} (hn : h.Ns1 dx (fun y => if y = n then some u else none)) (r : RelV v u) : ObjOk P w H h dx (.xd [(n, v)]) :=
  ⟨_, hn, fun y => by
    by_cases e : y = n
    · subst e
      rw [if_pos rfl, List.lookup_cons, beq_self_eq_true]
      exact r
    · rw [if_neg e, List.lookup_cons, show (y == n) = false from beq_eq_false_iff_ne.mpr e]
      exact trivial⟩
/-- the state behind C(u), the new object left aside -/
theorem su_side {hp h' : Heap} {g : Array GenState} {d : Drawn} {t t' : Nat} {os : OsState} {v : V} {u : Value} {n : Str} {e dx : Addr} (I : Inv X pins σ H ⟨hp, g, d, t, os⟩) (r : RelV v u) (k : ∀ a o, hp.get? a = some o → h'.get? a = some o) (ne : hp.get? e = none) (nd : hp.get? dx = none) (dne : dx ≠ e)
    (hn : h'.Ns1 dx (fun y => if y = n then some u else none)) : ∃ G : Heap, Inv X pins σ (upd H dx (.xd [(n, v)])) ⟨G, g, d, t', os⟩ ∧ (∀ a o, G.get? a = some o → h'.get? a = some o) ∧ G.get? e = none ∧ H dx = none ∧ upd H dx (.xd [(n, v)]) e = none := by
  obtain ⟨G, g1, g2⟩ := restrict h' fun b => decide (b ≠ e)
  have gk : ∀ b, b ≠ e → G.get? b = h'.get? b := fun b hb => g1 b (decide_eq_true hb)
  have ge : G.get? e = none := g2 e (by simp)
  have hd := I.hok.gone nd
  have kG : ∀ a o, hp.get? a = some o → G.get? a = some o := fun a o z => (gk a (fun q => by rw [q, ne] at z; cases z)).trans (k a o z)
  have nG : G.Ns1 dx (fun y => if y = n then some u else none) := hn.at fun o q => (gk dx dne).trans q
  refine ⟨G, I.laidN (t' := t') kG nd hd (xd_ok nG r), fun a o z => ?_, ge, hd, ?_⟩
  · by_cases q : a = e
    · rw [q, ge] at z; cases z
    · exact (gk a q).symm.trans z
  · rw [upd_ne (Ne.symm dne)]; exact I.hok.gone ne
theorem pmk_su (S : SuK X.prog X.K b C f fd) (hr : Room (k + 1) X.A) (mgS : X.mg "super" = none) (hg : Gl X x) (hm : X.mg x = some (.ref C)) (he : PE X e te) (hdb : (x == ("__debug__" : Str)) = false := by decide) (hs : starEach [e] X.env = (false, eval e X.env) :: starEach [] X.env := by rfl) :
    PMk X (.Call (.Name x p) [e] [] pos) (fun σ H Q => te σ H fun v H1 => ∀ d, H1 d = none → Q (.ref C) (some d) (upd H1 d (.xd [(b.fld, v)]))) := by
  intro pins s σ H Q I h
  refine wpAny_Call_Name_kw (ld_glob I hg hm ?_ hdb)
  refine PySem.W.callWith_K (h₀ := X.base) I.ok.mod.kin S.kpC ?_ hs (by rfl)
  rw [hs]
  show wpAny _ _ (spliced ((false, eval e X.env) :: backTo pos (starEach [] X.env))) _ _ s
  refine Calls.spliced_cons (thn (he.run pins s σ H _ I h) fun u s1 hh => Calls.spliced_nil ?_)
  obtain ⟨v, H1, I1, r1, q1⟩ := hh
  refine ⟨I1.kIn, ?_⟩
  obtain ⟨hp, g, d, t, os⟩ := s1
  refine su_call S hr mgS I1 fun h' t' e dx tA kk ne nd dne hx hn => ?_
  obtain ⟨G, J, gk, ge, hd, na⟩ := su_side (t' := t') I1 r1 kk ne nd dne hn
  exact ⟨e, _, _, ⟨G, g, d, t', os⟩, _, .ref C, some dx, rfl, J, gk, ge, hx, ⟨rfl, rfl⟩, rfl, rfl, na, rfl, J.bare, raises_own S.exB S.tyC, q1 dx hd⟩
theorem excO_ok {P : Program} {w : World} {H : Hp} {h : Heap} {C a : Addr} {d : Option Addr} {oe : Obj} {vs : Array Value} (e : h.get? a = some oe) (z : Zc (.ref C) d oe) (dt : oe.data = .fields vs) : ObjOk P w H h a (ExcO C d a) :=
  ⟨⟨oe, vs, e, z, dt⟩, ⟨oe, e⟩, fun _ _ ⟨o, v, q, r⟩ k => ⟨o, v, k o q, r⟩⟩
/-- .. as a value -/
theorem pe_su (S : SuK X.prog X.K b C f fd) (hr : Room (k + 1) X.A) (mgS : X.mg "super" = none) (hg : Gl X x) (hm : X.mg x = some (.ref C)) (he : PE X e te) (hdb : (x == ("__debug__" : Str)) = false := by decide) (hs : starEach [e] X.env = (false, eval e X.env) :: starEach [] X.env := by rfl) :
    PE X (.Call (.Name x p) [e] [] pos) (fun σ H Q => te σ H fun v H1 => ∀ d a, H1 d = none → H1 a = none → d ≠ a → Q (.ref a) (upd (upd H1 d (.xd [(b.fld, v)])) a (ExcO C (some d) a))) := by
  refine ⟨fun pins s σ H Q I h => ?_⟩
  refine wpAny_Call_Name_kw (ld_glob I hg hm ?_ hdb)
  refine PySem.W.callWith_K (h₀ := X.base) I.ok.mod.kin S.kpC ?_ hs (by rfl)
  rw [hs]
  show wpAny _ _ (spliced ((false, eval e X.env) :: backTo pos (starEach [] X.env))) _ _ s
  refine Calls.spliced_cons (thn (he.run pins s σ H _ I h) fun u s1 hh => Calls.spliced_nil ?_)
  obtain ⟨v, H1, I1, r1, q1⟩ := hh
  refine ⟨I1.kIn, ?_⟩
  obtain ⟨hp, g, d, t, os⟩ := s1
  refine su_call S hr mgS I1 fun h' t' e dx tA kk ne nd dne hx hn => ?_
  obtain ⟨G, J, gk, ge, hd, na⟩ := su_side (t' := t') I1 r1 kk ne nd dne hn
  exact ⟨.ref e, _, J.laidN (t' := t') (o := ExcO C (some dx) e) gk ge na (excO_ok hx ⟨rfl, rfl⟩ rfl), rfl, q1 dx e hd (I1.hok.gone ne) dne⟩
/-! ### over data -/
def dRaise (x n : Str) (t : TDX) : TDS := fun rx DE δ => t rx δ fun d _ => rx (.exc x [(n, d)])
theorem ds_raise (S : SuK X.prog X.K b (He.ga X.K x) f fd) (hc : X.calm = true) (hr : Rm (k + 1) X.A) (mgS : X.mg "super" = none) (hg : Gl X x) (hm : X.mg x = some (.ref (He.ga X.K x))) (he : DE X B e td) (hdb : (x == ("__debug__" : Str)) = false := by decide) (hs : starEach [e] X.env = (false, eval e X.env) :: starEach [] X.env := by rfl) :
    DS X B (.Raise (some (.Call (.Name x p) [e] [] pos)) none pos2) (dRaise x b.fld td) :=
  ⟨fun rx tk => PS.imp (ps_raise hc tk (pmk_su S hr.room mgS hg hm (he.run rx tk) hdb hs)) fun DD σ H _ ⟨g, δ, DE, S0, q, k1, k2, k3, k4⟩ => ⟨g, δ, _, S0, q, fun d δ1 g1 H1 v h1 st1 S1 D1 dx hdx => by
    obtain ⟨S2, st2⟩ := S1.alloc (n := X.N.length) (o := .xd [(b.fld, v)]) hdx
    exact ⟨_, _, .exc x [(b.fld, d)], S2.ret, ⟨rfl, .inr ⟨dx, [(b.fld, v)], rfl, upd_same, rfl, .cons (D1.step st2) .nil⟩⟩, h1⟩⟩⟩
abbrev ExcF (K : PySem.W.Frag) (x : Str) : Prop := PySem.W.excIn K (He.ga K x) He.veBase "ValueError.__new__" = true ∧ PySem.W.keepIn K (.ref (He.ga K x)) = true ∧ PySem.W.subIn K (.ref (He.ga K x)) (.type "BaseException") = some true ∧ PySem.W.typeIn K (.ref (He.ga K x)) = some (.type "type")
def dRaise0 (x : Str) : TDS := fun rx DE δ => rx (.exc x [])
theorem ds_raise0 {m : Str} {j : Nat} {p2 : Pos} (q : ExcF X.K x) (hc : X.calm = true) (hg : Gl X x) (hm : X.mg x = some (.ref (He.ga X.K x))) (hdb : (x == ("__debug__" : Str)) = false := by decide) : DS X B (.Raise (some (.Call (.Name x p) [.Constant (.str m) j p2] [] pos)) none pos2) (dRaise0 x) :=
  ⟨fun rx tk => PS.imp (ps_raise hc tk (pmk_own PySem.F.excBase_ValueError q.1 hm q.2.1 (raises_own q.2.2.1 q.2.2.2) hg hdb)) fun DD σ H _ ⟨g, δ, DE, S0, q, k1, k2, k3, k4⟩ => ⟨_, _, .exc x [], S0.ret, ⟨rfl, .inl ⟨rfl, rfl⟩⟩, q⟩⟩
def dExcV (x n : Str) (t : TDX) : TDX := fun rx δ P => t rx δ fun d δ' => P (.exc x [(n, d)]) δ'
theorem de_exc (S : SuK X.prog X.K b (He.ga X.K x) f fd) (hr : Rm (k + 1) X.A) (mgS : X.mg "super" = none) (hg : Gl X x) (hm : X.mg x = some (.ref (He.ga X.K x))) (he : DE X B e td) (hdb : (x == ("__debug__" : Str)) = false := by decide) (hs : starEach [e] X.env = (false, eval e X.env) :: starEach [] X.env := by rfl) :
    DE X B (.Call (.Name x p) [e] [] pos) (dExcV x b.fld td) :=
  ⟨fun rx tk => PE.imp (pe_su S hr.room mgS hg hm (he.run rx tk) hdb hs) fun σ H Q _ ⟨g, δ, P, S0, q, k1⟩ => ⟨g, δ, _, S0, q, fun d δ1 g1 H1 v h1 st1 S1 D1 dx a hdx ha dne => by
    obtain ⟨S2, st2⟩ := S1.alloc (n := X.N.length) (o := .xd [(b.fld, v)]) hdx
    obtain ⟨S3, st3⟩ := S2.alloc (n := X.N.length) (p := a) (o := ExcO (He.ga X.K x) (some dx) a) (by rw [upd_ne (Ne.symm dne)]; exact ha)
    refine k1 _ δ1 _ _ _ h1 ((st1.trans st2).trans st3) S3 (.exc1 (gs := [(b.fld, v)]) (dd := dx) upd_same ?_ rfl (.cons ((D1.step st2).step st3) .nil))
    show upd (upd g1.F dx _) a _ dx = _
    rw [upd_ne dne, upd_same]⟩⟩
def dExcV0 (x : Str) (t : TDX) : TDX := fun rx δ P => t rx δ fun d δ' => P (.exc x []) δ'
theorem pe_exc0 (q : ExcF X.K x) (hg : Gl X x) (hm : X.mg x = some (.ref (He.ga X.K x))) (he : PE X e te) (hdb : (x == ("__debug__" : Str)) = false := by decide) (hs : starEach [e] X.env = (false, eval e X.env) :: starEach [] X.env := by rfl) :
    PE X (.Call (.Name x p) [e] [] pos) (fun σ H Q => te σ H fun _ H1 => ∀ a, H1 a = none → Q (.ref a) (upd H1 a (ExcO (He.ga X.K x) none a))) := by
  refine ⟨fun pins s σ H Q I h => ?_⟩
  refine wpAny_Call_Name_kw (ld_glob I hg hm ?_ hdb)
  refine PySem.W.callWith_K (h₀ := X.base) I.ok.mod.kin q.2.1 ?_ hs (by rfl)
  rw [hs]
  show wpAny _ _ (spliced ((false, eval e X.env) :: backTo pos (starEach [] X.env))) _ _ s
  refine Calls.spliced_cons (thn (he.run pins s σ H _ I h) fun u s1 hh => Calls.spliced_nil ?_)
  obtain ⟨v, H1, I1, r1, q1⟩ := hh
  refine ⟨I1.kIn, ?_⟩
  show wpAny _ _ (call (.ref (He.ga X.K x)) [u]) _ _ _
  obtain ⟨bm, N, nm, qn, bs, hdct, sn, sub, ab, col, dd, k0, k1, k2, k3, k5, mN, hC, hN, hni, T⟩ := exc_obj I1.kIn q.1
  refine wpAny_call_exc_subT PySem.F.excBase_ValueError T hC hN hni (fun h' a hm' => ?_) (by show 1 ≤ sizeLine; rw [sizeLine_eq]; omega)
  have hn : H1 a = none := I1.hok.gone hm'.new
  obtain ⟨t, ht, _, _⟩ := hm'.there
  exact ⟨.ref a, _, I1.laidN (o := ExcO (He.ga X.K x) none a) hm'.keeps hm'.new hn (excO_ok ht ⟨rfl, rfl⟩ rfl), rfl, q1 a hn⟩
theorem de_exc0 (q : ExcF X.K x) (hg : Gl X x) (hm : X.mg x = some (.ref (He.ga X.K x))) (he : DE X B e td) (hdb : (x == ("__debug__" : Str)) = false := by decide) (hs : starEach [e] X.env = (false, eval e X.env) :: starEach [] X.env := by rfl) : DE X B (.Call (.Name x p) [e] [] pos) (dExcV0 x td) :=
  ⟨fun rx tk => PE.imp (pe_exc0 q hg hm (he.run rx tk) hdb hs) fun σ H Q _ ⟨g, δ, P, S0, q, k1⟩ => ⟨g, δ, _, S0, q, fun d δ1 g1 H1 v h1 st1 S1 D1 a ha => by
    obtain ⟨S3, st3⟩ := S1.alloc (n := X.N.length) (p := a) (o := ExcO (He.ga X.K x) none a) ha
    exact k1 _ δ1 _ _ _ h1 (st1.trans st3) S3 (.exc0 upd_same)⟩⟩
end
end DL

namespace DL
open PySem PySem.Spec L2
open PyProof.Rows hiding St
/-! ### an object that stands untracked is tracked from now on -/
section
variable {X : Cx} {pins : List (Addr × Obj)} {σ : L2.St} {H : Hp} {s : Shared}
theorem inv_track {a : Addr} {o : HO} (I : Inv X pins σ H s) (hn : H a = none) (h0 : X.s_0.heap.get? a = none) (hp : ∀ p ∈ X.pn ++ pins, p.1 ≠ a) (nL : a ≠ X.env.locals) (nC : ∀ x c, X.env.cells.lookup x = some c → c ≠ a) (new : ObjOk X.prog X.w (upd H a o) s.heap a o) :
    Inv X pins σ (upd H a o) s := by
  have U : Un X.fs X.ex X.H_0 (upd H a o) X.s_0.heap s.heap := {
    keep := I.base.keep
    slot := I.base.slot
    free := fun b u q n hx => by rw [upd_ne (fun z => by rw [z, h0] at q; cases q)]; exact I.base.free b u q n hx
    there := I.base.there
    tups := fun b xs q => by have z := I.base.tups b xs q; rw [upd_ne (ne_of_none z hn)]; exact z
    frzs := fun b u xs q => by have z := I.base.frzs b u xs q; rw [upd_ne (ne_of_none z hn)]; exact z
    tbls := fun b ps q => by
      obtain ⟨m, z⟩ := I.base.tbls b ps q
      exact ⟨m, by rw [upd_ne (ne_of_none z hn)]; exact z⟩ }
  exact ⟨I.ok, I.os, I.bare, U, I.loc, I.cell, by rw [upd_ne (Ne.symm nL)]; exact I.free, fun x c e => by rw [upd_ne (nC x c e)]; exact I.freeC x c e, fun p q => by
    obtain ⟨e1, e2, e3⟩ := I.pin p q
    exact ⟨e1, by rw [upd_ne (hp p q)]; exact e2, e3⟩, I.hok.laidN (fun _ _ q => q) hn new, I.len⟩
end
/-! ### try: body / except C as e: y = e -/
section
variable {X : Cx} {x n y : Str} {c : Value} {i j : Nat} {body : List Stmt} {np pos pos' p1 p2 p3 : Pos} {tb : WX → TS} {Wout : WX}
def wKeep (K : PySem.W.Frag) (m : Nat) (c : Value) (i j : Nat) (Wout : WX) (D : Ends) : WX := fun cls d σ H => ∃ t, PySem.W.exmOne K cls c = some t ∧ (t = true → σ.length = m → ∃ C, cls = .ref C ∧ ∀ a, H a = none → D.nx (((σ.set i (some (.ref a))).set j (some (.ref a))).set i none) (upd H a (ExcO C d a))) ∧ (t = false → Wout cls d σ H)
theorem ps_catch (hs : X.stack = X.env :: X.outer) (hf : X.env.frame = some X.env.locals) (hex : X.ex = []) (hN : X.N.Nodup) (hi : X.N[i]? = some n) (hln : X.env.kindOf n = some .local) (hj : X.N[j]? = some y) (hlj : Loc X.env.scope y) (hfy : X.fn y = true ∨ X.env.scope.names.lookup y = some .local) (hc : Names X x c) (tk : Takes X Wout)
    (hn : ∀ (a : Addr) (pn : List (Addr × Obj)), PE (X.suite a pn) (.Name n p2) (tVar i)) (hsw : swapsWith (.Name n p2) (some (.Name y p1)) p3.line X.env = pure false)
    (hb : ∀ (W : WX) (pn : List (Addr × Obj)) (xe : Value → Shared → Prop), Takes (X.tr pn xe) W → PassesOwn (model X.prog X.w) X.A X.env xe → PSs (X.tr pn xe) body (tb W)) :
    PS X (.Try body [.ExceptHandler (some (.Name x np)) (some n) [.Assign [.Name y p1] (.Name n p2) p3] pos'] [] [] pos) (fun D σ H => tb (wKeep X.K X.N.length c i j Wout D) D σ H) := by
  refine ⟨fun pins s σ H D I h => ?_⟩
  have ok := I.ok
  have hfr : X.A.frames = some (X.env :: X.outer) := by rw [ok.frames, hs]
  refine wpAny_Try_except ?_
  refine wpAny_mono ((hb (wKeep X.K X.N.length c i j Wout D) (X.pn ++ pins) (fun e s₁ => wpAny (model X.prog X.w) X.A (noteFrame e X.env) (fun _ s₂ => wpAny (model X.prog X.w) X.A (setFlight e none) (fun _ s₃ =>
    wpAny (model X.prog X.w) X.A (handleBy e X.env [.ExceptHandler (some (.Name x np)) (some n) [.Assign [.Name y p1] (.Name n p2) p3] pos']) (SP X pins D) X.xe s₃) X.xe s₂) X.xe s₁) (fun u s' air => ?_) PassesOwn.looking).run [] s σ H D (I.toTry _) h) (fun fl s1 hsp => ?_) (fun e s1 he => he)
  · obtain ⟨a, G, sI, pins', σ', H', cls, d, rfl, J', nb, up, sky, na, os, ag, t, ht, hyes, hno⟩ := air
    have J : Inv X pins σ' H' sI := J'.ofTry ok
    rw [show (X.tr (X.pn ++ pins) _).stack = X.env :: X.outer from hs] at sky
    show wpAny (model X.prog X.w) X.A (noteFrame (.ref a) X.env) _ _ _
    refine Sky.land Zc.steady hfr hf sky fun h3 fl3 up3 => ?_
    have J3 : Inv X pins σ' H' { s' with heap := h3 } := J.landed nb fl3.1 (up.trans up3) os ag
    obtain ⟨oe3, vs3, he3, hz3, hd3⟩ := fl3.there
    have nfr : a ∉ frs (X.env :: X.outer) := fun hm => by
      obtain ⟨_, o', e', hnf⟩ := fl3.2.2.1.mem hm
      rw [he3] at e'; cases e'
      exact hnf _ hd3
    have nL : a ≠ X.env.locals := fun z => nfr (List.mem_filterMap.mpr ⟨X.env, List.mem_cons_self, by rw [hf, z]⟩)
    have nF : a ∉ X.fs := fun hm => by
      obtain ⟨e, he, q⟩ := List.mem_filterMap.mp hm
      exact nfr (List.mem_filterMap.mpr ⟨e, List.mem_cons_of_mem _ he, q⟩)
    have nI : sI.heap.get? a = none := by
      cases z : sI.heap.get? a with
      | none => rfl
      | some o =>
        have q := nb a o z (by rw [show (X.tr (X.pn ++ pins) _).stack = X.env :: X.outer from hs]; exact nfr)
        rw [fl3.2.1] at q; cases q
    have n0 : X.s_0.heap.get? a = none := by
      cases z : X.s_0.heap.get? a with
      | none => rfl
      | some o =>
        obtain ⟨o', q⟩ := J.base.there a o z (by rw [hex]; exact fun z => nomatch z)
        rw [nI] at q; cases q
    have S3 := J3.suite he3 hd3 na nL nF
    refine wpAny_handleBy_cons (codeAny_handlers_test ?_) (by intro q; cases q)
    have LT : PySem.W.Looks (model X.prog X.w) h3 (typeOf (.ref a)) cls := fun A Q E s k q => wpAny_typeOf_ref (k _ _ he3) (by rw [hz3.1]; exact q)
    have LM := PySem.W.exm_one (M := model X.prog X.w) (J3.kIn) LT ht
    have test : ∀ {Q : Value → Shared → Prop} {E : Value → Shared → Prop}, Q c { s' with heap := h3 } → wpAny (model X.prog X.w) (X.A.mark (some (.ref a))) (eval (.Name x np) X.env) Q E { s' with heap := h3 } := fun {Q E} q => by
      obtain ⟨hg, hdbg, hm | ⟨hm, hv, hnn⟩⟩ := hc
      · exact ld_glob (X := X.suite a ((a, oe3) :: (X.pn ++ pins))) S3 hg hm q hdbg
      · exact ld_blt (X := X.suite a ((a, oe3) :: (X.pn ++ pins))) S3 hg hm hv q hnn hdbg
    refine test (LM.here ?_)
    cases t with
    | true =>
      obtain ⟨C, ec, hyes⟩ := hyes rfl J.len
      refine codeAny_handlers_suite_as ?_
      refine HandSPX.lands_againZ fl3 fun h4 fl4 up4 => ?_
      have J4 : Inv X pins σ' H' { s' with heap := h4 } := J.landed nb fl4.1 ((up.trans up3).trans up4) os ag
      obtain ⟨oe4, vs4, he4, hz4, hd4⟩ := fl4.there
      have S4 := J4.suite he4 hd4 na nL nF
      refine store_ok (X := X.suite a ((a, oe4) :: (X.pn ++ pins))) (v := .ref a) S4 hN hi (.inl hln) rfl (fun s5 S5 => ?_) (.inr hln)
      have hlen : i < σ'.length := by rw [J4.len]; exact (List.getElem?_eq_some_iff.mp hi).1
      refine wpAny_mono ((pss_one (ps_set (X := X.suite a ((a, oe4) :: (X.pn ++ pins))) (pos := p3) (pos' := p1) hN hj hlj (hn a _) hsw hfy)).run [] s5 _ H' { nx := fun σ6 H6 => σ6 = (σ'.set i (some (.ref a))).set j (some (.ref a)) ∧ H6 = H', rt := fun _ _ => False } S5 ⟨.ref a, by rw [List.getElem?_set_self hlen], rfl, rfl⟩) (fun fl s6 hsp => ?_) (fun _ _ z => False.elim z)
      cases fl with
      | next =>
        obtain ⟨σ6, H6, S6, rfl, rfl⟩ := hsp
        have pin6 := S6.pin (a, oe4) (List.mem_append_left _ List.mem_cons_self)
        have J6 := inv_track (o := ExcO C d a) (S6.unsuite ok) na n0 (fun p hp z => by
          have q := (J.pin p hp).1
          rw [z, nI] at q; cases q) nL (fun z k e q => by
          obtain ⟨v, o, w1, _⟩ := J.cell z k e
          rw [q, nI] at w1; cases w1) (excO_ok pin6.1 (by rw [← ec]; exact hz4) hd4)
        exact gone_ok J6 hN hi hln fun s7 J7 => ⟨_, _, J7, hyes a na⟩
      | brk => exact (hsp.elim fun _ z => z.elim fun _ z => z.2).elim
      | cont => exact (hsp.elim fun _ z => z.elim fun _ z => z.2).elim
      | ret u =>
        obtain ⟨v6, σ6, H6, S6, r6, q6⟩ := hsp
        exact q6.elim
    | false =>
      show wpAny _ X.A (handleBy (.ref a) X.env []) _ _ _
      refine wpAny_handleBy_nil ?_
      obtain ⟨f1, f2, f3, oe, vs, T, oT, ts', he, hz, hd, h1, hr⟩ := id fl3
      unfold PySem.passOn
      refine wpAny_bind (wpAny_field he hd h1 ?_)
      rw [if_neg (show ¬ ((Value.ref T == Value.none) = true) from by simp)]
      have fin : wpAny (model X.prog X.w) X.A (setFlight (.ref a) X.env.frame) (fun _ s4 => wpAny (model X.prog X.w) X.A (throw (.ref a) : Sem Flow) (SP X pins D) X.xe s4) X.xe { s' with heap := h3 } := by
        rw [hf]
        refine HandSPX.setFlight_upZ fl3 fun h4 hh4 up4 => wpAny_throw (tk _ _ ?_)
        exact ⟨a, G, sI, pins, σ', H', cls, d, rfl, J, nb, (up.trans up3).trans up4, .inr (.inr (by rw [hs]; exact hh4)), na, os, ag, hno rfl⟩
      first
        | exact wpAny_bind (wpAny_pure (wpAny_bind fin))
        | exact wpAny_bind fin
  · cases fl with
    | next =>
      obtain ⟨σ', H', J', q⟩ := hsp
      exact wpAny_execs_nil ⟨σ', H', J'.ofTry ok, q⟩
    | brk =>
      obtain ⟨σ', H', J', q⟩ := hsp
      exact ⟨σ', H', J'.ofTry ok, q⟩
    | cont =>
      obtain ⟨σ', H', J', q⟩ := hsp
      exact ⟨σ', H', J'.ofTry ok, q⟩
    | ret u =>
      obtain ⟨v, σ', H', J', r, q⟩ := hsp
      exact ⟨v, σ', H', J'.ofTry ok, r, q⟩
end
end DL

namespace DL
open PySem PySem.Spec L2
open PyProof.Rows hiding St
/-! ### things to call that take nothing -/
/-- s1, H1 come later than s, H -/
structure Lat (s : Shared) (H : Hp) (s1 : Shared) (H1 : Hp) : Prop where
  keep : ∀ b o, s.heap.get? b = some o → H b = none → ∃ sl, s1.heap.get? b = some { o with slots := sl }
  free : ∀ b o, s.heap.get? b = some o → H b = none → H1 b = none
theorem Lat.trans {s s1 s2 : Shared} {H H1 H2 : Hp} (a : Lat s H s1 H1) (b : Lat s1 H1 s2 H2) : Lat s H s2 H2 :=
  ⟨fun p o e n => by
    obtain ⟨sl, e1⟩ := a.keep p o e n
    obtain ⟨sl2, e2⟩ := b.keep p _ e1 (a.free p o e n)
    exact ⟨sl2, e2⟩, fun p o e n => by
    obtain ⟨sl, e1⟩ := a.keep p o e n
    exact b.free p _ e1 (a.free p o e n)⟩
theorem lat_of {X : Cx} {pins : List (Addr × Obj)} {σ : L2.St} {H : Hp} {s : Shared} (I : Inv X pins σ H s) (hx : X.ex = []) : Lat X.s_0 X.H_0 s H :=
  ⟨fun b o e n => I.base.any e n (by rw [hx]; exact fun z => nomatch z), fun b o e n => I.base.free b o e n (by rw [hx]; exact fun z => nomatch z)⟩
abbrev TL := (D → Prop) → (D → Prop) → Prop
/-- the object at f, called at any later time, does as tl says -/
def CallD (P : Program) (w : World) (K : PySem.W.Frag) (mg : Str → Option Value) (base : Heap) (T : List (Addr × Str)) (k : Nat) (s : Shared) (F H : Hp) (W : DW) (f : Addr) (tl : TL) : Prop :=
  ∀ (A : Around) (outer : List PySem.Env) (s1 : Shared) (F1 H1 : Hp) (W1 : DW) (Q : VK) (E : XK) (P' RX : D → Prop), Rm k A → Env0 P w K mg base A outer s1 H1 → Lat s H s1 H1 → Ret ⟨F, H, W, T⟩ F1 H1 W1 → tl P' RX →
    (∀ d v F' W' H', P' d → Ret ⟨F1, H1, W1, T⟩ F' H' W' → Den K W' F' v d → Q v H') → (∀ cls dd H', liftX K ⟨F1, H1, W1, T⟩ RX cls dd H' → E cls dd H') →
    PySem.W.FnAt f s1.heap ∧ codeAny (model P w) A (.call (.ref f) ⟨[], []⟩) (CR (L2.CX P w) outer P w H1 s1 Q E) s1
section
variable {P : Program} {w : World} {K : PySem.W.Frag} {mg : Str → Option Value} {base : Heap} {T : List (Addr × Str)} {k : Nat} {s s1 : Shared} {F H F1 H1 : Hp} {W W1 : DW} {f : Addr} {tl : TL}
theorem CallD.later (c : CallD P w K mg base T k s F H W f tl) (l : Lat s H s1 H1) (r : Ret ⟨F, H, W, T⟩ F1 H1 W1) : CallD P w K mg base T k s1 F1 H1 W1 f tl := fun A outer s2 F2 H2 W2 Q E P' RX hr e0 l2 r2 h k1 k2 =>
  c A outer s2 F2 H2 W2 Q E P' RX hr e0 (l.trans l2) (r.trans r2) h k1 k2
end

def shOnly (δ : Env) : Env := δ.map fun s => match s with
  | some (.sh d) => some (.sh d)
  | _ => none
theorem shOnly_get {δ : Env} {i : Nat} {s : Sl} (h : (shOnly δ)[i]? = some (some s)) : ∃ d, s = .sh d ∧ δ[i]? = some (some (.sh d)) := by
  unfold shOnly at h
  rw [List.getElem?_map] at h
  cases q : δ[i]? with
  | none => rw [q] at h; cases h
  | some o =>
    rw [q] at h
    cases o with
    | none => cases h
    | some s0 =>
      cases s0 with
      | sh d => cases h; exact ⟨d, rfl, rfl⟩
      | _ => cases h
theorem has_plain {W : DW} {F H : Hp} {a : Addr} (x : DrawOk W F H) (h : has W a) : ∃ o, H a = some o ∧ plainO o := by
  obtain ⟨w, e, h⟩ := h
  obtain ⟨⟨ls, r, t, h1, h2, h3, _⟩, _⟩ := x w e
  rcases h with h | h | h <;> subst h
  · exact ⟨_, h1, trivial⟩
  · exact ⟨_, h2, trivial⟩
  · exact ⟨_, h3, trivial⟩
section
open LamX
variable {X : Cx} {pins : List (Addr × Obj)} {σ : L2.St} {H : Hp} {s s1 : Shared}
theorem lam_start {A : Around} {outer : List PySem.Env} {E : XK} {scope : Scope} {f c' : Addr} {h₁ : Heap} {tk : Nat} {HZ : Hp} (I : Inv X pins σ H s) (L : LamS X.env.scope scope) (e0 : Env0 X.prog X.w X.K X.mg X.base A outer s1 HZ) (hd : A.handled = none)
    (lat : Lat s H s1 HZ) (hns : h₁.Ns s1.heap.objs.size fun y => ([] : List (Str × Value)).reverse.lookup y) (kp : ∀ b o, s1.heap.get? b = some o → h₁.get? b = some o) :
    Inv (lamCx X A outer s1 HZ E scope f c') [] σ HZ { s1 with heap := h₁, toks := tk } := by
  have hfree := L.has I.ok
  have cm : ∀ {y c}, (cloFrom X.env.cells scope.names []).lookup y = some c → X.env.cells.lookup y = some c := fun {y c} e => by
    rcases cloFrom_mem (PySem.mem_of_lookup e) with hm | ⟨h1, h2⟩
    · cases hm
    · obtain ⟨c1, hc⟩ := hfree _ h1 rfl
      have hc2 : X.env.cells.lookup y = some c1 := hc
      rw [hc2] at h2
      rw [show c = c1 from h2]; exact hc2
  have look : ∀ {y}, scope.names.lookup y = some .free → ∃ c, (cloFrom X.env.cells scope.names []).lookup y = some c := fun {y} hl =>
    mem_lookup (cloFrom_has (cells := X.env.cells) (acc := []) (show (y, NameKind.free) ∈ scope.names from PySem.mem_of_lookup hl))
  have cellK : ∀ {c : Addr} {v : Option Value}, H c = none → s.heap.IsCell c v → h₁.IsCell c v := fun {c v} n ⟨o, ho, hd⟩ => by
    obtain ⟨sl, q⟩ := lat.keep c o ho n
    exact ⟨_, kp _ _ q, hd⟩
  have noA : ∀ b : Addr, b ∉ (lamCx X A outer s1 HZ E scope f c').ex := fun b z => nomatch (show b ∈ ([] : List Addr) from z)
  refine ⟨⟨e0.mod, L.kind, rfl, rfl, Nat.le_refl _, fun y z c e1 e2 => I.ok.inj y z c (cm e1) (cm e2), fun y hy => ?_, fun y c z _ => ?_, fun _ => hd, Around.frames_deeper e0.frames, .inr ⟨rfl, rfl⟩, fun b z => absurd z (noA b), e0.bs, e0.bsz, fun b _ _ => noA b,
      fun b z => absurd z (noA b), e0.funs, e0.frf⟩,
    rfl, e0.bare, Un.kept kp, ⟨_, hns, fun i y v e1 e2 e3 => ?_⟩, fun y c e => ?_, e0.hok.fresh (Nat.le_refl _), fun y c e => ?_, fun q hq => (nomatch (show q ∈ ([] : List (Addr × Obj)) from hq)), e0.hok.kept kp, I.len⟩
  · rcases (show scope.names.lookup y = some .cell ∨ scope.names.lookup y = some .free from hy) with hy | hy
    · exact absurd rfl (L.own _ (PySem.mem_of_lookup hy)).2
    · exact look hy
  · exact Bool.noConfusion (show false = true from z)
  · rcases (show Vis scope y from e3) with k | k | k
    · exact absurd rfl (L.own _ (PySem.mem_of_lookup k)).1
    · exact absurd rfl (L.own _ (PySem.mem_of_lookup k)).2
    · obtain ⟨m, hn, hl⟩ := I.loc
      have fr := L.free _ (PySem.mem_of_lookup k) rfl
      obtain ⟨w', r, q⟩ := hl i y v e1 e2 (fr.elim (fun k => .inr (.inl k)) fun k => .inr (.inr k))
      obtain ⟨c2, h2⟩ := look k
      refine ⟨w', r, .inr ⟨.inr k, c2, h2, ?_⟩⟩
      have c1 := cm h2
      rcases q with ⟨k', _⟩ | ⟨_, c3, e', z⟩
      · have k'' : X.env.scope.names.lookup y = some .local := k'
        rcases fr with k2 | k2 <;> rw [show X.env.scope.names.lookup y = _ from k2] at k'' <;> cases k''
      · rw [c1] at e'
        cases e'
        exact cellK (I.freeC y _ c1) z
  · obtain ⟨w', z⟩ := I.cell y c (cm e)
    exact ⟨w', cellK (I.freeC y c (cm e)) z⟩
  · obtain ⟨v, o, ho, hd⟩ := I.cell y c (cm e)
    exact lat.free c o ho (I.freeC y c (cm e))
theorem callD_lam {B : Base} {g : Gs} {δ : Env} {tb : TDX} {k : Nat} {scope : Scope} {params : Arguments} {body : Expr} {f c' : Addr} {pm ctv : Value} (I : Inv X pins σ H s) (S : Stt X.K B g H σ δ) (L : LamS X.env.scope scope)
    (hf : s.heap.get? f = some (PySem.W.kla_obj "<lambda>" (X.env.qual ++ "<lambda>") params body scope (cloFrom X.env.cells scope.names []) pm c' ctv)) (hfn : H f = none) (hc : H c' = some (CodeO c' (X.env.qual ++ "<lambda>")))
    (hbind : bindArgs (PySem.W.kla_fn "<lambda>" (X.env.qual ++ "<lambda>") params body scope (cloFrom X.env.cells scope.names []) pm (.ref c') ctv) ⟨[], []⟩ = pure [])
    (hbody : ∀ (A : Around) (outer : List PySem.Env) (s1 : Shared) (H1 : Hp) (E : XK) (B' : Base), B'.T = B.T → Rm k (A.deeper (lamEnv X scope s1.heap.objs.size f c')) → DE (lamCx X A outer s1 H1 E scope f c') B' body tb) :
    CallD X.prog X.w X.K X.mg X.base B.T (k + 1) s g.F H g.W f (fun P' RX => tb RX (shOnly δ) fun d _ => P' d) := by
  intro A outer s1 F1 H1 W1 Q E P' RX hr e0 lat ret htl k1 k2
  obtain ⟨sl, of1⟩ := lat.keep f _ hf hfn
  refine ⟨⟨_, _, _, _, of1⟩, ?_⟩
  have nh : ¬ has W1 c' := fun h => by
    by_cases q : has g.W c'
    · obtain ⟨o, e, po⟩ := has_plain S.ret.drw q
      rw [hc] at e; cases e; exact po
    · have z := ret.dnew c' h q
      rw [show (Base.mk g.F H g.W B.T).H c' = H c' from rfl, hc] at z; cases z
  have hc1 : H1 c' = some (CodeO c' (X.env.qual ++ "<lambda>")) := ret.old c' _ hc nh fun ps z => codeO_ne ps z
  obtain ⟨⟨oc, vs, t, hoc, hdc, hvc⟩, _, _⟩ := e0.hok c' _ hc1
  refine PySem.W.kla_callFunE hr.room.depth of1 rfl L.co L.gen rfl ⟨c', oc, vs, t, rfl, hoc, hdc, hvc⟩ ?_
  rw [hbind]
  have lim : s1.heap.NoLimit := e0.mod.nolimit.keeps fun b o e => (e0.bs b o e).1
  refine wpAny_pure (wpAny_newFunctionEnv (fun y hy => (L.own y hy).2) (fun y hy => (nomatch hy)) (fun h₁ hns hsb => ⟨lim.fresh _ hsb, ?_⟩) L.kind)
  show codeAny _ _ (.expr body (lamEnv X scope s1.heap.objs.size f c')) _ _
  have kp : ∀ b o, s1.heap.get? b = some o → h₁.get? b = some o := fun b o e => hsb.extBut b o (Nat.ne_of_lt (Heap.lt_size e)) (Heap.get?_push_of_some _ e)
  have J : Inv (lamCx X A outer s1 H1 E scope f c') [] σ H1 { s1 with heap := h₁, toks := s1.toks + ([] : List (Str × Value)).length } := lam_start I L e0 hr.room.hd lat hns kp
  have tk := takes_of (X := lamCx X A outer s1 H1 E scope f c') (E := E) rfl rfl rfl rfl
  have body := (hbody A outer s1 H1 E ⟨F1, H1, W1, B.T⟩ rfl (hr.deeper _)).run RX (tk.imp fun c d σ H' hx => k2 c d H' hx)
  have St : Stt X.K ⟨F1, H1, W1, B.T⟩ ⟨F1, fun _ => none, W1⟩ H1 σ (shOnly δ) := ⟨Ret.refl ret.gd, fun a k e => (nomatch e), by unfold shOnly; rw [List.length_map]; exact S.len, fun i sl e => by
    obtain ⟨d, rfl, e2⟩ := shOnly_get e
    obtain ⟨v, e3, r⟩ := S.env i _ e2
    exact ⟨v, e3, r.up ret.up ret.wle⟩⟩
  refine PySem.W.kla_codeExpr (wpAny_mono (body.run [] _ _ H1 Q J ⟨_, _, _, St, htl, fun d δ' g' H' v hp _ S' r => k1 d v _ _ H' hp S'.ret r⟩) (fun v s' hq => ?_) fun e s' hq => hq)
  obtain ⟨w', H', J', rv, q⟩ := hq
  exact ⟨w', H', J'.os, J'.bare, J'.base, J'.hok, rv, q⟩
end

section
open LamX
variable {X : Cx} {pins : List (Addr × Obj)} {σ : L2.St} {H : Hp} {s : Shared}
/-- a lambda is made; what is tracked stays tracked -/
theorem lam_new {T : List (Addr × Str)} {c P : Addr} {params : Arguments} {body : Expr} {scope : Scope} {pos : Pos} {E : Value → Shared → Prop} {Q : Value → Shared → Prop} (I : Inv X pins σ H s) (TB : TabB X.base X.mg c P) (hcode : X.env.code = .ref c)
    (hm : (P, X.env.qual ++ "<lambda>") ∈ T) (hu : ∀ p ∈ T, p.1 = P → p.2 = X.env.qual ++ "<lambda>") (hT : Tabs T H) (hdef : defaultsOf params X.env = ([], [])) (hfree : ∀ y ∈ scope.names, y.2 = .free → ∃ c, X.env.cells.lookup y.1 = some c)
    (h : ∀ (f c' : Addr) (pm ctv : Value) (H1 : Hp) (s' : Shared), Inv X pins σ H1 s' → ExtN H H1 → (∀ a, H a ≠ none → H1 a ≠ none) → Tabs T H1 →
      s'.heap.get? f = some (PySem.W.kla_obj "<lambda>" (X.env.qual ++ "<lambda>") params body scope (cloFrom X.env.cells scope.names []) pm c' ctv) → H1 f = none → H1 c' = some (CodeO c' (X.env.qual ++ "<lambda>")) → Q (.ref f) s') :
    wpAny (model X.prog X.w) X.A (eval (.Lambda params body scope pos) X.env) Q E s := by
  obtain ⟨ps, hP, ht, ha⟩ := hT _ hm
  refine PySem.W.kla_eval hdef ?_
  have bP : s.heap.BuiltinsAt X.mg P := TB.bm.keeps I.bk
  have hP' : s.heap.get? P = some { cls := .none, data := .fields ps } := I.hok P _ hP
  cases hc : codeAmong pos ps.toList with
  | some cv =>
    obtain ⟨c', e, hco⟩ := ha pos cv hc
    subst e
    refine PySem.W.kla_makeFunctionHit (mg := X.mg) (c := c) (P := P) (ps := ps) (closure_ok hfree) I.ok.glob (I.mod.glob.keeps I.bk) hcode (TB.code.keeps I.bk) hP' ht hc bP fun ctv h' tk hx hsz => ?_
    exact h h'.objs.size c' ((X.mg "__name__").getD .none) ctv H _ (I.kept fun b o e => Heap.get?_push_of_some _ (hx b o e)) (ExtN.refl H) (fun _ z => z) hT (Heap.get?_push_size _ rfl) (I.hok.fresh hsz) hco
  | none =>
    refine PySem.W.kla_makeFunction (mg := X.mg) (c := c) (P := P) (ps := ps) (closure_ok hfree) I.ok.glob (I.mod.glob.keeps I.bk) hcode (TB.code.keeps I.bk) hP' ht hc TB.gP bP fun c' ctv h' tk hx hge hlt hrec htb => ?_
    obtain ⟨c2, oc, vs, t, e2, hoc, hd, hv⟩ := hrec
    cases e2
    have hsz : s.heap.objs.size ≤ h'.objs.size := Nat.le_trans hge (Nat.le_of_lt hlt)
    have nC : H c' = none := I.hok.fresh hge
    have I1 := inv_table (t' := tk) (more := #[rawInt pos.line, rawInt pos.col, .ref c']) (h' := h'.push (PySem.W.kla_obj "<lambda>" (X.env.qual ++ "<lambda>") params body scope (cloFrom X.env.cells scope.names []) ((X.mg "__name__").getD .none) c' ctv)) I hP
      (fun b o hb e => Heap.get?_push_of_some _ (hx b o hb e)) (Heap.get?_push_of_some _ htb) hge ⟨oc, vs, t, Heap.get?_push_of_some _ hoc, hd, hv⟩
    have hE : ExtN H (upd (upd H P (.tbl (ps ++ #[rawInt pos.line, rawInt pos.col, .ref c']))) c' (CodeO c' (X.env.qual ++ "<lambda>"))) := fun b o e n => by
      rw [upd_ne (ne_of_none e nC), upd_ne (fun z => n ps (Option.some.inj (e.symm.trans (by rw [z]; exact hP))))]
      exact e
    have eL : (ps ++ #[rawInt pos.line, rawInt pos.col, .ref c']).toList = ps.toList ++ [rawInt pos.line, rawInt pos.col, .ref c'] := by simp
    refine h h'.objs.size c' ((X.mg "__name__").getD .none) ctv _ _ I1 hE (fun a z => upd_thr a (upd_thr a z)) (fun p hp => ?_) (Heap.get?_push_size _ rfl) ?_ upd_same
    · by_cases hb : p.1 = P
      · rw [hu p hp hb, hb]
        refine ⟨_, by rw [upd_ne (ne_of_none hP nC), upd_same], by rw [eL]; exact PySem.TriplesOk_snoc _ _ _ _ ht, fun p' cv hcv => ?_⟩
        rw [eL] at hcv
        rcases among_app _ ht hcv with z | z
        · obtain ⟨c0, e1, e2⟩ := ha p' cv z
          exact ⟨c0, e1, hE _ _ e2 codeO_ne⟩
        · exact ⟨c', z, upd_same⟩
      · obtain ⟨ps', a1, a2, a3⟩ := hT p hp
        refine ⟨ps', by rw [upd_ne (ne_of_none a1 nC), upd_ne hb]; exact a1, a2, fun p' cv hcv => ?_⟩
        obtain ⟨c0, e1, e2⟩ := a3 p' cv hcv
        exact ⟨c0, e1, hE _ _ e2 codeO_ne⟩
    · rw [upd_ne (Nat.ne_of_gt hlt), upd_ne (Nat.ne_of_gt (Nat.lt_of_lt_of_le (Heap.lt_size hP') hsz))]
      exact I.hok.fresh hsz
end
section
variable {K : PySem.W.Frag} {B : Base} {g : Gs} {H : Hp} {σ : L2.St} {δ : Env} {n : Nat}
theorem Stt.extN {H1 : Hp} (S : Stt K B g H σ δ) (e : LamX.ExtN H H1) (th : ∀ a, H a ≠ none → H1 a ≠ none) (t : LamX.Tabs B.T H1) : Stt K B g H1 σ δ ∧ Step n g H g H1 := by
  have kp : ∀ a o, H a = some o → plainO o → H1 a = some o := fun a o h p => e a o h p.tbl
  refine ⟨⟨⟨fun a o h => e a o (S.ret.sub a o h) (S.ret.fnt a o h), S.ret.up, fun a o h nh nt => e a o (S.ret.old a o h nh nt) nt, fun a h => th a (S.ret.there a h), S.ret.froz, S.ret.wle, S.ret.drw.keep fun a ha => ⟨?_, rfl⟩, t, S.ret.dnew, S.ret.fnt⟩, fun a k h => ?_, S.len, fun i sl q => ?_⟩, ⟨Up.refl _, WLe.refl _, th, fun a k h _ => ⟨h, ?_⟩⟩⟩
  · obtain ⟨o, z, p⟩ := has_plain S.ret.drw ha
    rw [z, kp a o z p]
  · obtain ⟨c1, c2, ⟨o, c3, c5⟩, c4⟩ := S.own a k h
    exact ⟨c1, c2, ⟨o, kp a o c3 c5, c5⟩, c4⟩
  · have z := S.env i sl q
    cases sl with
    | sh d => exact z
    | ol ds =>
      obtain ⟨a, xs, e1, e2, e3, r⟩ := z
      exact ⟨a, xs, e1, e2, kp _ _ e3 trivial, r⟩
    | od kvs =>
      obtain ⟨a, ks, e1, e2, e3, r⟩ := z
      exact ⟨a, ks, e1, e2, kp _ _ e3 trivial, r⟩
    | oi m c fs =>
      obtain ⟨a, dx, gs, e1, e2, e3, r⟩ := z
      exact ⟨a, dx, gs, e1, e2, kp _ _ e3 trivial, r⟩
  · obtain ⟨_, _, ⟨o, c3, c5⟩, _⟩ := S.own a k h
    rw [c3, kp a o c3 c5]
end
/-! ### a def that takes such a thing -/
structure FnC (P : Program) (w : World) (K : PySem.W.Frag) (mg : Str → Option Value) (base : Heap) (T : List (Addr × Str)) (x : Str) (kc k : Nat) (wpG : TL → TL) : Prop where
  ex : ∃ (f : Addr) (fd : FuncData) (a : Str), mg x = some (.ref f) ∧ PySem.W.keepIn K (.ref f) = true ∧ (∀ (s : Shared) (u : Value), BindsTo s fd ⟨[u], []⟩ [(a, u)]) ∧
    ∀ (A : Around) (outer : List PySem.Env) (s : Shared) (F H : Hp) (W : DW) (u : Value) (fl : Addr) (tl : TL) (Q : VK) (E : XK) (P' RX : D → Prop), u = .ref fl → Rm k A → Env0 P w K mg base A outer s H → Gd T F H W → BindsTo s fd ⟨[u], []⟩ [(a, u)] → CallD P w K mg base T kc s F H W fl tl → wpG tl P' RX →
      (∀ d v F' W' H', P' d → Ret ⟨F, H, W, T⟩ F' H' W' → Den K W' F' v d → Q v H') → (∀ cls dd H', liftX K ⟨F, H, W, T⟩ RX cls dd H' → E cls dd H') → codeAny (model P w) A (.call (.ref f) ⟨[u], []⟩) (CR (L2.CX P w) outer P w H s Q E) s
section
open LamX
variable {X : Cx} {B : Base} {x : Str} {kc k : Nat} {wpG : TL → TL} {p lpos pos : Pos} {tb : TDX}
def dLam (wpG : TL → TL) (tb : TDX) : TDX := fun rx δ P => wpG (fun P' RX => tb RX (shOnly δ) fun d _ => P' d) (fun d => P d δ) rx
theorem de_lam {c Pt : Addr} {params : Arguments} {body : Expr} {scope : Scope} (G : FnC X.prog X.w X.K X.mg X.base B.T x (kc + 1) k wpG) (hr : Rm k X.A) (hg : Gl X x) (TB : TabB X.base X.mg c Pt) (hcode : X.env.code = .ref c) (hmT : (Pt, X.env.qual ++ "<lambda>") ∈ B.T) (hu : ∀ p ∈ B.T, p.1 = Pt → p.2 = X.env.qual ++ "<lambda>")
    (L : LamS X.env.scope scope) (hdef : defaultsOf params X.env = ([], [])) (hbind : ∀ (q : Str) (cl : List (Str × Addr)) (pm cv ctv : Value), bindArgs (PySem.W.kla_fn "<lambda>" q params body scope cl pm cv ctv) ⟨[], []⟩ = pure [])
    (hbody : ∀ (f c' : Addr) (A : Around) (outer : List PySem.Env) (s1 : Shared) (H1 : Hp) (E : XK) (B' : Base), B'.T = B.T → Rm kc (A.deeper (lamEnv X scope s1.heap.objs.size f c')) → DE (lamCx X A outer s1 H1 E scope f c') B' body tb)
    (hdb : (x == ("__debug__" : Str)) = false := by decide) : DE X B (.Call (.Name x p) [.Lambda params body scope lpos] [] pos) (dLam wpG tb) := by
  obtain ⟨f, fd, a, hm, hk, hb, go⟩ := G.ex
  refine ⟨fun rx tk => ⟨fun pins s σ H Q I h => ?_⟩⟩
  obtain ⟨g, δ, P, S, q, k1⟩ := h
  refine wpAny_Call_Name_kw (ld_glob I hg hm ?_ hdb)
  refine PySem.W.callWith_K (h₀ := X.base) I.ok.mod.kin hk ?_ (by rfl) (by rfl)
  show wpAny _ _ (spliced ((false, eval (.Lambda params body scope lpos) X.env) :: backTo pos (starEach [] X.env))) _ _ s
  refine Calls.spliced_cons (lam_new I TB hcode hmT hu S.ret.tab hdef (L.has I.ok) fun fl c' pm ctv H1 s' I1 eN th T1 hf hfn hco => Calls.spliced_nil ⟨I1.kIn, ?_⟩)
  obtain ⟨S1, st1⟩ := S.extN (n := X.N.length) eN th T1
  have CA := callD_lam (tb := tb) (k := kc) I1 S1 L hf hfn hco (hbind _ _ _ _ _) (fun A o s1 H1 E B' e hr => hbody fl c' A o s1 H1 E B' e hr)
  refine wpAny_call (codeAny_mono (go X.A X.stack s' g.F H1 g.W (.ref fl) fl _ Q (liftX X.K B rx) _ rx rfl hr I1.env0 S1.ret.gd (hb s' _) CA q (fun d v F' W' H' hp rt dn => ?_) fun cls dd H' hx => liftX.trans S1.ret hx) fun r s2 hq => ?_)
  · obtain ⟨S2, st2⟩ := S1.after (n := X.N.length) rt
    exact k1 d δ _ H' v hp (st1.trans st2) S2 dn
  · have z := after_call I1 (passes_lift tk) hq
    rcases r with e | fl
    · exact z
    · cases fl <;> exact z
end
end DL

namespace DL
open PySem PySem.Spec L2
open PyProof.Rows hiding St
section
variable {X : Cx} {B : Base} {kc k i : Nat} {fl : Addr} {tl : TL} {wpG : TL → TL} {a x : Str} {p p1 p2 pos : Pos}
/-- a(), a the parameter that holds such a thing -/
def dThunk (i : Nat) (fl : Addr) (tl : TL) : TDX := fun rx δ P => δ[i]? = some (some (.sh (.adr fl))) ∧ tl (fun d => P d δ) rx
theorem de_thunk (CA : CallD X.prog X.w X.K X.mg X.base B.T kc X.s_0 B.F B.H B.W fl tl) (hH : B.H = X.H_0) (hx : X.ex = []) (hr : Rm kc X.A) (hn : PE X (.Name a p1) (tVar i)) : DE X B (.Call (.Name a p1) [] [] p2) (dThunk i fl tl) := by
  refine ⟨fun rx tk => ⟨fun pins s σ H Q I h => ?_⟩⟩
  obtain ⟨g, δ, P, S, ⟨e, q⟩, k1⟩ := h
  obtain ⟨v, e1, r⟩ := S.env i _ e
  cases r
  refine wpAny_Call_Name_kw (thn (hn.run pins s σ H (fun v H1 => v = .ref fl ∧ H1 = H) I ⟨_, e1, rfl, rfl⟩) fun u s1 ⟨v, H1, I1, r1, q1⟩ => ?_)
  obtain ⟨rfl, rfl⟩ := q1
  obtain rfl : u = Value.ref fl := r1
  have z := CA X.A X.stack s1 g.F H1 g.W Q (liftX X.K B rx) _ rx hr I1.env0 (by rw [hH]; exact lat_of I1 hx) S.ret q (fun d v F' W' H' hp rt dn => by
    obtain ⟨S2, st2⟩ := S.after (n := X.N.length) rt
    exact k1 d δ _ H' v hp st2 S2 dn) fun cls dd H' hx => liftX.trans S.ret hx
  refine PySem.W.callWith_F0 z.1 (wpAny_call (codeAny_mono z.2 fun r s2 hq => ?_))
  have z := after_call I1 (passes_lift tk) hq
  rcases r with e | fl
  · exact z
  · cases fl <;> exact z
/-- g(a) -/
def dPass (i : Nat) (fl : Addr) (tl : TL) (wpG : TL → TL) : TDX := fun rx δ P => δ[i]? = some (some (.sh (.adr fl))) ∧ wpG tl (fun d => P d δ) rx
theorem de_pass (G : FnC X.prog X.w X.K X.mg X.base B.T x kc k wpG) (CA : CallD X.prog X.w X.K X.mg X.base B.T kc X.s_0 B.F B.H B.W fl tl) (hH : B.H = X.H_0) (hx : X.ex = []) (hr : Rm k X.A) (hg : Gl X x) (hn : PE X (.Name a p1) (tVar i)) (hs : starEach [.Name a p1] X.env = (false, eval (.Name a p1) X.env) :: starEach [] X.env := by rfl)
    (hdb : (x == ("__debug__" : Str)) = false := by decide) : DE X B (.Call (.Name x p) [.Name a p1] [] pos) (dPass i fl tl wpG) := by
  obtain ⟨f, fd, a', hm, hk, hb, go⟩ := G.ex
  refine ⟨fun rx tk => ⟨fun pins s σ H Q I h => ?_⟩⟩
  obtain ⟨g, δ, P, S, ⟨e, q⟩, k1⟩ := h
  obtain ⟨v, e1, r⟩ := S.env i _ e
  cases r
  refine wpAny_Call_Name_kw (ld_glob I hg hm ?_ hdb)
  refine PySem.W.callWith_K (h₀ := X.base) I.ok.mod.kin hk ?_ hs (by rfl)
  rw [hs]
  show wpAny _ _ (spliced ((false, eval (.Name a p1) X.env) :: backTo pos (starEach [] X.env))) _ _ s
  refine Calls.spliced_cons (thn (hn.run pins s σ H (fun v H1 => v = .ref fl ∧ H1 = H) I ⟨_, e1, rfl, rfl⟩) fun u s1 ⟨v, H1, I1, r1, q1⟩ => Calls.spliced_nil ⟨I1.kIn, ?_⟩)
  obtain ⟨rfl, rfl⟩ := q1
  obtain rfl : u = Value.ref fl := r1
  have CL := CA.later (s1 := s1) (H1 := H1) (by rw [hH]; exact lat_of I1 hx) S.ret
  refine wpAny_call (codeAny_mono (go X.A X.stack s1 g.F H1 g.W (.ref fl) fl tl Q (liftX X.K B rx) _ rx rfl hr I1.env0 S.ret.gd (hb s1 _) CL q (fun d v F' W' H' hp rt dn => ?_) fun cls dd H' hx => liftX.trans S.ret hx) fun r s2 hq => ?_)
  · obtain ⟨S2, st2⟩ := S.after (n := X.N.length) rt
    exact k1 d δ _ H' v hp st2 S2 dn
  · have z := after_call I1 (passes_lift tk) hq
    rcases r with e | fl
    · exact z
    · cases fl <;> exact z
end
section
variable {P : Program} {w : World} {K : PySem.W.Frag} {mg : Str → Option Value} {base : Heap} {T : List (Addr × Str)}
/-- the def rule, HandS' level -/
theorem run_def {x qual : Str} {params : Arguments} {body : List Stmt} {scope : Scope} {f : Addr} {fd : FuncData} {N ps : List Str} {k : Nat} {A : Around} {outer : List PySem.Env} {s : Shared} {H : Hp} {args : Args} {us : List Value} {vs : List V} {Q : VK} {E : XK} (F : FunD K x qual params body scope [] [] f fd) (S : FnScope N ps scope)
    (hr : Rm (k + 1) A) (e0 : Env0 P w K mg base A outer s H) (hb : BindsTo s fd args (ps.zip us)) (r : Vals vs us) (hl : vs.length = ps.length)
    (hbody : ∀ cdv, cdv = .ref (codeAt K f) → Rm k (A.deeper (envOfC qual scope s.heap.objs.size f cdv)) → ∃ t, PSs (cxOf (L2.CX P w) P w K mg base N qual scope f cdv A outer s H E) body t ∧ t { nx := fun _ H' => Q .non H', rt := Q } (L2.start N vs) H) :
    codeAny (model P w) A (.call (.ref f) args) (CR (L2.CX P w) outer P w H s Q E) s := by
  obtain ⟨oc, od, dV, kV, doc, pm, an, cdv, ct, osl, rfl, lk, hcd, _, _⟩ := F.ex
  have atBase : ∀ b o, base.get? b = some o → s.heap.get? b = some o := fun b o e => (e0.bs b o e).1
  have inK : K.In s.heap := e0.mod.kin.keeps atBase
  refine codeAny_call_function hr.room.depth (inK _ _ lk) rfl S.co S.gen rfl (PySem.W.codeRec_of inK hcd) (hb _ _ _ _ (wpAny_newFunctionEnv_cells S.kind (fun y hy => ?_) fun env he s1 x => ?_))
  · rcases S.par y.1 (List.of_mem_zip (show (y.1, y.2) ∈ ps.zip us from hy)).1 with q | q
    · exact .inl q
    · exact .inr ⟨q, PySem.W.cellsFrom_some _ _ _ (.inl q)⟩
  · subst he
    refine ⟨(e0.mod.nolimit.keeps atBase).keeps x.toInCall.keep, codeAny_func ?_⟩
    have I := inv_start (CX := L2.CX P w) (E := E) (N := N) S hr.room.hd e0 hl r x
    obtain ⟨t, ht, start⟩ := hbody cdv (codeAt_of lk hcd) (hr.deeper _)
    refine wpAny_mono (ht.run [] s1 _ H _ I start) (fun fl s' hs => ?_) fun e s' hs => hs
    cases fl with
    | ret u =>
      obtain ⟨v, σ', H', J, rv, q⟩ := hs
      exact ⟨v, H', J.os, J.bare, J.base, J.hok, rv, q⟩
    | next =>
      obtain ⟨σ', H', J, q⟩ := hs
      exact ⟨V.non, H', J.os, J.bare, J.base, J.hok, rfl, q⟩
    | brk => exact False.elim (hs.elim fun _ z => z.elim fun _ y => y.2)
    | cont => exact False.elim (hs.elim fun _ z => z.elim fun _ y => y.2)
theorem fnC_ok {x qual a : Str} {params : Arguments} {body : List Stmt} {scope : Scope} {f : Addr} {fd : FuncData} {N : List Str} {kc k : Nat} {t : Addr → TL → TDS} (F : FunD K x qual params body scope [] [] f fd) (S : FnScope N [a] scope) (hm : mg x = some (.ref f)) (hb : ∀ (s : Shared) (u : Value), BindsTo s fd ⟨[u], []⟩ [(a, u)])
    (hbody : ∀ (fl : Addr) (tl : TL) (cdv : Value) (A : Around) (outer : List PySem.Env) (s : Shared) (H : Hp) (E : XK) (B : Base), B.T = T → B.H = H → CallD P w K mg base B.T kc s B.F B.H B.W fl tl → Rm k (A.deeper (envOfC qual scope s.heap.objs.size f cdv)) →
      DSs (cxOf (L2.CX P w) P w K mg base N qual scope f cdv A outer s H E) B body (t fl tl)) :
    FnC P w K mg base T x kc (k + 1) (fun tl P' RX => ∀ fl, dBody N.length (t fl tl) [.adr fl] P' RX) := by
  refine ⟨f, fd, a, hm, F.kp, hb, fun A outer s F0 H W u fl tl Q E P' RX hu hr e0 gd hbd CA hw k1 k2 => ?_⟩
  subst hu
  refine run_def (ps := [a]) (us := [.ref fl]) (vs := [.ref fl]) F S hr e0 hbd (.cons rfl .nil) rfl fun cdv hcd hr' => ?_
  have tk := takes_of (X := cxOf (L2.CX P w) P w K mg base N qual scope f cdv A outer s H E) (E := E) rfl rfl rfl rfl
  have bd := (hbody fl tl cdv A outer s H E ⟨F0, H, W, T⟩ rfl rfl CA hr').run RX (tk.imp fun c d σ H' hx => k2 c d H' hx)
  refine ⟨_, bd, ⟨F0, fun _ => none, W⟩, _, { nx := fun _ => P' .non, rt := P' }, stt_start (ds := [.adr fl]) gd (.cons (.adr fl) .nil), hw fl, fun σ' δ' g' H' hn st S' => k1 _ _ _ _ _ hn S'.ret .non, fun d v F' W' H' hq rt dn => k1 d v F' W' H' hq rt dn, fun _ _ _ _ h => h.elim, fun _ _ _ _ h => h.elim⟩
/-! ### y = None / try: a() / except c as n: y = n / return y -/
def tThk (K : PySem.W.Frag) (T : List (Addr × Str)) (F0 H0 : Hp) (W0 : DW) (fl : Addr) (tl : TL) (W : WX) : TE := fun σ H' Q => ∃ (Ech : XK) (F1 : Hp) (W1 : DW) (P1 R1 : D → Prop), (∀ cls d σ' H', Ech cls d H' → W cls d σ' H') ∧ σ[0]? = some (some (.ref fl)) ∧ Ret ⟨F0, H0, W0, T⟩ F1 H' W1 ∧ tl P1 R1 ∧
  (∀ d v F' W' H'', P1 d → Ret ⟨F1, H', W1, T⟩ F' H'' W' → Den K W' F' v d → Q v H'') ∧ ∀ cls dd H'', liftX K ⟨F1, H', W1, T⟩ R1 cls dd H'' → Ech cls dd H''
theorem pe_thk {X : Cx} {kc : Nat} {F0 H0 : Hp} {W0 : DW} {fl : Addr} {tl : TL} {W : WX} {a : Str} {p1 p2 : Pos} (CA : CallD X.prog X.w X.K X.mg X.base T kc X.s_0 F0 H0 W0 fl tl) (hH : H0 = X.H_0) (hx : X.ex = []) (hr : Rm kc X.A) (hn : PE X (.Name a p1) (tVar 0)) (tk : Takes X W) : PE X (.Call (.Name a p1) [] [] p2) (tThk X.K T F0 H0 W0 fl tl W) := by
  refine ⟨fun pins s σ H Q I h => ?_⟩
  obtain ⟨Ech, F1, W1, P1, R1, hW, e1, ret, htl, k1, k2⟩ := h
  refine wpAny_Call_Name_kw (thn (hn.run pins s σ H (fun v H1 => v = .ref fl ∧ H1 = H) I ⟨_, e1, rfl, rfl⟩) fun u s1 ⟨v, H1, I1, r1, q1⟩ => ?_)
  obtain ⟨rfl, rfl⟩ := q1
  obtain rfl : u = Value.ref fl := r1
  have z := CA X.A X.stack s1 F1 H1 W1 Q Ech P1 R1 hr I1.env0 (by rw [hH]; exact lat_of I1 hx) ret htl k1 k2
  refine PySem.W.callWith_F0 z.1 (wpAny_call (codeAny_mono z.2 fun r s2 hq => ?_))
  have z := after_call I1 (passes_call tk fun cls d σ' H' h => hW cls d σ' H' h) hq
  rcases r with e | fl
  · exact z
  · cases fl <;> exact z
theorem Ret.stt {B : Base} {F H : Hp} {W : DW} (r : Ret B F H W) : Stt K B ⟨F, fun _ => none, W⟩ H [] [] := ⟨r, fun a k e => (nomatch e), rfl, fun i s e => by simp at e⟩
def wpCaught (cs : List Str) : TL → TL := fun tl P' RX => tl (fun _ => P' .non) fun e => match e with
  | .exc c fs => c ∈ cs ∧ P' (.exc c fs)
  | _ => False
theorem fnC_caught {x qual a n y c : Str} {params : Arguments} {scope : Scope} {f : Addr} {fd : FuncData} {kc : Nat} {cs : List Str} {j0 : Nat} {p1 p2 p3 p4 p5 p6 p7 p8 p9 p10 p11 p12 p13 p14 : Pos}
    (F : FunD K x qual params [.Assign [.Name y p1] (.Constant .none j0 p2) p3, .Try [.Expr (.Call (.Name a p4) [] [] p5) p6] [.ExceptHandler (some (.Name c p7)) (some n) [.Assign [.Name y p8] (.Name n p9) p10] p11] [] [] p12, .Return (some (.Name y p13)) p14] scope [] [] f fd) (S : FnScope [a, y, n] [a] scope) (hm : mg x = some (.ref f))
    (hb : ∀ (s : Shared) (u : Value), BindsTo s fd ⟨[u], []⟩ [(a, u)]) (la : scope.names.lookup a = some .local) (ly : scope.names.lookup y = some .local) (ln : scope.names.lookup n = some .local) (gc : scope.names.lookup c = some .globalImplicit) (mc : mg c = some (.ref (He.ga K c)))
    (hcs : ∀ z ∈ cs, PySem.W.exmOne K (.ref (He.ga K z)) (.ref (He.ga K c)) = some true) (da : (a == ("__debug__" : Str)) = false) (da2 : (a == ("__classdict__" : Str)) = false) (dy : (y == ("__debug__" : Str)) = false) (dy2 : (y == ("__classdict__" : Str)) = false) (dn : (n == ("__debug__" : Str)) = false) (dn2 : (n == ("__classdict__" : Str)) = false) (dc : (c == ("__debug__" : Str)) = false)
    (sw1 : ∀ env, swapsWith (.Constant .none j0 p2) (some (.Name y p1)) p3.line env = pure false) (sw2 : ∀ env, swapsWith (.Name n p9) (some (.Name y p8)) p10.line env = pure false) (sw3 : ∀ env, swapsWith (.Call (.Name a p4) [] [] p5) none p6.line env = pure false) :
    FnC P w K mg base T x kc (kc + 1) (wpCaught cs) := by
  refine ⟨f, fd, a, hm, F.kp, hb, fun A outer s F0 H W u fl tl Q E P' RX hu hr e0 gd hbd CA hw k1 k2 => ?_⟩
  subst hu
  refine run_def (ps := [a]) (us := [.ref fl]) (vs := [.ref fl]) F S hr e0 hbd (.cons rfl .nil) rfl fun cdv hcd hr' => ?_
  have tk0 : Takes (cxOf (L2.CX P w) P w K mg base [a, y, n] qual scope f cdv A outer s H E) (fun _ _ _ _ => False) := LamX.takes0
  refine ⟨_, pss_cons (ps_set (i := 1) S.nd rfl (.inl ly) pe_non (sw1 _) (.inl rfl)) (pss_cons (ps_catch (i := 2) (j := 1) (c := .ref (He.ga K c)) (Wout := fun _ _ _ _ => False)
      (tb := fun WX0 D σ H' => tThk K T F0 H W fl tl WX0 σ H' fun _ H'' => D.nx σ H'')
      rfl rfl rfl S.nd rfl ln rfl (.inl ly) (.inl rfl) ⟨gc, dc, .inl mc⟩ tk0 (fun a' pn => pe_var (i := 2) rfl (.inl ln) dn dn2) (sw2 _) (fun W0 pn xe tk ps => ?_)) (pss_one (ps_ret (pe_var (i := 1) rfl (.inl ly) dy dy2)))), ?_⟩
  · exact pss_one (ps_expr (pe_thk (X := (cxOf (L2.CX P w) P w K mg base [a, y, n] qual scope f cdv A outer s H E).tr pn xe) CA rfl rfl hr' (pe_var (i := 0) rfl (.inl la) da da2) tk) (sw3 _))
  · have base0 : ∀ {F' H' : Hp} {W' : DW} {v : V} {d : D}, P' d → Ret ⟨F0, H, W, T⟩ F' H' W' → Den K W' F' v d → Q v H' := fun {F' H' W' v d} a b c => k1 d v F' W' H' a b c
    refine ⟨liftX K ⟨F0, H, W, T⟩ _, F0, W, fun _ => P' .non, _, fun cls d σ' H' hx => ?_, rfl, Ret.refl gd, hw, fun d v F' W' H' hp rt dn => ⟨.non, rfl, base0 hp rt .non⟩, fun _ _ _ h => h⟩
    obtain ⟨F1, W1, e, rt, ed, hx⟩ := hx
    cases e with
    | exc z fs =>
      obtain ⟨hz, hp⟩ := hx
      refine ⟨true, by rw [ed.1]; exact hcs z hz, fun _ hl => ⟨He.ga K z, ed.1, fun b hb => ⟨.ref b, ?_, ?_⟩⟩, fun q => Bool.noConfusion q⟩
      · have hl : σ'.length = 3 := hl
        rw [List.getElem?_set_ne (by decide), List.getElem?_set_self (by rw [List.length_set, hl]; decide)]
      · obtain ⟨S2, _⟩ := rt.stt (K := K).alloc (n := 0) (p := b) (o := ExcO (He.ga K z) d b) hb
        rcases ed.2 with ⟨rfl, rfl⟩ | ⟨dd, gs, rfl, hd, hk, rs⟩
        · exact base0 hp S2.ret (.exc0 upd_same)
        · refine base0 hp S2.ret (.exc1 upd_same (dd := dd) ?_ hk (rs.up (up_upd (rt.stt (K := K).Fnone hb)) (WLe.refl _)))
          show upd F1 b _ dd = _
          rw [upd_ne (fun q => by
            have z := rt.sub _ _ hd
            rw [q, hb] at z; cases z)]
          exact hd
    | _ => exact hx.elim
end
end DL

namespace DL
open PySem PySem.Spec PySem.W PySem.Calls PyProof.Rows
section
variable {prog : Program} {w : World} {A : Around} {E : Value → Shared → Prop} {s : Shared} {K : Frag} {x D : Addr} {ox : Obj} {od : Option Obj}
/-- e.__class__ of an exception's object, whether it has a dict or not -/
theorem exc_class {Q : Option Value → Shared → Prop} (T : L2.ExcC K D) (X : K.In s.heap) (I : InstAt s.heap x ox D od) (h : Q (some (.ref D)) { s with toks := s.toks + 1 }) : wpAny (model prog w) A (getAttr? (.ref x) "__class__") Q E s := by
  have hcs : (clsIn K D).isSome = true := by
    obtain ⟨cd, hc, _⟩ := any_some T.hd
    rw [hc]; rfl
  have hf : findObj K D od "__class__" = some (.bind (.builtin "getset_descriptor.__get__") (.builtin "object.__class__")) := by
    cases od with
    | none => exact findObj_dataN hcs T.ha T.hn T.ht
    | some od => exact findObj_data hcs T.ha T.hn T.ht
  obtain ⟨hp, g, d, t, os⟩ := s
  have a0 := I.type (M := model prog w)
  have a1 := looks_findIn (M := model prog w) X T.hg
  have a2 := looks_findIn (M := model prog w) X T.hk
  have a3 := looks_find (M := model prog w) X I hf
  have isE : Looks (model prog w) hp (isInstance (.ref x) (.type "BaseException")) true := a0.andThen (looks_subIn X T.hs)
  have nob : (Value.builtin "BaseException.__getattribute__" == Value.builtin "object.__getattribute__") = false := by decide +kernel
  unfold getAttr? getAttrBy? getAttrBy
  refine wpAny_bind (wpAny_mkText (wpAny_bind (wpAny_attempt (wpAny_holding (wpAny_bind (a0.at (wpAny_bind (a1.at ?_))))))))
  show wpAny _ _ (if (onTheHeap (Value.ref D) && Value.builtin "BaseException.__getattribute__" == Value.builtin "object.__getattribute__") = true then _ else _) _ _ _
  rw [nob, Bool.and_false, if_neg Bool.false_ne_true]
  unfold getAttrByItsOwn hookBefore
  refine wpAny_bind ?_
  rw [if_pos (show onTheHeap (Value.ref D) = true from rfl)]
  refine a2.at ?_
  refine wpAny_bind (wpAny_attempt (wpAny_holding ?_))
  unfold callGetattribute
  rw [show (false && onTheHeap (Value.builtin "BaseException.__getattribute__")) = false from rfl, if_neg Bool.false_ne_true]
  unfold boundAndCalled
  rw [PySem.F.excAttr_ValueError.ga.bind (.ref x)]
  refine wpAny_bind (wpAny_pure ?_)
  show wpAny _ _ (call (.builtin "BaseException.__getattribute__") [.ref x, .str "__class__" t]) _ _ _
  refine wpAny_call (codeAny_call_builtin PySem.F.excAttr_ValueError.ga.plain PySem.F.entry_bexc_ga ?_)
  refine @check_slot (model prog w) _ _ ⟨hp, g, d, t + 1, os⟩ "BaseException.__getattribute__" "BaseException" "__getattribute__" (.ref x) [.str "__class__" t] [] _ (by decide +kernel) (by decide +kernel) isE (PySem.F.args_bexc_ga (.ref x) (.str "__class__" t)) ?_
  unfold Builtin.«object.__getattribute__»
  refine wpAny_bind (wpAny_of_eq (a := ((Value.ref x : Value), [Value.str "__class__" t])) (by first | rfl | (simp only [slotArgs]; rfl)) ?_)
  refine wpAny_bind (wpAny_pure (wpAny_bind (a0.at (wpAny_bind (a3.at ?_)))))
  show wpAny _ _ (holding [Value.builtin "object.__class__"] (call (.builtin "getset_descriptor.__get__") [.builtin "object.__class__", .ref x, .ref D]) >>= ret) _ _ _
  refine wpAny_bind (wpAny_holding (wpAny_call (class_get (s := ⟨hp, g, d, t + 1, os⟩) (ox := ox) (od := od) X I T.hm ?_)))
  refine wpAny_pure ?_
  show wpAny _ _ (handedOut (.ref D)) _ _ _
  rw [handedOut_of (v := .ref D) rfl]
  first
    | exact wpAny_pure (wpAny_pure h)
    | exact wpAny_pure h
    | exact wpAny_pure (wpAny_bind (wpAny_pure (wpAny_pure h)))
theorem kit_exc (T : L2.ExcC K D) : KitX K (.ref x) (.ref D) (fun h => InstAt h x ox D od) where
  ty := fun _ _ _ I => I.type
  it := fun _ _ X _ => by
    obtain ⟨cd, hc, _⟩ := any_some T.hd
    unfold clsIn at hc
    split at hc
    · rename_i c' d' cd' sl' ho
      intro A' Q' E' s' k q
      unfold isType loadHead
      exact wpAny_bind (wpAny_loadPart (k _ _ (X _ _ ho)) (wpAny_pure q))
    · cases hc
  ne := fun h tp dd its n sl X htp => by
    obtain ⟨cd, hc, _⟩ := any_some T.hd
    cases q : (Value.ref D == Value.ref tp) with
    | false => rfl
    | true =>
      rw [show D = tp from Value.ref.inj (beq_iff_eq.mp q)] at hc
      unfold clsIn at hc
      split at hc
      · rename_i c' d' cd' sl' ho
        have z := (X _ _ ho).symm.trans htp
        cases z
      · cases hc
  ca := fun X I k => exc_class T X I k
end
end DL
namespace DL
open PySem PySem.Spec L2
open PyProof.Rows hiding St
/-! ### isinstance -/
inductive Tq where
  | ty (n : String) | own (x : Str)
deriving DecidableEq
def Tq.v (K : PySem.W.Frag) : Tq → Value
  | .ty n => .type n
  | .own x => .ref (He.ga K x)
/-- the classes of a law, and what isinstance says of them -/
structure Isa where
  obs : List Str
  excs : List Str
  tab : List ((Tq × Tq) × Bool)
structure OwnC (K : PySem.W.Frag) (C : Addr) : Prop where
  cl : Cls K C
  ha : PySem.W.findIn K (.ref C) "__class__" = some (some (.builtin "object.__class__"))
  hn : PySem.W.specialIn K (.builtin "object.__class__") "__get__" = some (some (.builtin "getset_descriptor.__get__"))
  ht : PySem.W.takesIn K (.builtin "object.__class__") = some true
  hm : PySem.W.mroIn K C (.type "object") = some true
structure IsaOk (K : PySem.W.Frag) (J : Isa) : Prop where
  ob : ∀ c ∈ J.obs, OwnC K (He.ga K c)
  exc : ∀ c ∈ J.excs, ExcC K (He.ga K c)
  tab : ∀ e ∈ J.tab, PySem.W.kitOne K (e.1.1.v K) (e.1.2.v K) = some e.2
def Isa.ask (J : Isa) (a b : Tq) : Option Bool := J.tab.lookup (a, b)
theorem lookup_mem {α β : Type} [BEq α] [LawfulBEq α] {a : α} {b : β} : ∀ {l : List (α × β)}, l.lookup a = some b → (a, b) ∈ l
  | [], h => by cases h
  | (a', b') :: l, h => by
    rw [List.lookup_cons] at h
    cases q : a == a' with
    | true =>
      rw [q] at h
      cases h
      rw [beq_iff_eq.mp q]; exact List.mem_cons_self
    | false => rw [q] at h; exact List.mem_cons_of_mem _ (lookup_mem h)
theorem IsaOk.kit {K : PySem.W.Frag} {J : Isa} (T : IsaOk K J) {a b : Tq} {r : Bool} (h : J.ask a b = some r) : PySem.W.kitOne K (a.v K) (b.v K) = some r := T.tab _ (lookup_mem h)
def Isa.asks (J : Isa) (a : Tq) : List Tq → Option Bool
  | [] => some false
  | b :: bs => match J.ask a b with
    | some true => some true
    | some false => J.asks a bs
    | none => none
theorem IsaOk.kits {K : PySem.W.Frag} {J : Isa} (T : IsaOk K J) {a : Tq} : ∀ {bs : List Tq} {r : Bool}, J.asks a bs = some r → PySem.W.kitAny K (a.v K) (bs.map (Tq.v K)) = some r
  | [], r, h => h
  | b :: bs, r, h => by
    unfold Isa.asks at h
    show (match PySem.W.kitOne K (a.v K) (b.v K) with
      | some true => some true
      | some false => PySem.W.kitAny K (a.v K) (bs.map (Tq.v K))
      | none => none) = some r
    cases q : J.ask a b with
    | none => rw [q] at h; cases h
    | some c =>
      rw [q] at h
      rw [T.kit q]
      cases c with
      | true => exact h
      | false => exact T.kits h
def tyD (J : Isa) : D → Option Tq
  | .non => some (.ty "NoneType")
  | .bl _ => some (.ty "bool")
  | .int _ => some (.ty "int")
  | .str _ => some (.ty "str")
  | .lst _ => some (.ty "list")
  | .kls _ => some (.ty "list")
  | .tup _ => some (.ty "tuple")
  | .dct _ => some (.ty "dict")
  | .ob c _ => if c ∈ J.obs then some (.own c) else none
  | .exc c _ => if c ∈ J.excs then some (.own c) else none
  | _ => none
def clsD : D → Option Tq
  | .ty n => some (.ty n)
  | .glo x => some (.own x)
  | _ => none
def clsDs : List D → Option (List Tq)
  | [] => some []
  | d :: ds => match clsD d, clsDs ds with
    | some q, some qs => some (q :: qs)
    | _, _ => none
/-- what the library's isinstance asks of such a value -/
theorem kit_den {X : Cx} {pins : List (Addr × Obj)} {σ : L2.St} {H : Hp} {s : Shared} {J : Isa} {W : DW} {F : Hp} {v : V} {d : D} {u : Value} {q : Tq} (T : IsaOk X.K J) (I : Inv X pins σ H s) (up : Up F H) (r : RelV v u) (dn : Den X.K W F v d) (e : tyD J d = some q) :
    ∃ P : Heap → Prop, PySem.W.KitX X.K u (q.v X.K) P ∧ P s.heap ∧ u ≠ .builtin "__main__.__loader__#opaque" := by
  cases dn with
  | non => cases e; exact kit_of I r (.base .non)
  | bl b => cases e; exact kit_of I r (.base (.bl b))
  | int i => cases e; exact kit_of I r (.base (.int i))
  | str x => cases e; exact kit_of I r (.base (.str x))
  | lst h _ => cases e; exact kit_of I r (.base (.lst (up _ _ h)))
  | kls h _ =>
    cases e
    rcases SqL.up up h with (h | ⟨o, h⟩) | ⟨o, its, n, h1, h2, _⟩
    · exact kit_of I r (.base (.lst h))
    · exact kit_of I r (.base (.frz h))
    · exact kit_of I r (.kList h1 h2)
  | tup h _ =>
    cases e
    rcases SqT.up up h with (h | ⟨o, h⟩) | ⟨o, its, n, h1, h2, _⟩
    · exact kit_of I r (.base (.tup h))
    · exact kit_of I r (.fTuple h)
    · exact kit_of I r (.kTuple h1 h2)
  | dct h _ _ => cases e; exact kit_of I r (.base (.dK (up _ _ h)))
  | @ob a dx c gs fs h _ _ =>
    have e : (if c ∈ J.obs then some (Tq.own c) else none) = some q := e
    split at e
    · rename_i hc
      cases e
      have O := T.ob c hc
      exact kit_of I r (.base (.ins (up _ _ h) O.cl O.ha O.hn O.ht O.hm))
    · cases e
  | @exc0 a c h =>
    have e : (if c ∈ J.excs then some (Tq.own c) else none) = some q := e
    split at e
    · rename_i hc
      cases e
      obtain rfl : u = Value.ref a := r
      obtain ⟨⟨oe, vs, h1, h2, h3⟩, _, _⟩ := I.hok a _ (up _ _ h)
      obtain ⟨oc, od, dt, sl⟩ := oe
      obtain ⟨rfl, rfl⟩ := h2
      obtain rfl : dt = .fields vs := h3
      exact ⟨_, kit_exc (T.exc c hc), (⟨h1, rfl, rfl, trivial⟩ : PySem.W.InstAt s.heap a _ _ none), fun z => nomatch z⟩
    · cases e
  | @exc1 a dd c gs fs h hd _ _ =>
    have e : (if c ∈ J.excs then some (Tq.own c) else none) = some q := e
    split at e
    · rename_i hc
      cases e
      obtain rfl : u = Value.ref a := r
      obtain ⟨⟨oe, vs, h1, h2, h3⟩, _, _⟩ := I.hok a _ (up _ _ h)
      obtain ⟨mA, hns, hr⟩ := (show ObjOk X.prog X.w H s.heap dd (.xd gs) from I.hok dd _ (up _ _ hd))
      obtain ⟨od1, ho, hl⟩ := lookIn_ns hns
      obtain ⟨oc, od, dt, sl⟩ := oe
      obtain ⟨rfl, rfl⟩ := h2
      obtain rfl : dt = .fields vs := h3
      exact ⟨_, kit_exc (T.exc c hc), (⟨h1, rfl, rfl, ho⟩ : PySem.W.InstAt s.heap a _ _ (some od1)), fun z => nomatch z⟩
    · cases e
  | _ => cases e
theorem Den.cls {K : PySem.W.Frag} {W : DW} {F : Hp} {v : V} {d : D} {q : Tq} {u : Value} (r : Den K W F v d) (e : clsD d = some q) (rv : RelV v u) : u = q.v K := by
  cases r with
  | ty n => cases e; exact rv
  | glo x => cases e; exact rv
  | _ => cases e
theorem Dens.cls {K : PySem.W.Frag} {W : DW} {F : Hp} : ∀ {vs : List V} {ds : List D} {qs : List Tq} {us : List Value}, Dens K W F vs ds → clsDs ds = some qs → Vals vs us → us = qs.map (Tq.v K)
  | _, _, _, _, .nil, e, .nil => by cases e; rfl
  | _, _, _, _, .cons (d := d) (ds := ds) r t, e, .cons rv rt => by
    unfold clsDs at e
    cases q1 : clsD d with
    | none => rw [q1] at e; cases e
    | some q =>
      cases q2 : clsDs ds with
      | none => rw [q1, q2] at e; cases e
      | some qs =>
        rw [q1, q2] at e
        cases e
        rw [r.cls q1 rv, t.cls q2 rt]; rfl
def isaD (J : Isa) (ds : List D) (P : D → Prop) : Prop := match ds with
  | [x, .tup cs] => ∃ q qs b, tyD J x = some q ∧ clsDs cs = some qs ∧ J.asks q qs = some b ∧ P (.bl b)
  | [x, c] => ∃ q qc b, tyD J x = some q ∧ clsD c = some qc ∧ J.ask q qc = some b ∧ P (.bl b)
  | _ => False
/-- .. as a reading of values: the call gives b -/
def rIsa (X : Cx) : List V → Hp → VK → Prop := fun xs H Q => ∃ b, (∀ pins σ s us, Inv X pins σ H s → Vals xs us → ∀ (Q' : Value → Shared → Prop) (E : Value → Shared → Prop), (∀ tk, Q' (.bool b) { s with toks := tk }) → wpAny (model X.prog X.w) X.A (call (.builtin "isinstance") us) Q' E s) ∧ Q (.bl b) H
theorem call_isa {X : Cx} : CallR X (.builtin "isinstance") (rIsa X) := by
  intro pins s σ H xs us Q I r ⟨b, h, q⟩
  exact h pins σ s us I r _ _ fun tk => ⟨.bl b, H, I.tok tk, rfl, q⟩
theorem lc_isa {X : Cx} {J : Isa} (T : IsaOk X.K J) : LiftC X.K (rIsa X) (isaD J) := fun B n g H σ δ xs ds P Q S rs q k => by
  have fin : ∀ b, P (.bl b) → Q (.bl b) H := fun b hp => k _ g H _ hp (Step.refl _ _ _) S (.bl b)
  unfold isaD at q
  split at q
  · rename_i x cs
    obtain ⟨qx, qs, b, e1, e2, e3, hp⟩ := q
    cases rs with
    | @cons v _ _ _ r1 r2 =>
      cases r2 with
      | cons r2 r3 =>
        cases r3
        cases r2 with
        | @tup a ys _ hs rr =>
          refine ⟨b, fun pins σ s us I rv Q' E hq => ?_, fin b hp⟩
          obtain ⟨u1, u2, rfl, rv1, rv2⟩ := vals2 rv
          cases (show u2 = Value.ref a from rv2)
          obtain ⟨Pz, Z, p, hx⟩ := kit_den T I S.ret.sub rv1 r1 e1
          obtain ⟨its, ri, ⟨o, ho, hc, n, hd⟩, _⟩ := I.tuple (SqT.up S.ret.sub hs)
          have ei := rr.cls e2 ri
          subst ei
          obtain ⟨oc, od, dt, sl⟩ := o
          simp only at hc hd
          subst hc hd
          exact PySem.W.kia_tup Z I.kIn p ho (T.kits e3) hx hq
  · rename_i x c _
    obtain ⟨qx, qc, b, e1, e2, e3, hp⟩ := q
    cases rs with
    | cons r1 r2 =>
      cases r2 with
      | cons r2 r3 =>
        cases r3
        refine ⟨b, fun pins σ s us I rv Q' E hq => ?_, fin b hp⟩
        obtain ⟨u1, u2, rfl, rv1, rv2⟩ := vals2 rv
        obtain ⟨Pz, Z, p, hx⟩ := kit_den T I S.ret.sub rv1 r1 e1
        rw [r2.cls e2 rv2]
        exact PySem.W.kia_one Z I.kIn p (T.kit e3) hx hq
  · exact q.elim
/-! ### names of the module, of the built-ins -/
section
variable {X : Cx} {B : Base} {x : Str} {pos : Pos}
theorem de_glo (hg : Gl X x) (hm : X.mg x = some (.ref (He.ga X.K x))) (hdb : (x == ("__debug__" : Str)) = false := by decide) : DE X B (.Name x pos) (dC (.glo x)) := de_c (v := .ref (He.ga X.K x)) (pe_glob hg hm rfl hdb) fun _ _ => .glo x
theorem de_ty {T : String} (hg : Gl X x) (hm : X.mg x = none) (hv : bootBuiltins x = some (.type T)) (hn : x ≠ "__name__" := by decide) (hdb : (x == ("__debug__" : Str)) = false := by decide) : DE X B (.Name x pos) (dC (.ty T)) := de_c (v := .ty T) (pe_bltn hg hm hv rfl hn hdb) fun _ _ => .ty T
theorem de_gint {i : Int} (hg : Gl X x) (hm : ∃ t, X.mg x = some (.int i t)) (hdb : (x == ("__debug__" : Str)) = false := by decide) : DE X B (.Name x pos) (dC (.int i)) := by
  obtain ⟨t, hm⟩ := hm
  exact de_c (v := .int i) (pe_glob hg hm (show ∃ t', Value.int i t = Value.int i t' from ⟨t, rfl⟩) hdb) fun _ _ => .int i
theorem de_gstr {z : Str} (hg : Gl X x) (hm : ∃ t, X.mg x = some (.str z t)) (hdb : (x == ("__debug__" : Str)) = false := by decide) : DE X B (.Name x pos) (dC (.str z)) := by
  obtain ⟨t, hm⟩ := hm
  exact de_c (v := .str z) (pe_glob hg hm (show ∃ t', Value.str z t = Value.str z t' from ⟨t, rfl⟩) hdb) fun _ _ => .str z
end
end DL

namespace DL
open PySem PySem.Spec L2
open PyProof.Rows hiding St
/-! ### attributes -/
inductive Atk where
  | fld | exc | prop (g : Str)
abbrev AtTab := List ((Str × Str) × Atk)
/-- the getter of the class' property f gives self.g -/
structure GetK (K : PySem.W.Frag) (C : Addr) (f g : Str) : Prop where
  ex : ∃ (p gt : Addr) (name qual : Str) (params : Arguments) (scope : Scope) (dV kV doc pm cdv ct oc : Value) (an od : Option Addr) (osl : Array (Option Value)) (N : List Str) (p1 p2 p3 : Pos), PropOf K C f p gt ∧
    K.lookup gt = some ⟨oc, od, .func (PySem.W.fnOf name qual params [.Return (some (.Attribute (.Name "self" p1) g p2)) p3] scope dV kV doc pm an cdv ct), osl⟩ ∧ PySem.W.codeIn K cdv qual = true ∧ FnScope N ["self"] scope ∧ N[0]? = some ("self" : Str) ∧
    (∀ (s : Shared) (us : List Value), us.length = 1 → BindsTo s (PySem.W.fnOf name qual params [.Return (some (.Attribute (.Name "self" p1) g p2)) p3] scope dV kV doc pm an cdv ct) ⟨us, []⟩ ((["self"] : List Str).zip us))
structure AtOk (K : PySem.W.Frag) (tab : AtTab) : Prop where
  ok : ∀ e ∈ tab, match e.2 with
    | .fld => Cls K (He.ga K e.1.1) ∧ NoAttr K (He.ga K e.1.1) e.1.2
    | .exc => XfC K (He.ga K e.1.1) ∧ PySem.W.findIn K (.ref (He.ga K e.1.1)) e.1.2 = some none
    | .prop g => Cls K (He.ga K e.1.1) ∧ NoAttr K (He.ga K e.1.1) g ∧ GetK K (He.ga K e.1.1) e.1.2 g
def attrD (tab : AtTab) (f : Str) (d : D) (P : D → Prop) : Prop := match d with
  | .ob c fs => match tab.lookup (c, f) with
    | some .fld => ∃ v, fs.lookup f = some v ∧ P v
    | some (.prop g) => ∃ v, fs.lookup g = some v ∧ P v
    | _ => False
  | .exc c fs => match tab.lookup (c, f) with
    | some .exc => ∃ v, fs.lookup f = some v ∧ P v
    | _ => False
  | _ => False
theorem lookup_rel {K : PySem.W.Frag} {W : DW} {F : Hp} {f : Str} {d : D} : ∀ {gs : List (Str × V)} {fs : List (Str × D)}, gs.map (·.1) = fs.map (·.1) → Dens K W F (gs.map (·.2)) (fs.map (·.2)) → fs.lookup f = some d → ∃ v, gs.lookup f = some v ∧ Den K W F v d
  | [], [], _, _, h => by cases h
  | [], _ :: _, e, _, _ => by cases e
  | _ :: _, [], e, _, _ => by cases e
  | (k1, v1) :: gs, (k2, d2) :: fs, e, r, h => by
    simp only [List.map_cons, List.cons.injEq] at e r
    obtain ⟨e1, e2⟩ := e
    cases r with
    | cons r1 r2 =>
      subst e1
      rw [List.lookup_cons] at h ⊢
      cases q : f == k1 with
      | true => rw [q] at h; cases h; exact ⟨v1, rfl, r1⟩
      | false => rw [q] at h; exact lookup_rel e2 r2 h
section
variable {X : Cx} {B : Base} {e : Expr} {te : TDX} {f : Str} {pos : Pos} {tab : AtTab} {k : Nat}
def dAttr (tab : AtTab) (f : Str) (te : TDX) : TDX := fun rx δ P => te rx δ fun d δ1 => attrD tab f d fun v => P v δ1
theorem de_attr (T : AtOk X.K tab) (hr : Rm (k + 2) X.A) (he : DE X B e te) (hab : attributeBase e f X.env (eval e X.env) = eval e X.env := by rfl) : DE X B (.Attribute e f pos) (dAttr tab f te) := by
  refine ⟨fun rx tk => ⟨fun pins s σ H Q I ⟨g, δ, P, S, q, k1⟩ => ?_⟩⟩
  refine attr_of hab (thn ((he.run rx tk).run pins s σ H _ I ⟨g, δ, _, S, q, fun d δ1 g1 H1 v1 h1 st1 S1 D1 => (⟨δ1, g1, d, h1, st1, S1, D1⟩ : ∃ δ1 g1 d, attrD tab f d (fun v => P v δ1) ∧ Step X.N.length g H g1 H1 ∧ Stt X.K B g1 H1 σ δ1 ∧ Den X.K g1.W g1.F v1 d)⟩) fun u s1 hh => ?_)
  obtain ⟨v, H1, I1, rv, δ1, g1, d, h1, st1, S1, D1⟩ := hh
  have fin : ∀ {u' : V} {d' : D}, P d' δ1 → Den X.K g1.W g1.F u' d' → Q u' H1 := fun {u' d'} hp dn => k1 d' δ1 g1 H1 u' hp st1 S1 dn
  cases D1 with
  | @ob a dx c gs fs hF hk rs =>
    obtain rfl : u = Value.ref a := rv
    have ea := S1.ret.sub _ _ hF
    unfold attrD at h1
    cases q : tab.lookup (c, f) with
    | none => simp only [q] at h1
    | some kd =>
      have ok := T.ok _ (lookup_mem q)
      cases kd with
      | fld =>
        simp only [q] at h1 ok
        obtain ⟨d', e1, hp⟩ := h1
        obtain ⟨v', e2, rv'⟩ := lookup_rel hk rs e1
        exact getattr_ok I1 ea ok.1 ok.2 e2 fun u' s2 I2 ru => ⟨v', H1, I2, ru, fin hp rv'⟩
      | exc => simp only [q] at h1
      | prop g' =>
        simp only [q] at h1 ok
        obtain ⟨d', e1, hp⟩ := h1
        obtain ⟨v', e2, rv'⟩ := lookup_rel hk rs e1
        obtain ⟨cl, na, GK⟩ := ok
        obtain ⟨p, gt, name, qual, params, scope, dV, kV, doc, pm, cdv, ct, oc, an, od, osl, N, p1, p2, p3, hp', lk, hcd, SS, hN, hb⟩ := GK.ex
        refine getprop_ok (CX := CX0) (E := fun _ _ _ => False) (ds := []) (dvs := []) I1 ea cl hp' (fn_getter (CX := CX0) (P := X.prog) (w := X.w) (mg := X.mg) (base := X.base) (k := k) lk hcd SS hN rfl cl na) hr.room (fun s us _ hl => ?_) .nil pass0 ⟨a, dx, gs, v', rfl, ea, e2, fin hp rv'⟩
        rw [List.append_nil] at hl ⊢
        exact hb s us hl
  | @exc1 a dd c gs fs hF hd hk rs =>
    obtain rfl : u = Value.ref a := rv
    unfold attrD at h1
    cases q : tab.lookup (c, f) with
    | none => simp only [q] at h1
    | some kd =>
      have ok := T.ok _ (lookup_mem q)
      cases kd with
      | exc =>
        simp only [q] at h1 ok
        obtain ⟨d', e1, hp⟩ := h1
        obtain ⟨v', e2, rv'⟩ := lookup_rel hk rs e1
        obtain ⟨⟨oe, vs, ho, hz, hdt⟩, _, _⟩ := I1.hok a _ (S1.ret.sub _ _ hF)
        obtain ⟨mA, hns, hr'⟩ := (show ObjOk X.prog X.w H1 s1.heap dd (.xd gs) from I1.hok dd _ (S1.ret.sub _ _ hd))
        obtain ⟨od, ho', hl⟩ := lookIn_ns hns
        obtain ⟨u', hu, ru⟩ := RelO.some_of (v := v') (o := mA f) (by rw [← e2]; exact hr' f)
        have J : PySem.W.InstAt s1.heap a oe (He.ga X.K c) (some od) := ⟨ho, hz.1, by unfold PySem.W.notCls; rw [hdt] <;> rfl, by rw [hz.2]; exact ho'⟩
        exact HandSPX.exc_get I1.kIn J ok.1.ga ok.1.gg ok.1.exC (PySem.W.findObj_own ok.1.hdC ok.2 rfl (by rw [hl, hu])) (handed_of ru) ⟨v', H1, I1.tok _, ru, fin hp rv'⟩
      | fld => simp only [q] at h1
      | prop g' => simp only [q] at h1
  | @exc0 a c hF =>
    have h2 : match tab.lookup (c, f) with
      | some .exc => ∃ v, ([] : List (Str × D)).lookup f = some v ∧ P v δ1
      | _ => False := h1
    cases q : tab.lookup (c, f) with
    | none => simp only [q] at h2
    | some kd =>
      cases kd with
      | exc => simp only [q] at h2; obtain ⟨v', z, _⟩ := h2; cases z
      | fld => simp only [q] at h2
      | prop g' => simp only [q] at h2
  | _ => exact h1.elim
end
end DL

namespace DL
open PySem PySem.Spec L2
open PyProof.Rows hiding St
/-! ### a new instance of an own class -/
def putD (f : Str) (v : D) : List (Str × D) → List (Str × D)
  | [] => [(f, v)]
  | (g, x) :: r => if g = f then (g, v) :: r else (g, x) :: putD f v r
theorem putD_keys {f : Str} {v : V} {d : D} : ∀ {gs : List (Str × V)} {fs : List (Str × D)}, gs.map (·.1) = fs.map (·.1) → (putF f v gs).map (·.1) = (putD f d fs).map (·.1)
  | [], [], _ => rfl
  | [], _ :: _, e => by cases e
  | _ :: _, [], e => by cases e
  | (a, x) :: gs, (b, y) :: fs, e => by
    simp only [List.map_cons, List.cons.injEq] at e
    obtain ⟨rfl, e2⟩ := e
    unfold putF putD
    by_cases h : a = f
    · rw [if_pos h, if_pos h]; simp [e2]
    · rw [if_neg h, if_neg h, List.map_cons, List.map_cons, putD_keys e2]
theorem putD_rel {K : PySem.W.Frag} {W : DW} {F : Hp} {f : Str} {v : V} {d : D} (r : Den K W F v d) : ∀ {gs : List (Str × V)} {fs : List (Str × D)}, gs.map (·.1) = fs.map (·.1) → Dens K W F (gs.map (·.2)) (fs.map (·.2)) → Dens K W F ((putF f v gs).map (·.2)) ((putD f d fs).map (·.2))
  | [], [], _, _ => .cons r .nil
  | [], _ :: _, e, _ => by cases e
  | _ :: _, [], e, _ => by cases e
  | (a, x) :: gs, (b, y) :: fs, e, q => by
    simp only [List.map_cons, List.cons.injEq] at e q
    obtain ⟨rfl, e2⟩ := e
    unfold putF putD
    cases q with
    | cons q1 q2 =>
      by_cases h : a = f
      · rw [if_pos h, if_pos h]; exact .cons r q2
      · rw [if_neg h, if_neg h]; exact .cons q1 (putD_rel r e2 q2)
section
variable {K : PySem.W.Frag} {B : Base} {g : Gs} {H : Hp} {σ : L2.St} {δ : Env} {n : Nat} {X : Cx} {e : Expr} {te : TDX} {tab : AtTab}
/-- self.f = e, slot i has the object -/
def dSetF (tab : AtTab) (i : Nat) (f : Str) (te : TDX) : TDS := fun rx DE δ => te rx δ fun d δ1 => match δ1[i]? with
  | some (some (.oi m c fs)) => tab.lookup (c, f) = some .fld ∧ fs.length < 1000 ∧ DE.nx (δ1.set i (some (.oi m c (putD f d fs))))
  | _ => False
theorem ds_setF {i : Nat} {x f : Str} {pn pa pos : Pos} (T : AtOk X.K tab) (hi : i < X.N.length) (hn : PE X (.Name x pn) (tVar i)) (he : DE X B e te) (hs : swapsWith e (some (.Attribute (.Name x pn) f pa)) pos.line X.env = pure false := by rfl) : DS X B (.Assign [.Attribute (.Name x pn) f pa] e pos) (dSetF tab i f te) :=
  ⟨fun rx tk => PS.imp (ps_fld hn (he.run rx tk) hs) fun DD σ H hl ⟨g, δ, DE, S, q, k1, k2, k3, k4⟩ => ⟨g, δ, _, S, q, fun d δ1 g1 H1 v h1 st1 S1 D1 => by
    cases e1 : δ1[i]? with
    | none => simp only [e1] at h1
    | some o1 =>
      cases o1 with
      | none => simp only [e1] at h1
      | some s1 =>
        cases s1 with
        | oi m c fs =>
          simp only [e1] at h1
          obtain ⟨ht, hlen, hnx⟩ := h1
          have ok := T.ok _ (lookup_mem ht)
          obtain ⟨a, dx, gs, ea, eo, eh, ek, er⟩ := S1.env i _ e1
          have hgl : gs.length = fs.length := by have := congrArg List.length ek.1; simpa using this
          obtain ⟨S2, st2⟩ := S1.write (n := X.N.length) (o' := .ins (He.ga X.K c) dx (putF f v gs)) (s := .oi m c (putD f d fs)) eo hi eh trivial trivial ⟨a, dx, _, ea, eo, upd_same, ⟨putD_keys ek.1, ek.2⟩, putD_rel D1 ek.1 er⟩
          exact ⟨.ref a, ea, a, _, dx, gs, rfl, eh, ok.1, ok.2, by rw [hgl]; exact hlen, k1 _ _ g1 _ hnx (st1.trans st2) S2⟩
        | _ => simp only [e1] at h1⟩⟩
/-- an object that came to be meanwhile is owned from now on -/
theorem Stt.adopt {a : Addr} {k : Nat} (S : Stt K B g H σ δ) (h0 : B.H a = none) (hF : g.F a = none) (hO : g.O a = none) (hp : ∃ o, H a = some o ∧ plainO o) (nh : ¬ has g.W a) : Stt K B { g with O := fun b => if b = a then some k else g.O b } H σ δ := by
  have ne : ∀ b j, g.O b = some j → b ≠ a := fun b j e q => by rw [q, hO] at e; cases e
  refine ⟨S.ret, fun b j e => ?_, S.len, fun i s q => ?_⟩
  · by_cases q : b = a
    · subst q; exact ⟨h0, hF, hp, nh⟩
    · simp only [q, if_false] at e; exact S.own b j e
  · have z := S.env i s q
    have st : ∀ b j, g.O b = some j → (if b = a then some k else g.O b) = some j := fun b j e => by rw [if_neg (ne b j e)]; exact e
    cases s with
    | sh d => exact z
    | ol ds =>
      obtain ⟨b, xs, e1, e2, e3⟩ := z
      exact ⟨b, xs, e1, st b i e2, e3⟩
    | od kvs =>
      obtain ⟨b, xs, e1, e2, e3⟩ := z
      exact ⟨b, xs, e1, st b i e2, e3⟩
    | oi m c fs =>
      obtain ⟨b, dx, xs, e1, e2, e3⟩ := z
      exact ⟨b, dx, xs, e1, st b i e2, e3⟩
end
abbrev SpI := List D → (List (Str × D) → Prop) → (D → Prop) → Prop
def dInit (c : Str) (m : Nat) (t : TDS) : SpI := fun ds Q E => ∀ a, t E { nx := fun δ => ∃ fs, δ[0]? = some (some (.oi (some a) c fs)) ∧ Q fs, rt := fun _ => False } (some (.oi (some a) c []) :: (ds.map (fun d => some (.sh d)) ++ List.replicate (m - 1 - ds.length) none))
/-- how a class' __init__ behaves -/
structure FnI (P : Program) (w : World) (K : PySem.W.Frag) (mg : Str → Option Value) (base : Heap) (T : List (Addr × Str)) (c : Str) (k : Nat) (f : Addr) (fd : FuncData) (ps : List Str) (wpI : SpI) : Prop where
  go : ∀ (A : Around) (outer : List PySem.Env) (s : Shared) (H : Hp) (args : Args) (us : List Value) (vs : List V) (x dx : Addr) (F : Hp) (W : DW) (ds : List D) (P' : List (Str × D) → Prop) (RX : D → Prop) (Q : Hp → Prop) (E : XK), Rm k A →
    Env0 P w K mg base A outer s (upd (upd H dx (.own x)) x (.ins (He.ga K c) dx [])) → BindsTo s fd args (ps.zip us) → Vals (.ref x :: vs) us → H x = none → H dx = none → dx ≠ x → Gd T F H W → Dens K W F vs ds → ds.length + 1 = ps.length → wpI ds P' RX →
    (∀ fs F' H' W' dx' gs, P' fs → Ret ⟨F, H, W, T⟩ F' H' W' → F' x = none → ¬ has W' x → H' x = some (.ins (He.ga K c) dx' gs) → gs.map (·.1) = fs.map (·.1) → Dens K W' F' (gs.map (·.2)) (fs.map (·.2)) → Q H') → (∀ cls dd H', liftX K ⟨F, H, W, T⟩ RX cls dd H' → E cls dd H') →
    codeAny (model P w) A (.call (.ref f) args) (CR (L2.CX P w) outer P w (upd (upd H dx (.own x)) x (.ins (He.ga K c) dx [])) s (fun v H' => v = .non ∧ Q H') E) s
theorem stt_init {K : PySem.W.Frag} {F H : Hp} {W : DW} {T : List (Addr × Str)} {N : List Str} {vs : List V} {ds : List D} {x dx : Addr} {c : Str} (q : Gd T F H W) (r : Dens K W F vs ds) (hx : H x = none) (hd : H dx = none) (ne : dx ≠ x) (hN : ds.length + 1 ≤ N.length) :
    Stt K ⟨F, H, W, T⟩ ⟨F, fun a => if a = x then some 0 else none, W⟩ (upd (upd H dx (.own x)) x (.ins (He.ga K c) dx [])) (start N (.ref x :: vs)) (some (.oi (some x) c []) :: (ds.map (fun d => some (.sh d)) ++ List.replicate (N.length - 1 - ds.length) none)) := by
  have up1 := up_upd (o := .own x) hd
  have hx2 : upd H dx (.own x) x = none := by rw [upd_ne (Ne.symm ne)]; exact hx
  have up2 := up1.trans (up_upd (o := .ins (He.ga K c) dx []) hx2)
  have Fx : F x = none := by
    cases z : F x with
    | none => rfl
    | some o => rw [q.sub _ _ z] at hx; cases hx
  have nhx : ¬ has W x := fun h => (q.drw.has_ne h).1 hx
  refine ⟨⟨q.sub.trans up2, Up.refl _, fun a o e _ _ => up2 a o e, Up.ne up2, fun _ _ => rfl, WLe.refl _, q.drw.keep fun a h => ⟨?_, rfl⟩, q.tab.ext up2, fun a h1 h2 => absurd h1 h2, q.fnt⟩, fun a k e => ?_, ?_, fun i s e => ?_⟩
  · obtain ⟨o, z, _⟩ := has_plain q.drw h
    rw [z, up2 a o z]
  · have e : (if a = x then some 0 else none) = some k := e
    by_cases z : a = x
    · subst z
      exact ⟨hx, Fx, ⟨_, upd_same, trivial⟩, nhx⟩
    · rw [if_neg z] at e; cases e
  · unfold L2.start
    simp [r.length]
    omega
  · cases i with
    | zero =>
      simp at e
      subst e
      exact ⟨x, dx, [], by unfold L2.start; rfl, by simp, upd_same, ⟨rfl, fun b z => Option.some.inj z⟩, .nil⟩
    | succ i =>
      rw [List.getElem?_cons_succ] at e
      by_cases hi : i < ds.length
      · rw [List.getElem?_append_left (by simpa using hi), List.getElem?_map] at e
        cases qd : ds[i]? with
        | none => rw [qd] at e; cases e
        | some d =>
          rw [qd] at e
          cases e
          obtain ⟨v, e1, r1⟩ := r.get qd
          refine ⟨v, ?_, r1⟩
          unfold L2.start
          rw [List.map_cons, List.cons_append, List.getElem?_cons_succ, List.getElem?_append_left (by simpa [r.length] using hi), List.getElem?_map, e1]
          rfl
      · rw [List.getElem?_append_right (by simpa using hi)] at e
        obtain ⟨h1, h2⟩ := List.getElem?_eq_some_iff.mp e
        simp at h2
section
variable {P : Program} {w : World} {K : PySem.W.Frag} {mg : Str → Option Value} {base : Heap} {T : List (Addr × Str)}
theorem fnI_ok {x qual c : Str} {params : Arguments} {body : List Stmt} {scope : Scope} {f : Addr} {fd : FuncData} {N ps : List Str} {k : Nat} {t : TDS} (F : FunD K x qual params body scope [] [] f fd) (S : FnScope N ps scope) (hN : ps.length ≤ N.length)
    (hbody : ∀ (cdv : Value) (A : Around) (outer : List PySem.Env) (s : Shared) (H : Hp) (E : XK) (B : Base), B.T = T → Rm k (A.deeper (envOfC qual scope s.heap.objs.size f cdv)) →
      DSs (cxOf (L2.CX P w) P w K mg base N qual scope f cdv A outer s H E) B body t) : FnI P w K mg base T c (k + 1) f fd ps (dInit c N.length t) := by
  refine ⟨fun A outer s H args us vs x0 dx F0 W ds P' RX Q E hr e0 hb r hx hd ne gd rd hl hw k1 k2 => ?_⟩
  refine run_def (vs := .ref x0 :: vs) F S hr e0 hb r (by rw [List.length_cons, rd.length, hl]) fun cdv hcd hr' => ?_
  have tk := takes_of (X := cxOf (L2.CX P w) P w K mg base N qual scope f cdv A outer s (upd (upd H dx (.own x0)) x0 (.ins (He.ga K c) dx [])) E) (E := E) rfl rfl rfl rfl
  have bd := (hbody cdv A outer s _ E ⟨F0, H, W, T⟩ rfl hr').run RX (tk.imp fun c d σ H' hx => k2 c d H' hx)
  refine ⟨_, bd, _, _, { nx := fun δ => ∃ fs, δ[0]? = some (some (.oi (some x0) c fs)) ∧ P' fs, rt := fun _ => False }, stt_init gd rd hx hd ne (by omega), hw x0, fun σ' δ' g' H' hn st S' => ?_, fun _ _ _ _ _ h => h.elim, fun _ _ _ _ h => h.elim, fun _ _ _ _ h => h.elim⟩
  obtain ⟨fs, e, hp⟩ := hn
  obtain ⟨a, dx', gs, ea, eo, eh, ek, er⟩ := S'.env 0 _ e
  obtain rfl := ek.2 x0 rfl
  obtain ⟨_, c2, _, c4⟩ := S'.own _ _ eo
  exact ⟨rfl, k1 fs _ H' _ dx' gs hp S'.ret c2 c4 eh ek.1 er⟩
end
section
variable {X : Cx} {B : Base} {x : Str} {k : Nat} {wpI : SpI} {p pos : Pos} {t : TDA} {ps : List Str} {f : Addr} {fd : FuncData}
def fMake (c : Str) (wpI : SpI) (m : Nat) (t : TDA) : TDF := fun rx δ P => t rx δ fun ds δ1 => ds.length = m ∧ wpI ds (fun fs => P (.oi none c fs) δ1) rx
/-- C(..), run: behind the arguments -/
theorem run_new {g0 g : Gs} {H0 H : Hp} {δ0 δ : Env} {pins : List (Addr × Obj)} {σ : L2.St} {s : Shared} {us us2 : List Value} {kw : List (Str × Value)} {vs : List V} {ds : List D} {c : Str} {P' : List (Str × D) → Prop} {rx : D → Prop} {Q : VK} (M : Mk X.K (He.ga X.K c) f) (G : FnI X.prog X.w X.K X.mg X.base B.T c k f fd ps wpI) (hr : Rm (k + 1) X.A) (tk : Takes X (XW (liftX X.K B rx)))
    (hb : ∀ (s : Shared) (v : Value), BindsTo s fd ⟨v :: us, kw⟩ (ps.zip (v :: us2))) (I : Inv X pins σ H s) (S0 : Stt X.K B g0 H0 σ δ0) (st : Step X.N.length g0 H0 g H) (S : Stt X.K B g H σ δ) (rv : Vals vs us2) (rd : Dens X.K g.W g.F vs ds) (hl : ds.length + 1 = ps.length) (hw : wpI ds P' rx)
    (k1 : ∀ fs g' H' v, P' fs → Step X.N.length g0 H0 g' H' → Stt X.K B g' H' σ δ → ItOk X.K X.N.length g0 g' H' v (.oi none c fs) → Q v H') : wpAny (model X.prog X.w) X.A (call (.ref (He.ga X.K c)) us kw) (EP X pins σ Q) X.xe s := by
  have I2 := Inv.made (C := He.ga X.K c) I
  have hx : H (s.heap.objs.size + 1) = none := I.hok.fresh (Nat.le_succ _)
  have r2 : Vals (V.ref (s.heap.objs.size + 1) :: vs) (Value.ref (s.heap.objs.size + 1) :: us2) := .cons rfl rv
  refine wpAny_call (make_map (f := f) I.kIn M.makes M.init (beq_iff_eq.mp M.fn) (codeAny_mono (G.go _ X.stack _ H ⟨Value.ref (s.heap.objs.size + 1) :: us, kw⟩ (Value.ref (s.heap.objs.size + 1) :: us2) vs _ _ g.F g.W ds P' rx (fun H' => Q (.ref (s.heap.objs.size + 1)) H') (liftX X.K B rx) (hr.make (He.ga X.K c) us kw)
    (I2.env0.make (He.ga X.K c) us kw) (hb _ _) r2 hx (I.hok.fresh (Nat.le_refl _)) (Nat.ne_of_lt (Nat.lt_succ_self _)) S.ret.gd rd hl hw (fun fs F' H' W' dx' gs hp rt hF hnh eh ek er => ?_) fun cls dd H' hx => liftX.trans S.ret hx) fun r s' hq' => ?_))
  · obtain ⟨S1, st1⟩ := S.after (n := X.N.length) rt
    have h0 : B.H (s.heap.objs.size + 1) = none := by
      cases z : B.H (s.heap.objs.size + 1) with
      | none => rfl
      | some o => exact absurd hx (S.ret.there _ (by rw [z]; simp))
    have hO : g.O (s.heap.objs.size + 1) = none := own_none S hx
    have hO0 : g0.O (s.heap.objs.size + 1) = none := by
      refine own_none S0 ?_
      cases z : H0 (s.heap.objs.size + 1) with
      | none => rfl
      | some o => exact absurd hx (st.thr _ (by rw [z]; simp))
    have S2 := S1.adopt (k := X.N.length + (s.heap.objs.size + 1)) h0 hF hO ⟨_, eh, trivial⟩ hnh
    refine k1 fs (⟨F', fun b => if b = s.heap.objs.size + 1 then some (X.N.length + (s.heap.objs.size + 1)) else g.O b, W'⟩ : Gs) H' _ hp ⟨(st.trans st1).up, (st.trans st1).wle, (st.trans st1).thr, fun a j e hj => ?_⟩ S2 ⟨_, dx', gs, rfl, hO0, by simp, eh, ⟨ek, fun b z => nomatch z⟩, er⟩
    obtain ⟨z1, z2⟩ := (st.trans st1).ext a j e hj
    refine ⟨?_, z2⟩
    show (if a = s.heap.objs.size + 1 then some (X.N.length + (s.heap.objs.size + 1)) else g.O a) = some j
    rw [if_neg (fun q => by rw [q, hO0] at e; cases e)]; exact z1
  · have z := after_call I2 (passes_lift tk) hq'
    rcases r with e | fl
    · exact z
    · cases fl with
      | ret u =>
        obtain ⟨v, H', I3, rv', ev, q3⟩ := z
        subst ev
        exact ⟨rv', ⟨V.ref (s.heap.objs.size + 1), H', I3, rfl, q3⟩⟩
      | next => exact z
      | brk => exact z
      | cont => exact z
/-- an own class, as a thing to make -/
structure FnM (P : Program) (w : World) (K : PySem.W.Frag) (mg : Str → Option Value) (base : Heap) (T : List (Addr × Str)) (x : Str) (k : Nat) (ps : List Str) (wpI : SpI) : Prop where
  ex : ∃ (f : Addr) (fd : FuncData), mg x = some (.ref (He.ga K x)) ∧ Mk K (He.ga K x) f ∧ (∀ (s : Shared) (us : List Value), us.length = ps.length → BindsTo s fd ⟨us, []⟩ (ps.zip us)) ∧ FnI P w K mg base T x k f fd ps wpI
theorem df_make {e : Expr} {es : List Expr} (G : FnM X.prog X.w X.K X.mg X.base B.T x k ps wpI) (hr : Rm (k + 1) X.A) (hg : Gl X x) (ha : DA X B (e :: es) t) (hdb : (x == ("__debug__" : Str)) = false := by decide)
    (he : starEach (e :: es) X.env = (false, eval e X.env) :: starEach es X.env := by rfl) (hpl : (backTo pos (starEach es X.env)).any (·.1) = false := by rfl) (h1 : 1 ≤ ps.length := by decide) : DF X B (.Call (.Name x p) (e :: es) [] pos) (fMake x wpI (ps.length - 1) t) := by
  obtain ⟨f, fd, hm, M, hb, FI⟩ := G.ex
  refine ⟨fun rx tk => ⟨fun pins s σ H Q I ⟨g, δ, P, S, q, k1⟩ => ?_⟩⟩
  refine wpAny_Call_Name_kw (ld_glob I hg hm ?_ hdb)
  refine PySem.W.callWith_K (h₀ := X.base) I.ok.mod.kin M.kp (thn ((ha.run rx tk).run pos pins s σ H (fun vs H1 => ∃ ds δ1 g1, (ds.length = ps.length - 1 ∧ wpI ds (fun fs => P (.oi none x fs) δ1) rx) ∧ Step X.N.length g H g1 H1 ∧ Stt X.K B g1 H1 σ δ1 ∧ Dens X.K g1.W g1.F vs ds) I
    ⟨g, δ, _, S, q, fun ds δ1 g1 H1 vs h1 st1 S1 D1 => ⟨ds, δ1, g1, h1, st1, S1, D1⟩⟩) fun us s1 ⟨vs, H1, I1, r, ds, δ1, g1, h2, st1, S1, D1⟩ => ⟨I1.kIn, ?_⟩) he hpl
  have hl : ds.length + 1 = ps.length := by have := h2.1; omega
  exact run_new M FI hr tk (fun s v => hb s (v :: us) (by rw [List.length_cons, ← r.length, D1.length, hl])) I1 S st1 S1 r D1 hl h2.2 fun fs g' H' v hp st' S' it => k1 _ δ1 g' H' v hp st' S' it
end
end DL

namespace DL
open PySem PySem.Spec L2
open PyProof.Rows hiding St
/-! ### keywords -/
def pick {α : Type} (perm : List Nat) (l : List α) : List α := perm.filterMap fun i => l[i]?
theorem pick_dens {K : PySem.W.Frag} {W : DW} {F : Hp} {vs : List V} {ds : List D} (r : Dens K W F vs ds) : ∀ perm : List Nat, Dens K W F (pick perm vs) (pick perm ds)
  | [] => .nil
  | i :: perm => by
    unfold pick
    rw [List.filterMap_cons, List.filterMap_cons]
    cases e : ds[i]? with
    | none =>
      have e2 : vs[i]? = none := by rw [List.getElem?_eq_none_iff] at e ⊢; rw [r.length]; exact e
      rw [e2]; exact pick_dens r perm
    | some d =>
      obtain ⟨v, e2, rv⟩ := r.get e
      rw [e2]; exact .cons rv (pick_dens r perm)
theorem pick_vals {vs : List V} {us : List Value} (r : Vals vs us) : ∀ perm : List Nat, Vals (pick perm vs) (pick perm us)
  | [] => .nil
  | i :: perm => by
    unfold pick
    rw [List.filterMap_cons, List.filterMap_cons]
    cases e : vs[i]? with
    | none =>
      have e2 : us[i]? = none := by rw [List.getElem?_eq_none_iff] at e ⊢; rw [← r.length]; exact e
      rw [e2]; exact pick_vals r perm
    | some d =>
      obtain ⟨v, e2, rv⟩ := r.get e
      rw [e2]; exact .cons rv (pick_vals r perm)
structure DK (X : Cx) (B : Base) (kws : List Keyword) (t : TDA) : Prop where
  run : ∀ rx, Takes X (XW (liftX X.K B rx)) → PK X kws (liftA X.K B X.N.length (t rx))
theorem PK.imp {X : Cx} {e : List Keyword} {t t' : TA} (h : PK X e t) (i : ∀ σ H Q, σ.length = X.N.length → t' σ H Q → t σ H Q) : PK X e t' := ⟨fun pos pins s σ H Q I q => h.run pos pins s σ H Q I (i σ H Q I.len q)⟩
section
variable {X : Cx} {B : Base} {e : Expr} {es : List Expr} {kws : List Keyword} {te : TDX} {t tk : TDA} {nm : Option Str} {kpos p pos : Pos} {x : Str} {k n : Nat} {ps ks : List Str} {perm : List Nat} {wp : SpD} {wpI : SpI}
theorem dk_nil : DK X B [] dNil := ⟨fun rx tk => PK.imp pk_nil fun σ H Q _ ⟨g, δ, P, S, q, k⟩ => k _ _ g H [] q (Step.refl _ _ _) S .nil⟩
theorem dk_cons (he : DE X B e te) (hr : DK X B kws t) : DK X B (⟨nm, e, kpos⟩ :: kws) (dCons te t) := ⟨fun rx tk => PK.imp (pk_cons (he.run rx tk) (hr.run rx tk)) fun _ _ _ _ h => lift_cons h⟩
structure FnK (P : Program) (w : World) (K : PySem.W.Frag) (mg : Str → Option Value) (base : Heap) (T : List (Addr × Str)) (x : Str) (k : Nat) (ps : List Str) (wp : SpD) (n : Nat) (ks : List Str) (perm : List Nat) : Prop where
  ex : ∃ (f : Addr) (fd : FuncData), mg x = some (.ref f) ∧ PySem.W.keepIn K (.ref f) = true ∧ (∀ (s : Shared) (us ws : List Value), us.length = n → ws.length = ks.length → BindsTo s fd ⟨us, ks.zip ws⟩ (ps.zip (pick perm (us ++ ws)))) ∧ FnG P w K mg base k f fd ps (liftSp K T ps.length wp)
def dCallK (wp : SpD) (m n mk : Nat) (perm : List Nat) (t tk : TDA) : TDX := fun rx δ P => t rx δ fun ds δ1 => tk rx δ1 fun es δ2 => ds.length = n ∧ es.length = mk ∧ (pick perm (ds ++ es)).length = m ∧ wp (pick perm (ds ++ es)) (fun d => P d δ2) rx
theorem de_callK (G : FnK X.prog X.w X.K X.mg X.base B.T x k ps wp n ks perm) (hr : Rm k X.A) (hg : Gl X x) (ha : DA X B (e :: es) t) (hkw : DK X B kws tk) (hall : (backToKw pos (keywordEach kws X.env)).all (·.1.isSome) = true := by rfl) (hks : (backToKw pos (keywordEach kws X.env)).filterMap (·.1) = ks := by rfl)
    (hdb : (x == ("__debug__" : Str)) = false := by decide) (he : starEach (e :: es) X.env = (false, eval e X.env) :: starEach es X.env := by rfl)
    (hpl : ((backTo pos (starEach (e :: es) X.env)).any (·.1) || (backToKw pos (keywordEach kws X.env)).any (·.1.isNone)) = false := by rfl) : DE X B (.Call (.Name x p) (e :: es) kws pos) (dCallK wp ps.length n ks.length perm t tk) := by
  obtain ⟨f, fd, hm, hk, hb, F⟩ := G.ex
  refine ⟨fun rx tk0 => ⟨fun pins s σ H Q I ⟨g, δ, P, S, q, k1⟩ => ?_⟩⟩
  refine wpAny_Call_Name_kw (ld_glob I hg hm ?_ hdb)
  refine PySem.W.callWith_KW (h₀ := X.base) I.ok.mod.kin hk hall (thn ((ha.run rx tk0).run pos pins s σ H (fun vs H1 => ∃ ds δ1 g1, (tk rx δ1 fun es δ2 => ds.length = n ∧ es.length = ks.length ∧ (pick perm (ds ++ es)).length = ps.length ∧ wp (pick perm (ds ++ es)) (fun d => P d δ2) rx) ∧ Step X.N.length g H g1 H1 ∧ Stt X.K B g1 H1 σ δ1 ∧ Dens X.K g1.W g1.F vs ds) I
    ⟨g, δ, _, S, q, fun ds δ1 g1 H1 vs h1 st1 S1 D1 => ⟨ds, δ1, g1, h1, st1, S1, D1⟩⟩) fun us s1 ⟨vs, H1, I1, r1, ds, δ1, g1, h1, st1, S1, D1⟩ => ?_) hpl he
  refine thn ((hkw.run rx tk0).run pos pins s1 σ H1 (fun zs H2 => ∃ es δ2 g2, (ds.length = n ∧ es.length = ks.length ∧ (pick perm (ds ++ es)).length = ps.length ∧ wp (pick perm (ds ++ es)) (fun d => P d δ2) rx) ∧ Step X.N.length g1 H1 g2 H2 ∧ Stt X.K B g2 H2 σ δ2 ∧ Dens X.K g2.W g2.F zs es) I1
    ⟨g1, δ1, _, S1, h1, fun es δ2 g2 H2 zs h2 st2 S2 D2 => ⟨es, δ2, g2, h2, st2, S2, D2⟩⟩) fun ws s2 ⟨zs, H2, I2, r2, es', δ2, g2, ⟨l1, l2, l3, hw⟩, st2, S2, D2⟩ => ⟨I2.kIn, ?_⟩
  rw [hks]
  have DD := pick_dens ((D1.step st2).append D2) perm
  have z := sp_of (n := X.N.length) (rx := rx) (Q := Q) S2 DD hw fun d g' H' v hp st S' Dn => k1 d δ2 g' H' v hp ((st1.trans st2).trans st) S' Dn
  rw [l3] at z
  exact run_g F hr (hb s2 us ws (by rw [← r1.length, D1.length, l1]) (by rw [← r2.length, D2.length, l2])) (passes_lift tk0) I2 (pick_vals (r1.append r2) perm) z
theorem de_callK0 (G : FnK X.prog X.w X.K X.mg X.base B.T x k ps wp 0 ks perm) (hr : Rm k X.A) (hg : Gl X x) (hkw : DK X B kws tk) (hall : (backToKw pos (keywordEach kws X.env)).all (·.1.isSome) = true := by rfl) (hks : (backToKw pos (keywordEach kws X.env)).filterMap (·.1) = ks := by rfl)
    (hdb : (x == ("__debug__" : Str)) = false := by decide) (hpl : ((backTo pos (starEach [] X.env)).any (·.1) || (backToKw pos (keywordEach kws X.env)).any (·.1.isNone)) = false := by rfl) : DE X B (.Call (.Name x p) [] kws pos) (dCallK wp ps.length 0 ks.length perm dNil tk) := by
  obtain ⟨f, fd, hm, hk, hb, F⟩ := G.ex
  refine ⟨fun rx tk0 => ⟨fun pins s σ H Q I ⟨g, δ, P, S, q, k1⟩ => ?_⟩⟩
  refine wpAny_Call_Name_kw (ld_glob I hg hm ?_ hdb)
  refine PySem.W.callWith_KW0 (h₀ := X.base) I.ok.mod.kin hk hall ?_ hpl
  refine thn ((hkw.run rx tk0).run pos pins s σ H (fun zs H2 => ∃ es δ2 g2, (es.length = ks.length ∧ (pick perm ([] ++ es)).length = ps.length ∧ wp (pick perm ([] ++ es)) (fun d => P d δ2) rx) ∧ Step X.N.length g H g2 H2 ∧ Stt X.K B g2 H2 σ δ2 ∧ Dens X.K g2.W g2.F zs es) I
    ⟨g, δ, _, S, q, fun es δ2 g2 H2 zs h2 st2 S2 D2 => ⟨es, δ2, g2, h2.2, st2, S2, D2⟩⟩) fun ws s2 ⟨zs, H2, I2, r2, es', δ2, g2, ⟨l2, l3, hw⟩, st2, S2, D2⟩ => ⟨I2.kIn, ?_⟩
  rw [hks]
  have DD := pick_dens (Dens.append .nil D2) perm
  have z := sp_of (n := X.N.length) (rx := rx) (Q := Q) S2 DD hw fun d g' H' v hp st S' Dn => k1 d δ2 g' H' v hp (st2.trans st) S' Dn
  rw [l3] at z
  exact run_g F hr (hb s2 [] ws rfl (by rw [← r2.length, D2.length, l2])) (passes_lift tk0) I2 (pick_vals (show Vals ([] ++ zs) ([] ++ ws) from r2) perm) z
/-- C(.., k = v) -/
structure FnMK (P : Program) (w : World) (K : PySem.W.Frag) (mg : Str → Option Value) (base : Heap) (T : List (Addr × Str)) (x : Str) (k : Nat) (ps : List Str) (wpI : SpI) (n : Nat) (ks : List Str) (perm : List Nat) : Prop where
  ex : ∃ (f : Addr) (fd : FuncData), mg x = some (.ref (He.ga K x)) ∧ Mk K (He.ga K x) f ∧ (∀ (s : Shared) (v : Value) (us ws : List Value), us.length = n → ws.length = ks.length → BindsTo s fd ⟨v :: us, ks.zip ws⟩ (ps.zip (v :: pick perm (us ++ ws)))) ∧ FnI P w K mg base T x k f fd ps wpI
def fMakeK (c : Str) (wpI : SpI) (m n mk : Nat) (perm : List Nat) (t tk : TDA) : TDF := fun rx δ P => t rx δ fun ds δ1 => tk rx δ1 fun es δ2 => ds.length = n ∧ es.length = mk ∧ (pick perm (ds ++ es)).length = m ∧ wpI (pick perm (ds ++ es)) (fun fs => P (.oi none c fs) δ2) rx
theorem df_makeK (G : FnMK X.prog X.w X.K X.mg X.base B.T x k ps wpI n ks perm) (hr : Rm (k + 1) X.A) (hg : Gl X x) (ha : DA X B (e :: es) t) (hkw : DK X B kws tk) (hall : (backToKw pos (keywordEach kws X.env)).all (·.1.isSome) = true := by rfl) (hks : (backToKw pos (keywordEach kws X.env)).filterMap (·.1) = ks := by rfl)
    (hdb : (x == ("__debug__" : Str)) = false := by decide) (he : starEach (e :: es) X.env = (false, eval e X.env) :: starEach es X.env := by rfl)
    (hpl : ((backTo pos (starEach (e :: es) X.env)).any (·.1) || (backToKw pos (keywordEach kws X.env)).any (·.1.isNone)) = false := by rfl) (h1 : 1 ≤ ps.length := by decide) : DF X B (.Call (.Name x p) (e :: es) kws pos) (fMakeK x wpI (ps.length - 1) n ks.length perm t tk) := by
  obtain ⟨f, fd, hm, M, hb, FI⟩ := G.ex
  refine ⟨fun rx tk0 => ⟨fun pins s σ H Q I ⟨g, δ, P, S, q, k1⟩ => ?_⟩⟩
  refine wpAny_Call_Name_kw (ld_glob I hg hm ?_ hdb)
  refine PySem.W.callWith_KW (h₀ := X.base) I.ok.mod.kin M.kp hall (thn ((ha.run rx tk0).run pos pins s σ H (fun vs H1 => ∃ ds δ1 g1, (tk rx δ1 fun es δ2 => ds.length = n ∧ es.length = ks.length ∧ (pick perm (ds ++ es)).length = ps.length - 1 ∧ wpI (pick perm (ds ++ es)) (fun fs => P (.oi none x fs) δ2) rx) ∧ Step X.N.length g H g1 H1 ∧ Stt X.K B g1 H1 σ δ1 ∧ Dens X.K g1.W g1.F vs ds) I
    ⟨g, δ, _, S, q, fun ds δ1 g1 H1 vs h1 st1 S1 D1 => ⟨ds, δ1, g1, h1, st1, S1, D1⟩⟩) fun us s1 ⟨vs, H1, I1, r1, ds, δ1, g1, h1, st1, S1, D1⟩ => ?_) hpl he
  refine thn ((hkw.run rx tk0).run pos pins s1 σ H1 (fun zs H2 => ∃ es δ2 g2, (ds.length = n ∧ es.length = ks.length ∧ (pick perm (ds ++ es)).length = ps.length - 1 ∧ wpI (pick perm (ds ++ es)) (fun fs => P (.oi none x fs) δ2) rx) ∧ Step X.N.length g1 H1 g2 H2 ∧ Stt X.K B g2 H2 σ δ2 ∧ Dens X.K g2.W g2.F zs es) I1
    ⟨g1, δ1, _, S1, h1, fun es δ2 g2 H2 zs h2 st2 S2 D2 => ⟨es, δ2, g2, h2, st2, S2, D2⟩⟩) fun ws s2 ⟨zs, H2, I2, r2, es', δ2, g2, ⟨l1, l2, l3, hw⟩, st2, S2, D2⟩ => ⟨I2.kIn, ?_⟩
  rw [hks]
  have DD := pick_dens ((D1.step st2).append D2) perm
  exact run_new M FI hr tk0 (fun s v => hb s v us ws (by rw [← r1.length, D1.length, l1]) (by rw [← r2.length, D2.length, l2])) I2 S (st1.trans st2) S2 (pick_vals (r1.append r2) perm) DD (by omega) hw fun fs g' H' v hp st' S' it => k1 _ δ2 g' H' v hp st' S' it
theorem df_makeK0 (G : FnMK X.prog X.w X.K X.mg X.base B.T x k ps wpI 0 ks perm) (hr : Rm (k + 1) X.A) (hg : Gl X x) (hkw : DK X B kws tk) (hall : (backToKw pos (keywordEach kws X.env)).all (·.1.isSome) = true := by rfl) (hks : (backToKw pos (keywordEach kws X.env)).filterMap (·.1) = ks := by rfl)
    (hdb : (x == ("__debug__" : Str)) = false := by decide) (hpl : ((backTo pos (starEach [] X.env)).any (·.1) || (backToKw pos (keywordEach kws X.env)).any (·.1.isNone)) = false := by rfl) (h1 : 1 ≤ ps.length := by decide) : DF X B (.Call (.Name x p) [] kws pos) (fMakeK x wpI (ps.length - 1) 0 ks.length perm dNil tk) := by
  obtain ⟨f, fd, hm, M, hb, FI⟩ := G.ex
  refine ⟨fun rx tk0 => ⟨fun pins s σ H Q I ⟨g, δ, P, S, q, k1⟩ => ?_⟩⟩
  refine wpAny_Call_Name_kw (ld_glob I hg hm ?_ hdb)
  refine PySem.W.callWith_KW0 (h₀ := X.base) I.ok.mod.kin M.kp hall ?_ hpl
  refine thn ((hkw.run rx tk0).run pos pins s σ H (fun zs H2 => ∃ es δ2 g2, (es.length = ks.length ∧ (pick perm ([] ++ es)).length = ps.length - 1 ∧ wpI (pick perm ([] ++ es)) (fun fs => P (.oi none x fs) δ2) rx) ∧ Step X.N.length g H g2 H2 ∧ Stt X.K B g2 H2 σ δ2 ∧ Dens X.K g2.W g2.F zs es) I
    ⟨g, δ, _, S, q, fun es δ2 g2 H2 zs h2 st2 S2 D2 => ⟨es, δ2, g2, h2.2, st2, S2, D2⟩⟩) fun ws s2 ⟨zs, H2, I2, r2, es', δ2, g2, ⟨l2, l3, hw⟩, st2, S2, D2⟩ => ⟨I2.kIn, ?_⟩
  rw [hks]
  have DD := pick_dens (Dens.append .nil D2) perm
  exact run_new M FI hr tk0 (fun s v => hb s v [] ws rfl (by rw [← r2.length, D2.length, l2])) I2 S st2 S2 (pick_vals (show Vals ([] ++ zs) ([] ++ ws) from r2) perm) DD (by omega) hw fun fs g' H' v hp st' S' it => k1 _ δ2 g' H' v hp st' S' it
end
end DL

namespace DL
open PySem PySem.Spec L2
open PyProof.Rows hiding St
/-! ### t[::-1] of a tuple -/
section
open HT
variable {prog : Program} {w : World} {A : Around} {E : Value → Shared → Prop} {s : Shared}
theorem rev_places (n : Nat) : Builtin.Slice.slicePlaces ((n : Int) - 1) (-1) (-1) = n := by
  unfold Builtin.Slice.slicePlaces
  rw [if_neg (by decide), Int.neg_neg, Int.ediv_one]
  split <;> omega
theorem fm_congr {α β : Type} {f g : α → Option β} : ∀ {l : List α}, (∀ a ∈ l, f a = g a) → l.filterMap f = l.filterMap g
  | [], _ => rfl
  | a :: l, h => by rw [List.filterMap_cons, List.filterMap_cons, h a List.mem_cons_self, fm_congr fun b hb => h b (List.mem_cons_of_mem _ hb)]
theorem rev_pick (xs : Array Value) : ((List.range xs.size).filterMap fun (m : Nat) => xs[(((xs.size : Int) - 1) + (m : Int) * -1).toNat]?).toArray = xs.toList.reverse.toArray := by
  have e : ∀ m ∈ List.range xs.size, xs[(((xs.size : Int) - 1) + (m : Int) * -1).toNat]? = xs.toList.reverse[m]? := fun m hm => by
    have hm := List.mem_range.mp hm
    rw [List.getElem?_reverse (by simpa using hm)]
    have : (((xs.size : Int) - 1) + (m : Int) * -1).toNat = xs.toList.length - 1 - m := by simp; omega
    rw [this]; simp
  rw [fm_congr e]
  congr 1
  have key : ∀ l : List Value, (List.range l.length).filterMap (fun m => l[m]?) = l := by
    intro l
    induction l with
    | nil => rfl
    | cons a l ih =>
      rw [List.length_cons, List.range_succ_eq_map, List.filterMap_cons]
      simp only [List.getElem?_cons_zero, List.filterMap_map]
      congr 1
  have := key xs.toList.reverse
  rw [List.length_reverse, Array.length_toList] at this
  exact this
theorem tup_rev {t sl : Addr} {items : Array Value} {vl vu vs : Value} {Q : Value → Shared → Prop} (ht : IsTup s.heap t items) (hs : s.heap.IsSliceOf sl vl vu vs) (pl : IsPart vl none) (pu : IsPart vu none) (ps : IsPart vs (some (-1)))
    (h : Q (.ref s.heap.objs.size) { s with heap := s.heap.push { cls := .type "tuple", data := .seq items.toList.reverse.toArray } }) (hsz : items.size ≤ sizeLine) : wpAny (model prog w) A (getItem (.ref t) (.ref sl)) Q E s := by
  have fits : sizeOk (.seq items.toList.reverse.toArray) := by
    show items.toList.reverse.toArray.size ≤ sizeLine
    rw [List.size_toArray, List.length_reverse, Array.length_toList]; exact hsz
  obtain ⟨os, hos, hcs, hds⟩ := id hs
  have isSl : s.TypeIs (.ref sl) "slice" := ⟨os, hos, hcs⟩
  unfold getItem
  try with_reducible refine wpAny_holding ?_
  first | refine wpAny_bind (wpAny_pure ?_) | skip
  refine wpAny_bind (wpAny_sequenceKey ht.typeIs (by decide) ?_)
  refine wpAny_bind (wpAny_callSpecial?_slot (name := Str.ofString "__getitem__") ht.typeIs PyProof.Rows.slot_tuple_getitem
    (wpAny_call_entry PyProof.Rows.slot_tuple_getitem ht.typeIs entry_tuple_getitem ?_ (args_tuple_getitem _ _)))
  show wpAny _ _ (Builtin.Tuple.tupleItemsOf (.ref t) >>= _) _ _ s
  refine wpAny_bind (tupleItemsOf_ ht ?_)
  refine wpAny_bind (wpAny_typeOf isSl ?_)
  rw [if_pos (by decide)]
  have ap : ∀ {Q : Int × Int × Nat → Shared → Prop}, Q (((items.size : Int) - 1), -1, items.size) s → wpAny (model prog w) A.in1 (Builtin.Slice.sliceApplied (.ref sl) (pure (items.size : Int))) Q E s := fun {Q} q => by
    unfold Builtin.Slice.sliceApplied Builtin.Slice.sliceFields
    refine wpAny_bind (wpAny_bind (wpAny_field hos hds (x := vl) rfl (wpAny_bind (wpAny_field hos hds (x := vu) rfl (wpAny_bind (wpAny_field hos hds (x := vs) rfl (wpAny_pure ?_)))))))
    refine wpAny_bind (slicePart_ ps ?_)
    show wpAny _ _ (if ((-1 : Int) == 0) = true then _ else _) _ _ s
    rw [if_neg (by decide)]
    refine wpAny_bind (slicePart_ pl (wpAny_bind (slicePart_ pu (wpAny_bind (wpAny_pure ?_)))))
    show wpAny _ _ (pure (((items.size : Int) - 1), (-1 : Int), Builtin.Slice.slicePlaces ((items.size : Int) - 1) (-1) (-1))) _ _ s
    rw [rev_places]
    exact wpAny_pure q
  refine wpAny_bind (ap ?_)
  show wpAny _ _ (if (((items.size : Int) - 1) == 0 && (-1 : Int) == 1 && items.size == items.size) = true then _ else _) _ _ s
  rw [show ((-1 : Int) == 1) = false by decide, Bool.and_false, Bool.false_and, if_neg Bool.false_ne_true, rev_pick]
  first
    | exact wpAny_bind (m := Builtin.Tuple.tupleExact _) (wpAny_newObj_type (wpAny_pure ⟨_, rfl, wpAny_pure h⟩) fits)
    | exact wpAny_bind (m := Builtin.Tuple.tupleExact _) (wpAny_newObj_type (wpAny_bind (wpAny_pure (wpAny_pure ⟨_, rfl, wpAny_pure h⟩))) fits)
    | exact wpAny_bind (wpAny_bind (m := Builtin.Tuple.tupleExact _) (wpAny_newObj_type (wpAny_pure (wpAny_pure ⟨_, rfl, wpAny_pure h⟩)) fits))
    | exact wpAny_bind (wpAny_bind (m := Builtin.Tuple.tupleExact _) (wpAny_newObj_type (wpAny_pure ⟨_, rfl, wpAny_pure h⟩) fits))
end
section
variable {X : Cx} {B : Base} {e : Expr} {te : TE} {td : TDX} {k : Nat} {p1 p2 p3 pos : Pos}
def tRevA (K : PySem.W.Frag) (te : TE) : TE := fun σ H Q => te σ H fun x H1 => ∃ a xs, x = .ref a ∧ ((SqL K H1 a xs ∧ ∀ p, H1 p = none → Q (.ref p) (upd H1 p (.lst xs.reverse))) ∨ (SqT K H1 a xs ∧ ∀ p, H1 p = none → Q (.ref p) (upd H1 p (.tup xs.reverse))))
theorem pe_revA (he : PE X e te) : PE X (.Subscript e (.Slice none none (some (.UnaryOp .USub (.Constant (.int 1) k p1) p2)) p3) pos) (tRevA X.K te) := by
  refine ⟨fun pins s σ H Q I h => ?_⟩
  refine Subscript_ (thn (he.run pins s σ H _ I h) fun v s1 ⟨x, H1, I1, r1, q1⟩ => ?_)
  obtain ⟨a, xs, ex, q⟩ := q1
  subst ex
  cases r1
  have minus : PO X (some (.UnaryOp .USub (.Constant (.int 1) k p1) p2)) (tPart (tUn (rU fun i => .int (-i)) (tC (.int 1)))) := po_some (pe_un un_neg pe_int)
  refine wpAny_Slice (thn (po_none.run pins s1 σ H1 (fun o H2 => o = none ∧ H2 = H1) I1 ⟨rfl, rfl⟩) fun vl s2 ⟨l, H2, I2, pl, el, e2⟩ => ?_)
  subst el e2
  refine thn (po_none.run pins s2 σ H2 (fun o H3 => o = none ∧ H3 = H2) I2 ⟨rfl, rfl⟩) fun vu s3 ⟨u, H3, I3, pu, eu, e3⟩ => ?_
  subst eu e3
  refine thn (minus.run pins s3 σ H3 (fun o H4 => o = some (-1) ∧ H4 = H3) I3 ⟨1, rfl, -1, rfl, rfl, rfl⟩) fun vs s4 ⟨o, H4, I4, ps, eo, e4⟩ => ?_
  subst eo e4
  have I5 : Inv X pins σ H4 { s4 with heap := s4.heap.push { cls := .type "slice", data := .fields #[vl, vu, vs] } } := I4.kept (t' := s4.toks) fun b ob q => Heap.get?_push_of_some _ q
  show wpAny (model X.prog X.w) X.A (subscriptTail e (.Slice none none (some (.UnaryOp .USub (.Constant (.int 1) k p1) p2)) p3) (.ref a) (.ref s4.heap.objs.size)) (EP X pins σ Q) X.xe { s4 with heap := s4.heap.push { cls := .type "slice", data := .fields #[vl, vu, vs] } }
  rcases q with ⟨hx, q⟩ | ⟨hx, q⟩
  · obtain ⟨its, r, ht, hz⟩ := I5.list hx
    have hlen := r.length
    refine tail_any (ops := [.ref a, .ref s4.heap.objs.size]) ht.isList.typeIs (PySem.slot_list_getitem.lookup) ?_ (by with_unfolding_all rfl)
    refine wpAny_getItem_list_slice ht.isList (Heap.IsSliceOf.new _ vl vu vs) pl pu ps (by decide) ?_ (by rw [List.size_toArray]; omega)
    rw [PySem.W.krv_pick]
    exact ⟨.ref _, _, I5.laid (t' := s4.toks) (o := .lst xs.reverse) (fun b ob q => Heap.get?_push_of_some _ q) (Nat.le_refl _) ⟨by rw [List.length_reverse]; exact hz, _, 0, r.reverse, Heap.get?_push_size _ rfl⟩, rfl, q _ (I5.hok.fresh (Nat.le_refl _))⟩
  · obtain ⟨its, r, ht, hz⟩ := I5.tuple hx
    have hlen := r.length
    refine tail_any (ops := [.ref a, .ref s4.heap.objs.size]) ht.typeIs (PyProof.Rows.slot_tuple_getitem.lookup) ?_ (by with_unfolding_all rfl)
    refine tup_rev ht (Heap.IsSliceOf.new _ vl vu vs) pl pu ps ?_ (by rw [List.size_toArray]; omega)
    exact ⟨.ref _, _, I5.laid (t' := s4.toks) (o := .tup xs.reverse) (fun b ob q => Heap.get?_push_of_some _ q) (Nat.le_refl _) ⟨by rw [List.length_reverse]; exact hz, _, r.reverse, IsTup.new _ _⟩, rfl, q _ (I5.hok.fresh (Nat.le_refl _))⟩
def revF (x : D) (P : Sl → Prop) : Prop := match x with
  | .lst xs => P (.ol xs.reverse)
  | .kls xs => P (.ol xs.reverse)
  | .tup xs => P (.sh (.tup xs.reverse))
  | _ => False
def fRev (te : TDX) : TDF := fun rx δ P => te rx δ fun d δ1 => revF d fun s => P s δ1
theorem df_rev (he : DE X B e td) : DF X B (.Subscript e (.Slice none none (some (.UnaryOp .USub (.Constant (.int 1) k p1) p2)) p3) pos) (fRev td) :=
  ⟨fun rx tk => PE.imp (pe_revA (he.run rx tk)) fun σ H Q _ ⟨g, δ, P, S, q, k⟩ => ⟨g, δ, _, S, q, fun d δ1 g1 H1 v h1 st1 S1 D1 => by
    cases D1 with
    | @lst a vs ds h rs =>
      refine ⟨a, vs, rfl, .inl ⟨SqL.of (S1.ret.sub _ _ h), fun p hp => ?_⟩⟩
      obtain ⟨g4, st4, S4, it⟩ := S1.newL st1 S hp rs.reverse
      exact k _ δ1 g4 _ _ h1 st4 S4 it
    | @kls a vs ds h rs =>
      refine ⟨a, vs, rfl, .inl ⟨SqL.up S1.ret.sub h, fun p hp => ?_⟩⟩
      obtain ⟨g4, st4, S4, it⟩ := S1.newL st1 S hp rs.reverse
      exact k _ δ1 g4 _ _ h1 st4 S4 it
    | @tup a vs ds h rs =>
      refine ⟨a, vs, rfl, .inr ⟨SqT.up S1.ret.sub h, fun p hp => ?_⟩⟩
      obtain ⟨S4, st4⟩ := S1.alloc (n := X.N.length) (o := .tup vs.reverse) hp
      exact k _ δ1 _ _ _ h1 (st1.trans st4) S4 (.tup (.inl (.inl upd_same)) (rs.reverse.step st4))
    | _ => exact h1.elim⟩⟩
end
end DL

namespace DL
open PySem PySem.Spec L2
open PyProof.Rows hiding St
section
variable {X : Cx} {B : Base} {e i : Expr} {te ti : TDX} {pos pos' : Pos}
theorem PSet.or {t u : TSet} (h : PSet X t) (h' : PSet X u) : PSet X (fun o i v H Q => t o i v H Q ∨ u o i v H Q) := by
  intro pins s σ H o i v ov iv w Q I r1 r2 r3 q
  rcases q with q | q
  · exact h pins s σ H o i v ov iv w Q I r1 r2 r3 q
  · exact h' pins s σ H o i v ov iv w Q I r1 r2 r3 q
def putKD (kvs : List (Key × D)) (k : Key) (v : D) : List (Key × D) :=
  if (kvs.any fun kv => decide (kv.1 = k)) = true then kvs.map (fun kv => if kv.1 = k then (kv.1, v) else kv) else kvs ++ [(k, v)]
theorem any_keys {k : Key} : ∀ {ks : List (Key × V)} {kvs : List (Key × D)}, ks.map (·.1) = kvs.map (·.1) → (ks.any fun kv => decide (kv.1 = k)) = kvs.any fun kv => decide (kv.1 = k)
  | [], [], _ => rfl
  | [], _ :: _, e => by cases e
  | _ :: _, [], e => by cases e
  | (a, x) :: ks, (b, y) :: kvs, e => by
    simp only [List.map_cons, List.cons.injEq] at e
    rw [List.any_cons, List.any_cons, any_keys e.2, e.1]
theorem put_map {K : PySem.W.Frag} {W : DW} {F : Hp} {k : Key} {v : V} {d : D} (r : Den K W F v d) : ∀ {ks : List (Key × V)} {kvs : List (Key × D)}, ks.map (·.1) = kvs.map (·.1) → Dens K W F (ks.map (·.2)) (kvs.map (·.2)) →
    (ks.map fun kv => if kv.1 = k then (kv.1, v) else kv).map (·.1) = (kvs.map fun kv => if kv.1 = k then (kv.1, d) else kv).map (·.1) ∧ Dens K W F ((ks.map fun kv => if kv.1 = k then (kv.1, v) else kv).map (·.2)) ((kvs.map fun kv => if kv.1 = k then (kv.1, d) else kv).map (·.2))
  | [], [], _, _ => ⟨rfl, .nil⟩
  | [], _ :: _, e, _ => by cases e
  | _ :: _, [], e, _ => by cases e
  | (a, x) :: ks, (b, y) :: kvs, e, q => by
    simp only [List.map_cons, List.cons.injEq] at e q
    obtain ⟨rfl, e2⟩ := e
    cases q with
    | cons q1 q2 =>
      obtain ⟨h1, h2⟩ := put_map (k := k) r e2 q2
      simp only [List.map_cons]
      by_cases h : a = k
      · simp only [h, if_true, List.map_cons]
        refine ⟨?_, .cons r ?_⟩
        · rw [h1]
        · exact h2
      · simp only [h, if_false, List.map_cons]
        refine ⟨?_, .cons q1 ?_⟩
        · rw [h1]
        · exact h2
theorem put_rel {K : PySem.W.Frag} {W : DW} {F : Hp} {k : Key} {v : V} {d : D} {ks : List (Key × V)} {kvs : List (Key × D)} (r : Den K W F v d) (e : ks.map (·.1) = kvs.map (·.1)) (q : Dens K W F (ks.map (·.2)) (kvs.map (·.2))) :
    (putK ks k v).map (·.1) = (putKD kvs k d).map (·.1) ∧ Dens K W F ((putK ks k v).map (·.2)) ((putKD kvs k d).map (·.2)) := by
  unfold putK putKD
  rw [any_keys e]
  split
  · exact put_map r e q
  · rw [List.map_append, List.map_append, List.map_append, List.map_append]
    exact ⟨by rw [e]; rfl, q.append (.cons r .nil)⟩
/-- x[i] = e, slot j owns x -/
def dSetI (j : Nat) (te ti : TDX) : TDS := fun rx DE δ => te rx δ fun d δ1 => (match δ1[j]? with
    | some (some s) => ownSl s ≠ ""
    | _ => False) ∧ ti rx δ1 fun ix δ2 => match δ2[j]? with
  | some (some (.ol xs)) => ∃ k m, ix = .int k ∧ ixN xs.length k = some m ∧ DE.nx (δ2.set j (some (.ol (xs.set m d))))
  | some (some (.od kvs)) => ∃ k, keyD ix = some k ∧ kvs.length < sizeLine ∧ DE.nx (δ2.set j (some (.od (putKD kvs k d))))
  | _ => False
theorem ds_setI {x : Str} {pn ps : Pos} {j : Nat} (hu : X.A.units + 1 < cLine) (hj : j < X.N.length) (hn : PE X (.Name x pn) (tVar j)) (he : DE X B e te) (hi : DE X B i ti)
    (ha : ∀ v, assign (.Subscript (.Name x pn) i ps) X.env v = (do
      let ov ← holding [v] (eval (.Name x pn) X.env)
      let iv ← holding [v, ov] (eval i X.env)
      standAt ps
      holding [v, ov, iv] (setItem ov iv v)
      release [v, ov, iv] []) := by intro _; rfl)
    (hs : swapsWithSole [.Subscript (.Name x pn) i ps] e pos.line X.env = pure false := by rfl) (hw : swappedStores [.Subscript (.Name x pn) i ps] e X.env = pure none := by rfl)
    (h1 : (assignEach [.Subscript (.Name x pn) i ps] X.env).map (·.2) = [assign (.Subscript (.Name x pn) i ps) X.env] := by rfl) : DS X B (.Assign [.Subscript (.Name x pn) i ps] e pos) (dSetI j te ti) :=
  ⟨fun rx tk => PS.imp (ps_asg (he.run rx tk) (pg_sub hn (hi.run rx tk) (PSet.or set_list (set_dict hu)) ha) hs hw h1) fun DD σ H hl ⟨g, δ, DE, S, q, k1, k2, k3, k4⟩ => ⟨g, δ, _, S, q, fun d δ1 g1 H1 v h1 st1 S1 D1 => by
    obtain ⟨h0, h1⟩ := h1
    have hjl : j < σ.length := by rw [hl]; exact hj
    -- slot j's address
    have adr : ∃ a, σ[j]? = some (some (.ref a)) := by
      cases e0 : δ1[j]? with
      | none => simp only [e0] at h0
      | some o0 =>
        cases o0 with
        | none => simp only [e0] at h0
        | some s0 =>
          have z := S1.env j s0 e0
          cases s0 with
          | sh d => simp only [e0] at h0; exact absurd rfl h0
          | ol ds => obtain ⟨a, _, z, _⟩ := z; exact ⟨a, z⟩
          | od ds => obtain ⟨a, _, z, _⟩ := z; exact ⟨a, z⟩
          | oi m c fs => simp only [e0] at h0; exact absurd rfl h0
    obtain ⟨a, ea⟩ := adr
    refine ⟨.ref a, ea, g1, δ1, _, S1, h1, fun ix δ2 g2 H2 y h2 st2 S2 D2 => ?_⟩
    have D1' := D1.step st2
    cases e2 : δ2[j]? with
    | none => simp only [e2] at h2
    | some o2 =>
      cases o2 with
      | none => simp only [e2] at h2
      | some s2 =>
        have z := S2.env j s2 e2
        cases s2 with
        | sh d => simp only [e2] at h2
        | oi m c fs => simp only [e2] at h2
        | ol xs =>
          simp only [e2] at h2
          obtain ⟨k, m, rfl, em, hnx⟩ := h2
          obtain ⟨a', vs, z1, z2, z3, rv⟩ := z
          rw [ea] at z1
          cases z1
          cases D2
          obtain ⟨S3, st3⟩ := S2.write (n := X.N.length) (o' := .lst (vs.set m v)) (s := .ol (xs.set m d)) z2 hj z3 trivial trivial ⟨a, _, ea, z2, upd_same, Dens.set D1' m rv⟩
          exact .inl ⟨a, vs, k, m, rfl, rfl, z3, by rw [rv.length]; exact em, k1 _ _ g2 _ hnx ((st1.trans st2).trans st3) S3⟩
        | od kvs =>
          simp only [e2] at h2
          obtain ⟨k, ek, hlt, hnx⟩ := h2
          obtain ⟨a', vs, z1, z2, z3, z4, rv⟩ := z
          rw [ea] at z1
          cases z1
          have hlen : vs.length = kvs.length := by have := congrArg List.length z4; simpa using this
          obtain ⟨p1, p2⟩ := put_rel (k := k) D1' z4 rv
          obtain ⟨S3, st3⟩ := S2.write (n := X.N.length) (o' := .dK (putK vs k v)) (s := .od (putKD kvs k d)) z2 hj z3 trivial trivial ⟨a, _, ea, z2, upd_same, p1, p2⟩
          exact .inr ⟨a, _, rfl, .inl ⟨vs, k, z3, D2.key ek, by rw [hlen]; exact hlt, rfl⟩, k1 _ _ g2 _ hnx ((st1.trans st2).trans st3) S3⟩⟩⟩
/-! ### dict displays -/
def fDict0 : TDF := fun _ δ P => P (.od []) δ
theorem df_dict0 : DF X B (.Dict [] [] pos) fDict0 := ⟨fun rx tk => PE.imp pe_dnewK fun σ H Q _ ⟨g, δ, P, S, q, k⟩ p hp => by
  obtain ⟨g2, st2, S2, it⟩ := S.newK (ks := []) (kvs := []) (Step.refl X.N.length g H) S hp rfl .nil
  exact k _ δ g2 _ _ q st2 S2 it⟩
def mergeD (kvs : List (Key × D)) : List (Key × D) := kvs.foldl (fun acc kv => putKD acc kv.1 kv.2) []
def dPairsL : List (TDX × TDX) → (D → Prop) → Env → (List (Key × D) → Env → Prop) → Prop
  | [], _, δ, P => P [] δ
  | (tk, tv) :: r, rx, δ, P => tk rx δ fun k δ1 => tv rx δ1 fun v δ2 => ∃ key, keyD k = some key ∧ dPairsL r rx δ2 fun kvs δ3 => P ((key, v) :: kvs) δ3
def fDict (trs : List (TDX × TDX)) : TDF := fun rx δ P => dPairsL trs rx δ fun kvs δ1 => P (.od (mergeD kvs)) δ1
structure DPs (X : Cx) (B : Base) (pos : Pos) (keys : List (Option Expr)) (values : List Expr) (trs : List (TDX × TDX)) : Prop where
  run : ∀ rx, Takes X (XW (liftX X.K B rx)) → PPs X pos keys values (trs.map fun t => (liftE X.K B X.N.length (t.1 rx), liftE X.K B X.N.length (t.2 rx)))
theorem dps_nil : DPs X B pos [] [] [] := ⟨fun rx tk => pps_nil⟩
theorem dps_cons {k v : Expr} {ks : List (Option Expr)} {vs : List Expr} {tk tv : TDX} {trs : List (TDX × TDX)} (hk : DE X B k tk) (hv : DE X B v tv) (hr : DPs X B pos ks vs trs) : DPs X B pos (some k :: ks) (v :: vs) ((tk, tv) :: trs) :=
  ⟨fun rx t => pps_cons (hk.run rx t) (hv.run rx t) (hr.run rx t)⟩
theorem merge_rel {K : PySem.W.Frag} {W : DW} {F : Hp} : ∀ {more : List (Key × V)} {moreD : List (Key × D)} {ks : List (Key × V)} {kvs : List (Key × D)}, more.map (·.1) = moreD.map (·.1) → Dens K W F (more.map (·.2)) (moreD.map (·.2)) → ks.map (·.1) = kvs.map (·.1) → Dens K W F (ks.map (·.2)) (kvs.map (·.2)) →
    (mergeK ks more).map (·.1) = (moreD.foldl (fun acc kv => putKD acc kv.1 kv.2) kvs).map (·.1) ∧ Dens K W F ((mergeK ks more).map (·.2)) ((moreD.foldl (fun acc kv => putKD acc kv.1 kv.2) kvs).map (·.2))
  | [], [], _, _, _, _, e, r => ⟨e, r⟩
  | [], _ :: _, _, _, e, _, _, _ => by cases e
  | _ :: _, [], _, _, e, _, _, _ => by cases e
  | (a, x) :: more, (b, y) :: moreD, ks, kvs, e, r, e2, r2 => by
    simp only [List.map_cons, List.cons.injEq] at e r
    obtain ⟨rfl, e3⟩ := e
    cases r with
    | cons r1 r3 =>
      obtain ⟨p1, p2⟩ := put_rel (k := a) r1 e2 r2
      exact merge_rel (more := more) (moreD := moreD) (ks := putK ks a x) (kvs := putKD kvs a y) e3 r3 p1 p2
/-- the pairs, from a state -/
theorem pairs_run {K : PySem.W.Frag} {rx : D → Prop} {σ : L2.St} {n : Nat} : ∀ (trs : List (TDX × TDX)) (g : Gs) (H : Hp) (δ : Env) (P : List (Key × D) → Env → Prop) (Q : List (V × V) → Hp → Prop), Stt K B g H σ δ → dPairsL trs rx δ P →
    (∀ kvs δ' g' H' (ks : List (Key × V)), P kvs δ' → Step n g H g' H' → Stt K B g' H' σ δ' → ks.map (·.1) = kvs.map (·.1) → Dens K g'.W g'.F (ks.map (·.2)) (kvs.map (·.2)) → kvs.length = trs.length → Q (ks.map fun kv => (kV kv.1, kv.2)) H') →
    tPairs (trs.map fun t => (liftE K B n (t.1 rx), liftE K B n (t.2 rx))) σ H Q
  | [], g, H, δ, P, Q, S, q, k => k [] δ g H [] q (Step.refl _ _ _) S rfl .nil rfl
  | (tk, tv) :: r, g, H, δ, P, Q, S, q, k => ⟨g, δ, _, S, q, fun kd δ1 g1 H1 x h1 st1 S1 D1 => ⟨g1, δ1, _, S1, h1, fun v δ2 g2 H2 y h2 st2 S2 D2 => by
    obtain ⟨key, ek, h2⟩ := h2
    have ex : x = kV key := D1.key ek
    subst ex
    exact pairs_run r g2 H2 δ2 _ _ S2 h2 fun kvs δ' g' H' ks hp st S' e rr hl => k _ δ' g' H' ((key, y) :: ks) hp ((st1.trans st2).trans st) S' (by simp [e]) (.cons (D2.step st) rr) (by simp [hl])⟩⟩
theorem df_dict {keys : List (Option Expr)} {values : List Expr} {trs : List (TDX × TDX)} (h : DPs X B pos keys values trs) (hall : keys.all (·.isSome) = true) (hl : keys.length = values.length) (h0 : keys ≠ []) (h15 : keys.length ≤ 15) (ht : trs.length ≤ 15) : DF X B (.Dict keys values pos) (fDict trs) :=
  ⟨fun rx tk => PE.imp (pe_disp (h.run rx tk) hall hl h0 h15) fun σ H Q hσ ⟨g, δ, P, S, q, k⟩ p hp => by
    obtain ⟨S2, st2⟩ := S.allocOwn (n := X.N.length) (k := X.N.length + p) hp (o := .dK []) trivial
    have hO : g.O p = none := own_none S hp
    refine pairs_run trs _ _ δ _ _ S2 q fun kvs δ' g' H' ks hpp st S' ek er hlen => ?_
    obtain ⟨o1, o2⟩ := st.ext p (X.N.length + p) (by simp) (Nat.le_add_right _ _)
    have eD : H' p = some (.dK []) := by rw [o2, upd_same]
    refine ⟨eD, ks, rfl, ?_, ?_⟩
    · have : ks.length = kvs.length := by have := congrArg List.length ek; simpa using this
      omega
    · obtain ⟨m1, m2⟩ := merge_rel (ks := []) (kvs := []) ek er rfl .nil
      obtain ⟨S3, k3⟩ := S'.writeX (n := X.N.length) (o' := .dK (mergeK [] ks)) hσ o1 (Nat.le_add_right _ _) eD trivial trivial
      have sA := st2.trans st
      refine k _ δ' g' _ _ hpp ⟨sA.up, sA.wle, fun a h => upd_thr a (sA.thr a h), fun a k' z1 z2 => ?_⟩ S3 ⟨p, _, rfl, hO, o1, upd_same, m1, m2⟩
      obtain ⟨y1, y2⟩ := sA.ext a k' z1 z2
      exact ⟨y1, (k3 a (fun z => by rw [z, hO] at z1; cases z1)).trans y2⟩⟩
end
end DL

namespace DL
open PySem PySem.Spec PySem.W PySem.Calls PyProof.Rows
section
variable {prog : Program} {w : World} {A : Around} {E : Value → Shared → Prop} {s : Shared} {K : Frag} {x C L f : Addr} {h₀ : Heap} {m : Str → Option Value} {ox : Obj} {od : Option Obj} {b tb : Value}
theorem ne_plain : plainId "object.__ne__" = true := by decide +kernel
theorem ne_bind (x : Value) : bindSpecial (.builtin "object.__ne__") x = pure (.builtin "object.__ne__", [x]) := by first | rfl | kernel_rfl
/-- x != b where the class has its own == alone -/
theorem ne_own {Q : Value → Shared → Prop} (hu : A.units + 1 < cLine) (X : K.In s.heap) (I : InstAt s.heap x ox C od) (hb : Looks (model prog w) s.heap (typeOf b) tb) (hn : notFirst K C tb = true)
    (hs : findIn K (.ref C) "__eq__" = some (some (.ref f))) (hf : isFn K (.ref f) = true) (hne : findIn K (.ref C) "__ne__" = some (some (.builtin "object.__ne__"))) (hm : mroIn K C (.type "object") = some true)
    (h : wpAny (model prog w) A.in1 (call (.ref f) [.ref x, b]) (fun v s' => ∃ r, v = .bool r ∧ Q (.bool (!r)) s') E s) : wpAny (model prog w) A (richCompare .NotEq (.ref x) b) Q E s := by
  have body : ∀ {R : Fin → Shared → Prop}, (∀ r s', Q (.bool r) s' → R (.done (.ret (.bool r))) s') → wpAny (model prog w) A.in1 (Builtin.«object.__ne__» ⟨[.ref x, b], []⟩) R E s := fun {R} hR => by
    unfold Builtin.«object.__ne__»
    refine wpAny_bind (wpAny_of_eq (a := (Value.ref x, [b])) (by first | rfl | (simp only [slotArgs]; rfl)) ?_)
    refine wpAny_bind (wpAny_cRoomFor (show A.in1.units < cLine from hu) ?_)
    refine wpAny_bind (m := callSpecialIfBound? (.ref x) (Str.ofString "__eq__") [b]) (ifBound_K X I hs hf (wpAny_mono h (fun v s' hv => ?_) fun _ _ e => e))
    obtain ⟨r, rfl, hq⟩ := hv
    exact wpAny_bind (wpAny_truthy_bool (wpAny_pure (hR _ _ hq)))
  have sub : Looks (model prog w) s.heap (isInstance (.ref x) (.type "object")) true := I.type.andThen (looks_mroIn X hm)
  have called : wpAny (model prog w) A (call (.builtin "object.__ne__") [.ref x, b]) (fun v s' => ∃ r, v = .bool r ∧ Q (.bool r) s') E s :=
    wpAny_call (codeAny_call_builtin ne_plain F.cmpEntry_ne (@check_slot (model prog w) _ _ s "object.__ne__" "object" "__ne__" (.ref x) [b] [] _ F.cmpKind_ne F.cmpSplit_ne sub (F.cmpArgs_ne _ _) (body fun r s' q => ⟨r, rfl, q⟩)))
  have one : wpAny (model prog w) A (tryCompare (.ref x) "__ne__" b) (fun r s' => ∃ v, r = some v ∧ Q v s') E s := by
    unfold tryCompare callSpecialIfBound? bindSpecialIfBound?
    refine wpAny_bind (wpAny_holding (wpAny_bind (wpAny_bind (wpAny_bind (I.type.here ((looks_findIn X hne).here ?_))))))
    refine wpAny_bind (wpAny_askSetting (wpAny_ite ?_))
    have fin : wpAny (model prog w) A (call (.builtin "object.__ne__") ([.ref x] ++ [b]) >>= fun v => pure (some v)) (fun r s' => wpAny (model prog w) A (match r with | some .notImplemented | none => pure none | some v => pure (some v)) (fun r s' => ∃ v, r = some v ∧ Q v s') E s') E s := by
      refine wpAny_bind (wpAny_mono called (fun v s' hv => ?_) fun _ _ e => e)
      obtain ⟨r, rfl, hq⟩ := hv
      exact wpAny_pure (wpAny_pure ⟨_, rfl, hq⟩)
    split
    · exact wpAny_bind (wpAny_of_eq (ne_bind _) (wpAny_pure (by exact fin)))
    · exact wpAny_tryCatch (wpAny_bind (wpAny_of_eq (ne_bind _) (wpAny_pure (by exact fin))))
  unfold richCompare
  simp only [oneThing_ref]
  refine wpAny_holding (wpAny_bind (wpAny_cRoomFor (Nat.lt_of_succ_lt hu) ?_))
  refine wpAny_bind (I.type.here (wpAny_bind (hb.here ?_)))
  have e2 : (tb == Value.ref C) = true ∨ subIn K tb (.ref C) = some false := by
    rcases Bool.or_eq_true_iff.mp hn with e | e
    · exact .inl e
    · exact .inr (beq_iff_eq.mp e)
  split
  · rename_i q
    have e : subIn K tb (.ref C) = some false := by
      rcases e2 with e | e
      · rw [beq_iff_eq.mp e] at q; simp at q
      · exact e
    refine wpAny_bind ((looks_subIn X e).here ?_)
    simp only [Bool.false_eq_true, if_false]
    refine wpAny_bind (wpAny_mono one (fun r s' z => ?_) fun _ _ e => e)
    obtain ⟨v, rfl, hq⟩ := z
    exact wpAny_pure hq
  · refine wpAny_bind (wpAny_pure ?_)
    simp only [Bool.false_eq_true, if_false]
    refine wpAny_bind (wpAny_mono one (fun r s' z => ?_) fun _ _ e => e)
    obtain ⟨v, rfl, hq⟩ := z
    exact wpAny_pure hq
end
end DL
namespace DL
open PySem PySem.Spec L2
open PyProof.Rows hiding St
/-! ### == and != of own objects, by their class' own __eq__ -/
structure EqK (P : Program) (w : World) (K : PySem.W.Frag) (mg : Str → Option Value) (base : Heap) (T : List (Addr × Str)) (c : Str) (k : Nat) (wp : SpD) : Prop where
  ex : ∃ (f : Addr) (fd : FuncData) (ps : List Str), PySem.W.findIn K (.ref (He.ga K c)) "__eq__" = some (some (.ref f)) ∧ PySem.W.isFn K (.ref f) = true ∧ PySem.W.findIn K (.ref (He.ga K c)) "__ne__" = some (some (.builtin "object.__ne__")) ∧ PySem.W.mroIn K (He.ga K c) (.type "object") = some true ∧
    (∀ (s : Shared) (u v : Value), BindsTo s fd ⟨[u, v], []⟩ (ps.zip [u, v])) ∧ FnG P w K mg base k f fd ps (liftSp K T 2 wp)
/-- such a value is not asked first -/
def TyF (X : Cx) (c : Str) (y : V) (H : Hp) : Prop := ∀ (pins : List (Addr × Obj)) (σ : L2.St) (s : Shared) (v : Value), Inv X pins σ H s → RelV y v → ∃ tb, PySem.W.Looks (model X.prog X.w) s.heap (typeOf v) tb ∧ PySem.W.notFirst X.K (He.ga X.K c) tb = true
def rEqO (X : Cx) (B : Base) (rx : D → Prop) (neg : Bool) : R2 := fun x y H Q => ∃ a dx gs c k wp, x = .ref a ∧ H a = some (.ins (He.ga X.K c) dx gs) ∧ EqK X.prog X.w X.K X.mg X.base B.T c k wp ∧ Rm (k + 1) X.A ∧ TyF X c y H ∧ liftSp X.K B.T 2 wp [x, y] H (fun v H' => ∃ b, v = .bl b ∧ Q (.bl (xor b neg)) H') (liftX X.K B rx)
section
variable {X : Cx} {B : Base} {rx : D → Prop}
theorem op_eqO (tk : Takes X (XW (liftX X.K B rx))) : OpR X (compareOp .Eq) (rEqO X B rx false) := by
  intro pins s σ H x y u v Q I ru rv q
  obtain ⟨a, dx, gs, c, k, wp, rfl, ea, ek, hr, ty, hs⟩ := q
  obtain ⟨f, fd, ps, h1, h2, h3, h4, h5, F⟩ := ek.ex
  obtain rfl : u = Value.ref a := ru
  obtain ⟨mA, O, _⟩ := ins_get I.hok ea
  obtain ⟨od, J, _⟩ := O.look
  obtain ⟨tb, lt, nf⟩ := ty pins σ s v I rv
  obtain ⟨m, hF⟩ := I.fr
  show wpAny (model X.prog X.w) X.A (richCompare .Eq (.ref a) v) (EP X pins σ Q) X.xe s
  refine PySem.W.cmp_K (op := .Eq) hr.room.units0 hF I.ok.mod.kin J lt nf h1 h2 ?_
  refine wpAny_mono (run_g F (hr.mono (Nat.le_succ _)) (h5 s (.ref a) v) (passes_lift tk) I (.cons (show RelV (.ref a) (.ref a) from rfl) (.cons rv .nil)) hs) (fun r s' hq => ?_) fun _ _ e => e
  obtain ⟨z, H', I', rz, b, rfl, hq⟩ := hq
  obtain rfl : r = Value.bool b := rz
  exact ⟨.bl b, H', I', rfl, by rw [Bool.xor_false] at hq; exact hq⟩
theorem op_neO (tk : Takes X (XW (liftX X.K B rx))) : OpR X (compareOp .NotEq) (rEqO X B rx true) := by
  intro pins s σ H x y u v Q I ru rv q
  obtain ⟨a, dx, gs, c, k, wp, rfl, ea, ek, hr, ty, hs⟩ := q
  obtain ⟨f, fd, ps, h1, h2, h3, h4, h5, F⟩ := ek.ex
  obtain rfl : u = Value.ref a := ru
  obtain ⟨mA, O, _⟩ := ins_get I.hok ea
  obtain ⟨od, J, _⟩ := O.look
  obtain ⟨tb, lt, nf⟩ := ty pins σ s v I rv
  show wpAny (model X.prog X.w) X.A (richCompare .NotEq (.ref a) v) (EP X pins σ Q) X.xe s
  refine ne_own hr.u1 I.kIn J lt nf h1 h2 h3 h4 ?_
  refine wpAny_call (codeAny_mono (F.go X.A.in1 X.stack s H ⟨[.ref a, v], []⟩ [.ref a, v] [.ref a, y] _ (liftX X.K B rx) hr.in1 I.env0.in1 (h5 s (.ref a) v) (.cons (show RelV (.ref a) (.ref a) from rfl) (.cons rv .nil)) hs) fun r s' hq => ?_)
  have z := after_call I (passes_lift tk) hq
  rcases r with e | fl
  · exact z
  · cases fl with
    | ret r =>
      obtain ⟨z, H', I', rz, b, rfl, hq2⟩ := z
      obtain rfl : r = Value.bool b := rz
      exact ⟨b, rfl, .bl (!b), H', I', rfl, by rw [Bool.xor_true] at hq2; exact hq2⟩
    | next => exact z
    | brk => exact z
    | cont => exact z
end
/-- a == b | a != b: own objects on the left by their class, others as data -/
def dEqA (J : Isa) (eqs : List (Str × SpD)) (neg : Bool) (ta tb : TDX) : TDX := fun rx δ P => ta rx δ fun x δ1 => tb rx δ1 fun y δ2 => match x with
  | .ob c fs => ∃ wp, eqs.lookup c = some wp ∧ (∃ q, tyD J y = some q ∧ (q = .own c ∨ J.ask q (.own c) = some false)) ∧ wp [x, y] (fun r => ∃ b, r = .bl b ∧ P (.bl (xor b neg)) δ2) rx
  | _ => if neg = true then neD x y fun z => P z δ2 else eqD x y fun z => P z δ2
structure EqsOk (P : Program) (w : World) (K : PySem.W.Frag) (mg : Str → Option Value) (base : Heap) (T : List (Addr × Str)) (J : Isa) (eqs : List (Str × SpD)) (k : Nat) : Prop where
  isa : IsaOk K J
  ok : ∀ e ∈ eqs, EqK P w K mg base T e.1 k e.2
section
variable {X : Cx} {B : Base} {a b : Expr} {ta tb : TDX} {pos : Pos} {J : Isa} {eqs : List (Str × SpD)} {k : Nat}
theorem tyF_of {rx : D → Prop} {g : Gs} {H : Hp} {σ : L2.St} {δ : Env} {y : V} {d : D} {c : Str} {q : Tq} (T : IsaOk X.K J) (S : Stt X.K B g H σ δ) (r : Den X.K g.W g.F y d) (e : tyD J d = some q) (h : q = .own c ∨ J.ask q (.own c) = some false) : TyF X c y H := fun pins σ' s v I rv => by
  obtain ⟨P, Z, p, _⟩ := kit_den T I S.ret.sub rv r e
  refine ⟨q.v X.K, Z.ty _ _ I.kIn p, ?_⟩
  rcases h with rfl | h
  · unfold PySem.W.notFirst
    rw [show (Tq.own c).v X.K = Value.ref (He.ga X.K c) from rfl, beq_self_eq_true, Bool.true_or]
  · have z := T.kit h
    unfold PySem.W.notFirst
    unfold PySem.W.kitOne at z
    split at z
    · cases z
    · have z2 : (if ((PySem.W.clsIn X.K (He.ga X.K c)).isSome && PySem.W.typeIn X.K (.ref (He.ga X.K c)) == some (.type "type")) = true then PySem.W.subIn X.K (q.v X.K) (.ref (He.ga X.K c)) else none) = some false := z
      split at z2
      · rw [z2]; simp
      · cases z2
theorem lift_eqA {neg : Bool} {rx : D → Prop} {r : R2} (E : EqsOk X.prog X.w X.K X.mg X.base B.T J eqs k) (hr : Rm (k + 1) X.A) (L : Lift2 X.K r (fun x y P => if neg = true then neD x y P else eqD x y P)) {σ : L2.St} {H : Hp} {Q : VK} (h : liftE X.K B X.N.length (dEqA J eqs neg ta tb rx) σ H Q) :
    tOp (fun x y H Q => r x y H Q ∨ rEqO X B rx neg x y H Q) (liftE X.K B X.N.length (ta rx)) (liftE X.K B X.N.length (tb rx)) σ H Q := by
  obtain ⟨g, δ, P, S, q, k1⟩ := h
  refine ⟨g, δ, _, S, q, fun d1 δ1 g1 H1 v1 h1 st1 S1 D1 => ⟨g1, δ1, _, S1, h1, fun d2 δ2 g2 H2 v2 h2 st2 S2 D2 => ?_⟩⟩
  have D1' := D1.step st2
  by_cases ho : ∃ c fs, d1 = .ob c fs
  · obtain ⟨c, fs, rfl⟩ := ho
    obtain ⟨wp, ew, ⟨qt, et, ht⟩, hw⟩ := h2
    refine .inr ?_
    cases D1' with
    | @ob a dx _ gs _ hF hk rs =>
      refine ⟨a, dx, gs, c, k, wp, rfl, S2.ret.sub _ _ hF, E.ok _ (lookup_mem ew), hr, tyF_of (rx := rx) E.isa S2 D2 et ht, ?_⟩
      exact sp_of (n := X.N.length) (ds := [.ob c fs, d2]) S2 (.cons (.ob hF hk rs) (.cons D2 .nil)) hw fun d g' H' v hp st S' Dn => by
        obtain ⟨b', rfl, hp⟩ := hp
        cases Dn
        exact ⟨b', rfl, k1 _ δ2 g' H' _ hp ((st1.trans st2).trans st) S' (.bl _)⟩
  · refine .inl (L B X.N.length g2 H2 σ δ2 v1 v2 d1 d2 (fun z => P z δ2) Q S2 D1' D2 ?_ fun d g' H' v hp st S' Dn => k1 d δ2 g' H' v hp ((st1.trans st2).trans st) S' Dn)
    cases d1 with
    | ob c fs => exact absurd ⟨c, fs, rfl⟩ ho
    | _ => exact h2
theorem de_eqA (E : EqsOk X.prog X.w X.K X.mg X.base B.T J eqs k) (hr : Rm (k + 1) X.A) (ha : DE X B a ta) (hb : DE X B b tb) (hm : behindInMarks .Eq b = false := by rfl) : DE X B (.Compare a [.Eq] [b] pos) (dEqA J eqs false ta tb) :=
  ⟨fun rx tk => PE.imp (pe_cmpR ((op_eqD hr.u64).or (op_eqO tk)) (ha.run rx tk) (hb.run rx tk) hm) fun _ _ _ _ h => lift_eqA E hr (neg := false) (by simpa using l_eq) h⟩
theorem de_neA (E : EqsOk X.prog X.w X.K X.mg X.base B.T J eqs k) (hr : Rm (k + 1) X.A) (ha : DE X B a ta) (hb : DE X B b tb) (hm : behindInMarks .NotEq b = false := by rfl) : DE X B (.Compare a [.NotEq] [b] pos) (dEqA J eqs true ta tb) :=
  ⟨fun rx tk => PE.imp (pe_cmpR ((op_neD hr.u64).or (op_neO tk)) (ha.run rx tk) (hb.run rx tk) hm) fun _ _ _ _ h => lift_eqA E hr (neg := true) (by simpa using l_ne) h⟩
end
end DL

namespace DL
open PySem PySem.Spec L2
open PyProof.Rows hiding St
/-! ### repr of data -/
mutual
theorem toPD_plain : ∀ {d : D} {p : PyData}, toPD d = some p → p.hasDict = false
  | .non, _, e => by cases e; rfl
  | .bl b, _, e => by cases e; rfl
  | .int i, _, e => by cases e; rfl
  | .str x, _, e => by cases e; rfl
  | .lst ds, _, e => by
    unfold toPD at e
    cases q : toPDs ds with
    | none => rw [q] at e; cases e
    | some ps => rw [q] at e; cases e; exact toPDs_plain q
  | .kls ds, _, e => by
    unfold toPD at e
    cases q : toPDs ds with
    | none => rw [q] at e; cases e
    | some ps => rw [q] at e; cases e; exact toPDs_plain q
  | .tup ds, _, e => by
    unfold toPD at e
    cases q : toPDs ds with
    | none => rw [q] at e; cases e
    | some ps => rw [q] at e; cases e; exact toPDs_plain q
  | .ty n, _, e => by cases e
  | .glo n, _, e => by cases e
  | .dct n, _, e => by cases e
  | .ob _ n, _, e => by cases e
  | .exc _ n, _, e => by cases e
  | .drw, _, e => by cases e
  | .adr _, _, e => by cases e
theorem toPDs_plain : ∀ {ds : List D} {ps : List PyData}, toPDs ds = some ps → PyData.hasDictAll ps = false
  | [], _, e => by cases e; rfl
  | d :: ds, _, e => by
    unfold toPDs at e
    cases q : toPD d with
    | none => rw [q] at e; cases e
    | some p =>
      cases q2 : toPDs ds with
      | none => rw [q, q2] at e; cases e
      | some ps =>
        rw [q, q2] at e
        cases e
        show (p.hasDict || PyData.hasDictAll ps) = false
        rw [toPD_plain q, toPDs_plain q2]; rfl
end
def rReprD (K : PySem.W.Frag) : List V → Hp → VK → Prop := fun xs H Q => ∃ v p, xs = [v] ∧ Dp K H v p ∧ p.showable = true ∧ p.hasDict = false ∧ p.depth ≤ 60 ∧ p.shown.length ≤ sizeLine ∧ Q (.str p.shown) H
theorem call_reprD {X : Cx} {k : Nat} (hr : Rm k X.A) : CallR X (.builtin "repr") (rReprD X.K) := by
  intro pins s σ H xs us Q I r h
  obtain ⟨v, p, rfl, dp, hs, hd, hz, hl, q⟩ := h
  obtain ⟨u, rfl, ru⟩ := vals1 r
  obtain ⟨as, rd⟩ := Dp.reads I p v u dp ru
  cases rd with
  | none => exact PySem.P.repr_of_none ⟨.str _, H, I.tok _, ⟨_, rfl⟩, q⟩
  | bool b => exact PySem.P.repr_of_bool ⟨.str _, H, I.tok _, ⟨_, rfl⟩, by cases b <;> exact q⟩
  | int i t => exact PySem.P.repr_of_int (of_decide_eq_true hs) ⟨.str _, H, I.tok _, ⟨_, rfl⟩, q⟩
  | str x t => exact PySem.P.repr_of_str ⟨.str _, H, I.tok _, ⟨_, rfl⟩, q⟩ hl
  | list h1 h2 h3 h4 =>
    have hu := hr.u64
    exact repr_of_reads' (.list h1 h2 h3 h4) hs (fun z => by rw [hd] at z; cases z) hr.gd (by omega) (fun _ _ e => e) (fun h' u' tk k => ⟨.str _, H, I.kept (t' := tk) k, ⟨_, rfl⟩, q⟩) hl
  | tuple h1 h2 h3 h4 =>
    have hu := hr.u64
    exact repr_of_reads' (.tuple h1 h2 h3 h4) hs (fun z => by rw [hd] at z; cases z) hr.gd (by omega) (fun _ _ e => e) (fun h' u' tk k => ⟨.str _, H, I.kept (t' := tk) k, ⟨_, rfl⟩, q⟩) hl
  | dict _ _ _ _ _ => cases hd
def reprD (ds : List D) (P : D → Prop) : Prop := match ds with
  | [d] => ∃ p, toPD d = some p ∧ p.showable = true ∧ p.depth ≤ 60 ∧ p.shown.length ≤ sizeLine ∧ P (.str p.shown)
  | _ => False
theorem lc_repr {K : PySem.W.Frag} : LiftC K (rReprD K) reprD := fun B n g H σ δ xs ds P Q S rs q k => by
  cases rs with
  | nil => exact q.elim
  | cons r1 r2 =>
    cases r2 with
    | cons _ _ => cases r1 <;> exact q.elim
    | nil =>
      obtain ⟨p, e, h1, h2, h3, hp⟩ := q
      exact ⟨_, p, rfl, r1.dp S.ret.sub e, h1, toPD_plain e, h2, h3, k _ g H _ hp (Step.refl _ _ _) S (.str _)⟩
/-! ### a name that holds a def, called -/
structure FnsOk (P : Program) (w : World) (K : PySem.W.Frag) (mg : Str → Option Value) (base : Heap) (T : List (Addr × Str)) (fns : List (Str × SpD)) (k : Nat) (m : Nat) : Prop where
  ok : ∀ e ∈ fns, ∃ ps, ps.length = m ∧ FnD P w K mg base T e.1 k ps e.2
  at_ : ∀ e ∈ fns, mg e.1 = some (.ref (He.ga K e.1))
section
variable {X : Cx} {B : Base} {e : Expr} {es : List Expr} {t : TDA} {tf : TDX} {x : Str} {p pos : Pos} {fns : List (Str × SpD)} {k m : Nat}
def dCallV (fns : List (Str × SpD)) (m : Nat) (tf : TDX) (t : TDA) : TDX := fun rx δ P => tf rx δ fun f δ1 => match f with
  | .glo z => ∃ wp, fns.lookup z = some wp ∧ t rx δ1 fun ds δ2 => ds.length = m ∧ wp ds (fun d => P d δ2) rx
  | _ => False
theorem de_callV (FO : FnsOk X.prog X.w X.K X.mg X.base B.T fns k m) (hr : Rm k X.A) (hf : DE X B (.Name x p) tf) (ha : DA X B (e :: es) t)
    (he : starEach (e :: es) X.env = (false, eval e X.env) :: starEach es X.env := by rfl) (hpl : (backTo pos (starEach es X.env)).any (·.1) = false := by rfl) : DE X B (.Call (.Name x p) (e :: es) [] pos) (dCallV fns m tf t) := by
  refine ⟨fun rx tk => ⟨fun pins s σ H Q I ⟨g, δ, P, S, q, k1⟩ => ?_⟩⟩
  refine wpAny_Call_Name_kw (thn ((hf.run rx tk).run pins s σ H (fun v H1 => ∃ d δ1 g1, (match d with
    | .glo z => ∃ wp, fns.lookup z = some wp ∧ t rx δ1 fun ds δ2 => ds.length = m ∧ wp ds (fun d => P d δ2) rx
    | _ => False) ∧ Step X.N.length g H g1 H1 ∧ Stt X.K B g1 H1 σ δ1 ∧ Den X.K g1.W g1.F v d) I ⟨g, δ, _, S, q, fun d δ1 g1 H1 v h1 st1 S1 D1 => ⟨d, δ1, g1, h1, st1, S1, D1⟩⟩) fun u s1 ⟨v, H1, I1, rv, d, δ1, g1, h1, st1, S1, D1⟩ => ?_)
  cases D1 with
  | glo z =>
    obtain ⟨wp, ew, h1⟩ := h1
    obtain ⟨ps, hps, G⟩ := FO.ok _ (lookup_mem ew)
    have hat := FO.at_ _ (lookup_mem ew)
    obtain ⟨f, fd, hm, hk, hb, F⟩ := G.ex
    have ef : f = He.ga X.K z := by
      have z2 : some (Value.ref f) = some (.ref (He.ga X.K z)) := hm.symm.trans hat
      cases z2; rfl
    obtain rfl : u = Value.ref f := by rw [ef]; exact rv
    refine PySem.W.callWith_K (h₀ := X.base) I.ok.mod.kin hk (thn ((ha.run rx tk).run pos pins s1 σ H1 (fun vs H2 => ∃ ds δ2 g2, (ds.length = m ∧ wp ds (fun d => P d δ2) rx) ∧ Step X.N.length g1 H1 g2 H2 ∧ Stt X.K B g2 H2 σ δ2 ∧ Dens X.K g2.W g2.F vs ds) I1
      ⟨g1, δ1, _, S1, h1, fun ds δ2 g2 H2 vs h2 st2 S2 D2 => ⟨ds, δ2, g2, h2, st2, S2, D2⟩⟩) fun us s2 ⟨vs, H2, I2, r, ds, δ2, g2, ⟨hl, hw⟩, st2, S2, D2⟩ => ⟨I2.kIn, ?_⟩) he hpl
    have z := sp_of (n := X.N.length) (rx := rx) (Q := Q) S2 D2 hw fun d g' H' v hp st S' Dn => k1 d δ2 g' H' v hp ((st1.trans st2).trans st) S' Dn
    rw [hl, ← hps] at z
    exact run_g F hr (hb s2 us (by rw [← r.length, D2.length, hl, hps])) (passes_lift tk) I2 r z
  | _ => exact h1.elim
/-! ### e.append(x), e a new list that nobody keeps -/
def dAppF (tf : TDF) (t : TDX) : TDX := fun rx δ P => tf rx δ fun s δ1 => match s with
  | .ol xs => t rx δ1 fun d δ2 => xs.length < sizeLine ∧ P .non δ2
  | _ => False
end
end DL

namespace DL
open PySem PySem.Spec L2
open PyProof.Rows hiding St
/-! ### the draws' own state, read and written: what stands there is not told, but that no number is below 0 -/
section
variable {K : PySem.W.Frag} {B : Base} {g : Gs} {H : Hp} {σ : L2.St} {δ : Env} {n : Nat} {w : DrwA}
theorem Stt.drawPut {a : Addr} {o o' : HO} (S : Stt K B g H σ δ) (hw : g.W = some w) (ha : a = w.dr ∨ a = w.lg) (h : H a = some o) (hp : plainO o) (hd : DrawAt (upd H a o') w) : Stt K B g (upd H a o') σ δ ∧ Step n g H g (upd H a o') := by
  have hasA : has g.W a := ⟨w, hw, by rcases ha with h | h <;> simp [h]⟩
  obtain ⟨_, f1, f2, f3⟩ := S.ret.drw w hw
  have Fa : g.F a = none := by rcases ha with h | h <;> rw [h] <;> assumption
  have ow : ∀ b k, g.O b = some k → b ≠ a := fun b k e z => (S.own b k e).2.2.2 (by rw [z]; exact hasA)
  refine ⟨⟨⟨fun b u e => ?_, S.ret.up, fun b u e hh nt => ?_, fun b hb => upd_thr b (S.ret.there b hb), S.ret.froz, S.ret.wle, fun w' e => ?_, tabs_mut S.ret.tab h hp.tbl hp.ext, S.ret.dnew, S.ret.fnt⟩, fun b k e => ?_, S.len, fun i s e => ?_⟩, ⟨Up.refl _, WLe.refl _, fun b hb => upd_thr b hb, fun b k e _ => ⟨e, upd_ne (ow b k e)⟩⟩⟩
  · rw [upd_ne (fun q => by rw [q, Fa] at e; cases e)]; exact S.ret.sub _ _ e
  · rw [upd_ne (fun q => hh (by rw [q]; exact hasA))]; exact S.ret.old b u e hh nt
  · rw [hw] at e
    cases e
    exact ⟨hd, f1, f2, f3⟩
  · obtain ⟨c1, c2, c3, c4⟩ := S.own b k e
    exact ⟨c1, c2, by rw [upd_ne (ow b k e)]; exact c3, c4⟩
  · have z := S.env i s e
    cases s with
    | sh d => exact z
    | ol ds =>
      obtain ⟨b, xs, e1, e2, e3, r⟩ := z
      exact ⟨b, xs, e1, e2, by rw [upd_ne (ow b _ e2)]; exact e3, r⟩
    | od kvs =>
      obtain ⟨b, xs, e1, e2, e3, r⟩ := z
      exact ⟨b, xs, e1, e2, by rw [upd_ne (ow b _ e2)]; exact e3, r⟩
    | oi m c fs =>
      obtain ⟨b, dx, xs, e1, e2, e3, r⟩ := z
      exact ⟨b, dx, xs, e1, e2, by rw [upd_ne (ow b _ e2)]; exact e3, r⟩
variable {X : Cx} {e a b : Expr} {te : TDX} {pos p1 p2 p3 : Pos} {x : Str} {i j : Nat}
/-- draw['turn'], draw['rest']: some number that is not below 0 -/
def dDrw (i : Nat) : TDX := fun _ δ P => δ[i]? = some (some (.sh .drw)) ∧ ∀ t : Int, 0 ≤ t → P (.int t) δ
theorem slot_drw (S : Stt K B g H σ δ) (e : δ[i]? = some (some (.sh .drw))) : ∃ w, g.W = some w ∧ σ[i]? = some (some (.ref w.dr)) ∧ DrawAt H w := by
  obtain ⟨v, e1, r⟩ := S.env i _ e
  cases r with
  | drw hw => exact ⟨_, hw, e1, (S.ret.drw _ hw).1⟩
theorem de_drwT (hu : X.A.units + 1 < cLine) (hn : PE X (.Name x p1) (tVar i)) (hs : PlainIx (.Constant (.str "turn") j p2) := by intro _ _; rfl) : DE X B (.Subscript (.Name x p1) (.Constant (.str "turn") j p2) pos) (dDrw i) :=
  ⟨fun rx tk => PE.imp (pe_ix (ix_dict hu) hn (pe_str) hs) fun σ H Q _ ⟨g, δ, P, S, ⟨e, q⟩, k⟩ => by
    obtain ⟨w, hw, e1, D⟩ := slot_drw S e
    obtain ⟨ls, r, t, h1, h2, h3, h4, h5, h6, h7, h8, _⟩ := D
    refine ⟨.ref w.dr, e1, w.dr, .int t, rfl, .inl ⟨_, .inr "turn", .inl h1, rfl, ?_⟩, k _ δ g H _ (q t h8) (Step.refl _ _ _) S (.int t)⟩
    rfl⟩
theorem de_drwR (hu : X.A.units + 1 < cLine) (hn : PE X (.Name x p1) (tVar i)) (hs : PlainIx (.Constant (.str "rest") j p2) := by intro _ _; rfl) : DE X B (.Subscript (.Name x p1) (.Constant (.str "rest") j p2) pos) (dDrw i) :=
  ⟨fun rx tk => PE.imp (pe_ix (ix_dict hu) hn (pe_str) hs) fun σ H Q _ ⟨g, δ, P, S, ⟨e, q⟩, k⟩ => by
    obtain ⟨w, hw, e1, D⟩ := slot_drw S e
    obtain ⟨ls, r, t, h1, h2, h3, h4, h5, h6, h7, h8, _⟩ := D
    exact ⟨.ref w.dr, e1, w.dr, .int r, rfl, .inl ⟨_, .inr "rest", .inl h1, rfl, rfl⟩, k _ δ g H _ (q r h7) (Step.refl _ _ _) S (.int r)⟩⟩
/-- for .. in draw['cells'] -/
def dDrwI (i : Nat) : TDI := fun _ δ P => δ[i]? = some (some (.sh .drw)) ∧ ∀ cs : List Int, cs.length ≤ 63 → (∀ c ∈ cs, 0 ≤ c) → P (cs.map D.int) δ
theorem iter_cells {w : DrwA} {g1 : Gs} {H1 : Hp} (hw : g1.W = some w) : IterD K B n (Itl K w.cl) (w.cs.map D.int) g1 H1 := fun i g H σ δ st S => by
  have hw2 : g.W = some w := by
    rcases st.wle with z | z
    · rw [hw] at z; cases z
    · rw [z]; exact hw
  obtain ⟨ls, r, t, h1, h2, h3, _⟩ := (S.ret.drw w hw2).1
  have q : SqL K H w.cl (w.cs.map V.int) := SqL.of h3
  refine ⟨fun d e => ?_, fun hl => ⟨_, q, by simpa using hl⟩⟩
  rw [List.getElem?_map] at e
  cases z : w.cs[i]? with
  | none => rw [z] at e; cases e
  | some c =>
    rw [z] at e
    cases e
    have zv : (w.cs.map V.int)[i]? = some (.int c) := by rw [List.getElem?_map, z]; rfl
    exact ⟨⟨_, _, q, zv⟩, fun x H' ⟨e2, e3⟩ => by
      subst e2
      have e4 : x = .int c := Option.some.inj ((e3 _ q).symm.trans zv)
      subst e4
      exact ⟨g, Step.refl _ _ _, S, .int c⟩⟩
theorem di_drw {tg : Expr} (hu : X.A.units + 1 < cLine) (hn : PE X (.Name x p1) (tVar i)) (hs : PlainIx (.Constant (.str "cells") j p2) := by intro _ _; rfl) : DI X B tg (.Subscript (.Name x p1) (.Constant (.str "cells") j p2) pos) (dDrwI i) :=
  ⟨fun rx tk => PI.imp (pi_seq (pe_ix (ix_dict hu) hn (pe_str) hs)) fun σ H R _ ⟨g, δ, P, S, ⟨e, q⟩, k⟩ => by
    obtain ⟨w, hw, e1, D⟩ := slot_drw S e
    obtain ⟨ls, r, t, h1, h2, h3, h4, h5, h6, h7, h8, h9, h10⟩ := D
    exact ⟨.ref w.dr, e1, w.dr, .ref w.cl, rfl, .inl ⟨_, .inr "cells", .inl h1, rfl, rfl⟩, w.cl, rfl, .inl ⟨⟨_, SqL.of h3⟩, k _ δ g H _ (q w.cs h10 h6) (Step.refl _ _ _) S (iter_cells hw)⟩⟩⟩
/-- draw[key] = e, e not below 0 -/
def dDrwP (i : Nat) (te : TDX) : TDS := fun rx DE δ => te rx δ fun d δ1 => δ1[i]? = some (some (.sh .drw)) ∧ ∃ t : Int, d = .int t ∧ 0 ≤ t ∧ DE.nx δ1
theorem ds_drwT (hu : X.A.units + 1 < cLine) (hn : PE X (.Name x p1) (tVar i)) (he : DE X B e te) (hs : swapsWith e (some (.Subscript (.Name x p1) (.Constant (.str "turn") j p2) p3)) pos.line X.env = pure false := by rfl) : DS X B (.Assign [.Subscript (.Name x p1) (.Constant (.str "turn") j p2) p3] e pos) (dDrwP i te) :=
  ⟨fun rx tk => PS.imp (ps_dput hu hn pe_str (he.run rx tk) hs) fun DD σ H hl ⟨g, δ, DE, S, q, k1, k2, k3, k4⟩ => ⟨g, δ, _, S, q, fun d δ1 g1 H1 v h1 st1 S1 D1 => by
    obtain ⟨e1, t', rfl, ht, hnx⟩ := h1
    obtain ⟨w, hw, ea, D⟩ := slot_drw S1 e1
    obtain ⟨ls, r, t, h1, h2, h3, h4, h5, h6, h7, h8, h9, h10⟩ := D
    cases D1
    have n1 : w.lg ≠ w.dr := fun z => by rw [z, h1] at h2; cases h2
    have n2 : w.cl ≠ w.dr := fun z => by rw [z, h1] at h3; cases h3
    obtain ⟨S2, st2⟩ := S1.drawPut (n := X.N.length) (o' := .dK [(.inr "large", .ref w.lg), (.inr "rest", .int r), (.inr "cells", .ref w.cl), (.inr "turn", .int t')]) hw (.inl rfl) h1 trivial ⟨ls, r, t', upd_same, by rw [upd_ne n1]; exact h2, by rw [upd_ne n2]; exact h3, h4, h5, h6, h7, ht, h9, h10⟩
    exact ⟨.ref w.dr, ea, w.dr, _, rfl, .inl ⟨_, .inr "turn", h1, rfl, by rw [sizeLine_eq]; show 4 < 16777216; decide, rfl⟩, k1 _ _ g1 _ hnx (st1.trans st2) S2⟩⟩⟩
theorem ds_drwR (hu : X.A.units + 1 < cLine) (hn : PE X (.Name x p1) (tVar i)) (he : DE X B e te) (hs : swapsWith e (some (.Subscript (.Name x p1) (.Constant (.str "rest") j p2) p3)) pos.line X.env = pure false := by rfl) : DS X B (.Assign [.Subscript (.Name x p1) (.Constant (.str "rest") j p2) p3] e pos) (dDrwP i te) :=
  ⟨fun rx tk => PS.imp (ps_dput hu hn pe_str (he.run rx tk) hs) fun DD σ H hl ⟨g, δ, DE, S, q, k1, k2, k3, k4⟩ => ⟨g, δ, _, S, q, fun d δ1 g1 H1 v h1 st1 S1 D1 => by
    obtain ⟨e1, t', rfl, ht, hnx⟩ := h1
    obtain ⟨w, hw, ea, D⟩ := slot_drw S1 e1
    obtain ⟨ls, r, t, h1, h2, h3, h4, h5, h6, h7, h8, h9, h10⟩ := D
    cases D1
    have n1 : w.lg ≠ w.dr := fun z => by rw [z, h1] at h2; cases h2
    have n2 : w.cl ≠ w.dr := fun z => by rw [z, h1] at h3; cases h3
    obtain ⟨S2, st2⟩ := S1.drawPut (n := X.N.length) (o' := .dK [(.inr "large", .ref w.lg), (.inr "rest", .int t'), (.inr "cells", .ref w.cl), (.inr "turn", .int t)]) hw (.inl rfl) h1 trivial ⟨ls, t', t, upd_same, by rw [upd_ne n1]; exact h2, by rw [upd_ne n2]; exact h3, h4, h5, h6, ht, h8, h9, h10⟩
    exact ⟨.ref w.dr, ea, w.dr, _, rfl, .inl ⟨_, .inr "rest", h1, rfl, by rw [sizeLine_eq]; show 4 < 16777216; decide, rfl⟩, k1 _ _ g1 _ hnx (st1.trans st2) S2⟩⟩⟩
/-- draw['large'].pop(0) if draw['large'] != [] else .. -/
def dDrwPop (i : Nat) (to : TDX) : TDX := fun rx δ P => δ[i]? = some (some (.sh .drw)) ∧ (∀ t : Int, 0 ≤ t → P (.int t) δ) ∧ to rx δ P
theorem dpAll_ints {K : PySem.W.Frag} {H : Hp} : ∀ ls : List Int, DpAll K H (ls.map V.int) (ls.map PyData.int)
  | [] => .nil
  | l :: ls => .cons (.int l) (dpAll_ints ls)
theorem ints_plain : ∀ ls : List Int, PyData.canLayAll0 (ls.map PyData.int) = true ∧ PyData.depthAll (ls.map PyData.int) = 0
  | [] => ⟨rfl, rfl⟩
  | l :: ls => by
    obtain ⟨h1, h2⟩ := ints_plain ls
    refine ⟨?_, ?_⟩
    · show (PyData.canLay0 (.int l) && PyData.canLayAll0 (ls.map PyData.int)) = true
      rw [h1]; rfl
    · show max (PyData.depth (.int l)) (PyData.depthAll (ls.map PyData.int)) = 0
      rw [h2]; rfl
theorem shaped_ints (ls : List Int) : SeqAt.shaped (.list (ls.map PyData.int)) = true := by
  obtain ⟨h1, h2⟩ := ints_plain ls
  show (PyData.canLayAll0 (ls.map PyData.int) && decide (PyData.depthAll (ls.map PyData.int) + 1 ≤ 64)) = true
  rw [h1, h2]; rfl
theorem de_drwPop {k0 j3 : Nat} {q1 q2 q3 q4 q5 q6 q7 q8 q9 : Pos} {o : Expr} {to : TDX} (hr : Rm k0 X.A) (hn1 : PE X (.Name x q1) (tVar i)) (hn2 : PE X (.Name x q2) (tVar i)) (ho : DE X B o to)
    (hs1 : PlainIx (.Constant (.str "large") j q3) := by intro _ _; rfl) (hs2 : PlainIx (.Constant (.str "large") j q4) := by intro _ _; rfl) (hm : behindInMarks .NotEq (.List [] q5) = false := by rfl)
    (hbase : attributeBase (.Subscript (.Name x q2) (.Constant (.str "large") j q4) q7) "pop" X.env (eval (.Subscript (.Name x q2) (.Constant (.str "large") j q4) q7) X.env) = eval (.Subscript (.Name x q2) (.Constant (.str "large") j q4) q7) X.env := by rfl)
    (hfew : ((backTo pos (starEach [.Constant (.int 0) j3 q9] X.env)).all (fun x => !x.1) && (backToKw pos (keywordEach [] X.env)).all (fun x => x.1.isSome) && decide (([.Constant (.int 0) j3 q9] : List Expr).length + ([] : List Keyword).length + (if ([] : List Keyword).isEmpty then 0 else 1) < 30)) = true := by rfl)
    (hline : (q8.endLine == pos.line) = true := by rfl) :
    DE X B (.IfExp (.Compare (.Subscript (.Name x q1) (.Constant (.str "large") j q3) p1) [.NotEq] [.List [] q5] p2) (.Call (.Attribute (.Subscript (.Name x q2) (.Constant (.str "large") j q4) q7) "pop" q8) [.Constant (.int 0) j3 q9] [] pos) o p3) (dDrwPop i to) := by
  have hu := hr.u1
  refine ⟨fun rx tk => PE.imp (pe_ifExp (pt_cmpR (op_neD hr.u64) (pe_ix (ix_dict hu) hn1 pe_str hs1) (pe_lst pa_nil) hm)
    (pe_bm PySem.F.plainAttrs_list PySem.F.slot_list_pop PySem.F.type_list_pop mt_popAt (pe_ix (ix_dict hu) hn2 pe_str hs2) (pa_cons pe_int pa_nil) hbase hfew hline) (ho.run rx tk)) fun σ H Q hl ⟨g, δ, P, S, ⟨e, q1, q2⟩, k⟩ => ?_⟩
  obtain ⟨w, hw, e1, D⟩ := slot_drw S e
  obtain ⟨ls, r, t, h1, h2, h3, h4, h5, h6, h7, h8, h9, h10⟩ := D
  refine ⟨.ref w.dr, e1, w.dr, .ref w.lg, rfl, .inl ⟨_, .inr "large", .inl h1, rfl, rfl⟩, by decide, fun p hp => ?_⟩
  obtain ⟨S1, st1⟩ := S.alloc (n := X.N.length) (o := .lst []) hp
  have n2 : w.lg ≠ p := fun z => by rw [z, hp] at h2; cases h2
  have n1 : w.dr ≠ p := fun z => by rw [z, hp] at h1; cases h1
  have n3 : w.cl ≠ p := fun z => by rw [z, hp] at h3; cases h3
  refine ⟨.list (ls.map PyData.int), .list [], .lst (SqL.of (by rw [upd_ne n2]; exact h2)) (dpAll_ints ls), .lst (SqL.of upd_same) .nil, shaped_ints ls, rfl, _, rfl, ?_⟩
  cases ls with
  | nil => exact ⟨_, _, _, S1, q2, fun d δ' g' H' v hp st S' r => k d δ' g' H' v hp (st1.trans st) S' r⟩
  | cons l ls =>
    have n4 : w.lg ≠ w.dr := fun z => by rw [z, h1] at h2; cases h2
    refine ⟨.ref w.dr, e1, w.dr, .ref w.lg, rfl, .inl ⟨_, .inr "large", .inl (by rw [upd_ne n1]; exact h1), rfl, rfl⟩, .inl ⟨rfl, _, SqL.of (by rw [upd_ne n2]; exact h2)⟩, w.lg, _, 0, 0, .int l, rfl, rfl, by rw [upd_ne n2]; exact h2, by decide, by decide, ?_, rfl, ?_⟩
    · unfold seqIndex?; simp <;> omega
    · obtain ⟨S2, st2⟩ := S1.drawPut (n := X.N.length) (o := .lst ((l :: ls).map V.int)) (o' := .lst (ls.map V.int)) hw (.inr rfl) (by rw [upd_ne n2]; exact h2) trivial
        ⟨ls, r, t, by rw [upd_ne (Ne.symm n4), upd_ne n1]; exact h1, upd_same, by rw [upd_ne (Ne.symm h4), upd_ne n3]; exact h3, h4, fun x hx => h5 x (List.mem_cons_of_mem _ hx), h6, h7, h8, by simp at h9; omega, h10⟩
      exact k _ δ _ _ _ (q1 l (h5 l List.mem_cons_self)) (st1.trans st2) S2 (.int l)
end
end DL

namespace DL
open PySem PySem.Spec L2
open PyProof.Rows hiding St
/-! ### the draws begun -/
def bgAbs : TDX := dCB absD (dCons (dVar 2) dNil)
def bgC1 : TDF := dComp (dSeqI (dVar 0)) (gN 2) (dTest (d2 geD bgAbs (d2 powD (dC (.int 10)) (dC (.int 18))))) (d2 subD bgAbs (d2 powD (dC (.int 10)) (dC (.int 18)))) [2]
def bgC2 : TDF := dComp (dSeqI (dVar 0)) (gN 2) dYes bgAbs [2]
def bgE (ns : List Int) (s : Option Sl) : Env := [some (.sh (.kls (ns.map D.int))), s, none]
theorem bg_l1 {P : List D → Env → Prop} {s0 : Option Sl} {all : List Int} (h : ∀ ls : List Int, ls.length ≤ 63 → (∀ l ∈ ls, 0 ≤ l) → P (ls.map D.int) (bgE all s0)) : ∀ (ns ls : List Int), ls.length + ns.length ≤ 63 → (∀ l ∈ ls, 0 ≤ l) →
    dCompL (gN 2) (dTest (d2 geD bgAbs (d2 powD (dC (.int 10)) (dC (.int 18))))) (d2 subD bgAbs (d2 powD (dC (.int 10)) (dC (.int 18)))) [2] P (ns.map D.int) (ls.map D.int) (bgE all s0)
  | [], ls, hl, hp => h ls (by simpa using hl) hp
  | n :: ns, ls, hl, hp => by
    simp only [List.length_cons] at hl
    have pw : CPow 10 18 := ⟨by decide, by decide, by decide⟩
    by_cases hge : (10 : Int) ^ 18 ≤ (if n < 0 then -n else n)
    · have e : decide ((10 : Int) ^ 18 ≤ (if n < 0 then -n else n)) = true := decide_eq_true hge
      have ih := bg_l1 h ns (ls ++ [(if n < 0 then -n else n) - 10 ^ 18]) (by simp; omega) (fun l hm => by
        rcases List.mem_append.mp hm with z | z
        · exact hp l z
        · rw [List.mem_singleton.mp z]; omega)
      rw [List.map_append] at ih
      refine ⟨pw, ?_⟩
      show (if decide ((10 : Int) ^ 18 ≤ (if n < 0 then -n else n)) = true then _ else _)
      rw [e, if_pos rfl]
      exact ⟨pw, by rw [List.length_map, sizeLine_eq]; omega, ih⟩
    · have e : decide ((10 : Int) ^ 18 ≤ (if n < 0 then -n else n)) = false := decide_eq_false hge
      refine ⟨pw, ?_⟩
      show (if decide ((10 : Int) ^ 18 ≤ (if n < 0 then -n else n)) = true then _ else _)
      rw [e, if_neg Bool.false_ne_true]
      exact bg_l1 h ns ls (by omega) hp
theorem bg_l2 {P : List D → Env → Prop} {s0 : Option Sl} {all : List Int} (h : ∀ ls : List Int, ls.length ≤ 63 → (∀ l ∈ ls, 0 ≤ l) → P (ls.map D.int) (bgE all s0)) : ∀ (ns ls : List Int), ls.length + ns.length ≤ 63 → (∀ l ∈ ls, 0 ≤ l) →
    dCompL (gN 2) dYes bgAbs [2] P (ns.map D.int) (ls.map D.int) (bgE all s0)
  | [], ls, hl, hp => h ls (by simpa using hl) hp
  | n :: ns, ls, hl, hp => by
    simp only [List.length_cons] at hl
    have ih := bg_l2 h ns (ls ++ [if n < 0 then -n else n]) (by simp; omega) (fun l hm => by
      rcases List.mem_append.mp hm with z | z
      · exact hp l z
      · rw [List.mem_singleton.mp z]; split <;> omega)
    rw [List.map_append] at ih
    exact ⟨by rw [List.length_map, sizeLine_eq]; omega, ih⟩
/-- its promise -/
def spBegun (K : PySem.W.Frag) (T : List (Addr × Str)) : Sp := fun vs H Q _ => ∃ (a : Addr) (ns : List Int) (F : Hp), vs = [.ref a] ∧ SqL K F a (ns.map V.int) ∧ ns.length ≤ 63 ∧ Gd T F H none ∧ ∀ w H', Ret ⟨F, H, none, T⟩ F H' (some w) → Q (.ref w.dr) H'
theorem dens_ints {K : PySem.W.Frag} {W : DW} {F : Hp} : ∀ ns : List Int, Dens K W F (ns.map V.int) (ns.map D.int)
  | [] => .nil
  | n :: ns => .cons (.int n) (dens_ints ns)
theorem ints_of {K : PySem.W.Frag} {W : DW} {F : Hp} : ∀ {vs : List V} {ns : List Int}, Dens K W F vs (ns.map D.int) → vs = ns.map V.int
  | _, [], .nil => rfl
  | _, n :: ns, .cons r t => by
    cases r
    rw [ints_of t]; rfl
section
variable {P : Program} {w : World} {K : PySem.W.Frag} {mg : Str → Option Value} {base : Heap} {T : List (Addr × Str)}
theorem begun_ok {x qual : Str} {params : Arguments} {st1 : Stmt} {e2 : Expr} {scope : Scope} {f : Addr} {fd : FuncData} {k j1 j2 j3 j4 j5 j6 : Nat} {n0 n1 n2 : Str} {p1 p2 p3 p4 p5 p6 p7 p8 p9 : Pos}
    (F : FunD K x qual params [st1, .Return (some (.Dict [some (.Constant (.str "large") j1 p1), some (.Constant (.str "rest") j2 p2), some (.Constant (.str "cells") j3 p3), some (.Constant (.str "turn") j4 p4)] [.Name n1 p5, .Constant (.int 0) j5 p6, e2, .Constant (.int 0) j6 p7] p8)) p9] scope [] [] f fd) (S : FnScope [n0, n1, n2] [n0] scope)
    (l1 : scope.names.lookup n1 = some .local) (d1 : (n1 == ("__debug__" : Str)) = false) (d2 : (n1 == ("__classdict__" : Str)) = false)
    (h1 : ∀ (cdv : Value) (A : Around) (outer : List PySem.Env) (s : Shared) (H : Hp) (E : XK) (B : Base), B.T = T → Rm k (A.deeper (envOfC qual scope s.heap.objs.size f cdv)) → DS (cxOf (L2.CX P w) P w K mg base [n0, n1, n2] qual scope f cdv A outer s H E) B st1 (dSetX 1 bgC1))
    (h2 : ∀ (cdv : Value) (A : Around) (outer : List PySem.Env) (s : Shared) (H : Hp) (E : XK) (B : Base), B.T = T → Rm k (A.deeper (envOfC qual scope s.heap.objs.size f cdv)) → DF (cxOf (L2.CX P w) P w K mg base [n0, n1, n2] qual scope f cdv A outer s H E) B e2 bgC2) :
    FnG P w K mg base (k + 1) f fd [n0] (spBegun K T) := by
  refine ⟨fun vs H Q E ⟨a, ns, F0, e, _⟩ => by rw [e]; rfl, fun A outer s H args us vs Q E hr e0 hb r h => ?_⟩
  obtain ⟨a, ns, F0, rfl, hS, hl, gd, hQ⟩ := h
  refine run_def F S hr e0 hb r rfl fun cdv hcd hr' => ?_
  have tk : Takes (cxOf (L2.CX P w) P w K mg base [n0, n1, n2] qual scope f cdv A outer s H E) (XW (liftX K ⟨F0, H, none, T⟩ fun _ => False)) := takes_never
  have q1 := (h1 cdv A outer s H E ⟨F0, H, none, T⟩ rfl hr').run (fun _ => False) tk
  have q2 := (h2 cdv A outer s H E ⟨F0, H, none, T⟩ rfl hr').run (fun _ => False) tk
  refine ⟨_, pss_cons q1 (pss_one (ps_ret (pe_disp (pps_cons pe_str (pe_var (i := 1) rfl (.inl l1) d1 d2) (pps_cons pe_str pe_int (pps_cons pe_str q2 (pps_cons pe_str pe_int pps_nil)))) rfl rfl (by simp) (by show 4 ≤ 15; decide)))), ?_⟩
  have S0 := stt_start (N := [n0, n1, n2]) (vs := [.ref a]) (ds := [.kls (ns.map D.int)]) gd (.cons (.kls hS (dens_ints ns)) .nil)
  refine ⟨_, _, { nx := fun δ => ∃ ls : List Int, ls.length ≤ 63 ∧ (∀ l ∈ ls, 0 ≤ l) ∧ δ = bgE ns (some (.ol (ls.map D.int))), rt := fun _ => False }, S0, ?_, fun σ1 δ1 g1 H1 hn st1 S1 => ?_, fun _ _ _ _ _ h => h.elim, fun _ _ _ _ h => h.elim, fun _ _ _ _ h => h.elim⟩
  · exact bg_l1 (P := fun acc δ2 => ∃ ls : List Int, ls.length ≤ 63 ∧ (∀ l ∈ ls, 0 ≤ l) ∧ (backD (bgE ns none) δ2 [2]).set 1 (some (.ol acc)) = bgE ns (some (.ol (ls.map D.int)))) (s0 := none) (all := ns) (fun ls a b => ⟨ls, a, b, rfl⟩) ns [] (by simpa using hl) (fun l h => nomatch h)
  · obtain ⟨ls, ll, lp, rfl⟩ := hn
    obtain ⟨a1, xs, ea1, eo1, eh1, rr1⟩ := S1.env 1 _ rfl
    have ex := ints_of rr1
    subst ex
    intro p hp
    obtain ⟨S2, st2⟩ := S1.allocOwn (n := 3) (k := 3 + p) hp (o := .dK []) trivial
    refine ⟨.ref a1, ea1, _, _, fun s2 δ2 => ∃ cs : List Int, cs.length ≤ 63 ∧ (∀ c ∈ cs, 0 ≤ c) ∧ s2 = .ol (cs.map D.int) ∧ δ2 = bgE ns (some (.ol (ls.map D.int))), S2, ?_, fun s2 δ2 g2 H2 v2 hs2 st3 S3 it => ?_⟩
    · exact bg_l2 (P := fun acc δ2 => ∃ cs : List Int, cs.length ≤ 63 ∧ (∀ c ∈ cs, 0 ≤ c) ∧ (Sl.ol acc) = .ol (cs.map D.int) ∧ backD (bgE ns (some (.ol (ls.map D.int)))) δ2 [2] = bgE ns (some (.ol (ls.map D.int)))) (s0 := some (.ol (ls.map D.int))) (all := ns) (fun ls a b => ⟨ls, a, b, rfl, rfl⟩) ns [] (by simpa using hl) (fun l h => nomatch h)
    · obtain ⟨cs, cl, cp, rfl, rfl⟩ := hs2
      obtain ⟨a2, xs, rfl, gO, o2, e2, rr2⟩ := it
      have ex := ints_of rr2
      subst ex
      obtain ⟨a1', ys, z1, z2, z3, rr3⟩ := S3.env 1 _ rfl
      have ey := ints_of rr3
      subst ey
      rw [ea1] at z1
      cases z1
      have n1p : a1 ≠ p := fun z => by rw [z, hp] at eh1; cases eh1
      have n12 : a1 ≠ a2 := fun z => by
        have : (if a1 = p then some (3 + p) else g1.O a1) = some 1 := by rw [if_neg n1p]; exact eo1
        rw [z] at this
        rw [show (if a2 = p then some (3 + p) else g1.O a2) = none from gO] at this
        cases this
      have gp : (if p = p then some (3 + p) else g1.O p) = some (3 + p) := if_pos rfl
      obtain ⟨op, ep⟩ := st3.ext p (3 + p) gp (Nat.le_add_right _ _)
      have ep2 : H2 p = some (.dK []) := by rw [ep, upd_same]
      have n2p : a2 ≠ p := fun z => by rw [z] at e2; rw [ep2] at e2; cases e2
      refine ⟨ep2, [(.inr "large", .ref a1), (.inr "rest", .int 0), (.inr "cells", .ref a2), (.inr "turn", .int 0)], rfl, by show 4 ≤ 15; decide, ?_⟩
      have mk : mergeK [] [((.inr "large" : Key), V.ref a1), (.inr "rest", .int 0), (.inr "cells", .ref a2), (.inr "turn", .int 0)] = [(.inr "large", .ref a1), (.inr "rest", .int 0), (.inr "cells", .ref a2), (.inr "turn", .int 0)] := rfl
      rw [mk]
      have nh : ∀ b, H b ≠ none → ¬ has g2.W b := fun b hb q => hb (S3.ret.dnew b q (fun z => by obtain ⟨w0, z, _⟩ := z; cases z))
      have Hn : ∀ b, H1 b = none → H b = none := fun b hb => by
        cases z : H b with
        | none => rfl
        | some o => exact absurd hb (S1.ret.there b (by show H b ≠ none; rw [z]; simp))
      have keep : ∀ b o, H b = some o → notTbl o → upd H2 p (.dK [(.inr "large", .ref a1), (.inr "rest", .int 0), (.inr "cells", .ref a2), (.inr "turn", .int 0)]) b = some o := fun b o e nt => by
        rw [upd_ne (fun z => by rw [z, Hn p hp] at e; cases e)]
        exact S3.ret.old b o e (nh b (by rw [e]; simp)) nt
      have Fn : ∀ b, H b = none → F0 b = none := fun b hb => by
        cases z : F0 b with
        | none => rfl
        | some o => rw [gd.sub b o z] at hb; cases hb
      have h1n : H a1 = none := (S3.own a1 _ z2).1
      have h2n : H a2 = none := (S3.own a2 _ o2).1
      refine hQ ⟨p, a1, a2, cs⟩ _ ⟨fun b o e => keep b o (gd.sub b o e) (gd.fnt b o e), Up.refl _, fun b o e _ nt => keep b o e nt, fun b hb => upd_thr b (S3.ret.there b hb), fun _ _ => rfl, .inl rfl, fun w' e => ?_, tabs_mut S3.ret.tab ep2 (fun _ z => by cases z) (fun _ z => by cases z), fun b hb _ => ?_, gd.fnt⟩
      · cases e
        exact ⟨⟨ls, 0, 0, upd_same, by show upd H2 p _ a1 = _; rw [upd_ne n1p]; exact z3, by show upd H2 p _ a2 = _; rw [upd_ne n2p]; exact e2, n12, lp, cp, Int.le_refl _, Int.le_refl _, ll, cl⟩, Fn p (Hn p hp), Fn a1 h1n, Fn a2 h2n⟩
      · obtain ⟨w', e, h⟩ := hb
        cases e
        rcases h with h | h | h
        · rw [h]; exact Hn p hp
        · rw [h]; exact h1n
        · rw [h]; exact h2n
end
end DL

namespace DL
open PySem PySem.Spec L2 He
open PyProof.Rows hiding St
/-! ### what the head tells of the module -/
/-- where a function stands: a global | a class' attribute | a class' property's getter -/
inductive Wh where
  | glo (x : Str) | meth (c m : Str) | get (c f : Str)
def Wh.ad (K : PySem.W.Frag) : Wh → Addr
  | .glo x => ga K x
  | .meth c m => ma K (ga K c) m
  | .get c f => match PySem.W.recIn K (ma K (ga K c) f) "property" with
    | some (.ref g :: _) => g
    | _ => 0
structure FnA where
  at_ : Wh
  name : Str
  qual : Str
  params : Arguments
  body : List Stmt
  scope : Scope
  clo : List Str := []
abbrev FnO : Type := Option (Str × Str × Arguments × FuncBody × Scope × Addr × List Str × Addr)
def fnO (K : PySem.W.Frag) (a : Addr) : FnO := match K.lookup a with
  | some ⟨_, _, .func fd, _⟩ => some (fd.name, fd.qualname, fd.params, fd.body, fd.scope, fd.globals, fd.closure.map (·.1), fd.builtins)
  | _ => none
def FnA.val (d : FnA) : FnO := some (d.name, d.qual, d.params, .stmts d.body, d.scope, mainGlobals, d.clo, builtinsNs)
def FnA.ok (K : PySem.W.Frag) (d : FnA) : Bool := PySem.W.keepIn K (.ref (d.at_.ad K)) && (match K.lookup (d.at_.ad K) with
  | some ⟨_, _, .func fd, _⟩ => PySem.W.codeIn K fd.code d.qual && dflB K fd.defaults []
  | _ => false)
/-- the function's object -/
theorem FnA.obj {K : PySem.W.Frag} {d : FnA} (e : fnO K (d.at_.ad K) = d.val) (c : d.ok K = true) : PySem.W.keepIn K (.ref (d.at_.ad K)) = true ∧ ∃ (oc : Value) (od : Option Addr) (cl : List (Str × Addr)) (kV doc pm cdv ct : Value) (an : Option Addr) (osl : Array (Option Value)),
    K.lookup (d.at_.ad K) = some ⟨oc, od, .func (PySem.W.fnX d.name d.qual d.params d.body d.scope cl .none kV doc pm an cdv ct), osl⟩ ∧ PySem.W.codeIn K cdv d.qual = true ∧ cl.map (·.1) = d.clo := by
  obtain ⟨kp, c2⟩ := He.ba c
  refine ⟨kp, ?_⟩
  unfold fnO at e
  cases q : K.lookup (d.at_.ad K) with
  | none => rw [q] at c2; cases c2
  | some o =>
    obtain ⟨oc, od, dt, osl⟩ := o
    rw [q] at c2 e
    cases dt with
    | func fd =>
      obtain ⟨n1, n2, n3, n4, n5, n6, n7, n8, n9, n10, n11, n12, n13, n14, n15⟩ := fd
      have e2 : (some (n1, n2, n3, n4, n5, n6, n7.map (·.1), n15) : FnO) = some (d.name, d.qual, d.params, .stmts d.body, d.scope, mainGlobals, d.clo, builtinsNs) := e
      simp only [Option.some.injEq, Prod.mk.injEq] at e2
      obtain ⟨h1, h2, h3, h4, h5, h6, h7, h8⟩ := e2
      subst h1 h2 h3 h4 h5 h6 h8
      have c3 : (PySem.W.codeIn K n13 d.qual && dflB K n8 []) = true := c2
      obtain ⟨k1, k2⟩ := He.ba c3
      have k3 : n8 = .none := by
        rcases dflB_ok k2 with ⟨_, z⟩ | ⟨z, _⟩
        · exact z
        · exact absurd rfl z
      subst k3
      exact ⟨oc, od, n7, n9, n10, n11, n13, n14, n12, osl, rfl, k1, h7⟩
    | _ => cases c2
theorem FnA.funD {K : PySem.W.Frag} {d : FnA} (e : fnO K (d.at_.ad K) = d.val) (c : d.ok K = true) (hc : d.clo = []) : ∃ fd, FunD K d.name d.qual d.params d.body d.scope [] [] (d.at_.ad K) fd := by
  obtain ⟨kp, oc, od, cl, kV, doc, pm, cdv, ct, an, osl, lk, hcd, hcl⟩ := FnA.obj e c
  rw [hc] at hcl
  have : cl = [] := List.map_eq_nil_iff.mp hcl
  subst this
  exact ⟨_, ⟨oc, od, .none, kV, doc, pm, an, cdv, ct, osl, rfl, lk, hcd, .inl ⟨rfl, rfl⟩, .inl rfl⟩, kp⟩
/-! the Hook -/
def asY0 (g : Addr → Option Obj) : Nat → List Addr
  | 0 => [mainGlobals, cStatics]
  | n + 1 => growD g (asY0 g n)
def asY (g : Addr → Option Obj) (n : Nat) : List Addr := sysModules :: asY0 g n
/-- a lambda-making def's code object and table -/
def cTY (K : PySem.W.Frag) (p : Wh) : Addr × Addr := (codeAt K (p.ad K), tabOf K (codeAt K (p.ad K)))
def tabsY (g : Addr → Option Obj) (tf : List Wh) (K : PySem.W.Frag) : Bool := tf.all fun p => PySem.W.codeHdIn K (cTY K p).1 (cTY K p).2 && (match g (cTY K p).2 with
  | some o => emptyTab o
  | none => false)
abbrev AlY : Type := Bool × List FnO
def obsY (n : Nat) (fns : List FnA) (tf : List Wh) (chk : List (PySem.W.Frag → Bool)) (g : Addr → Option Obj) : AlY :=
  (((chk.all fun f => f (frT g (asY g n))) && (fns.all fun d => d.ok (frT g (asY g n)))) && tabsY g tf (frT g (asY g n)), fns.map fun d => fnO (frT g (asY g n)) (d.at_.ad (frT g (asY g n))))
def valY (fns : List FnA) : AlY := (true, fns.map FnA.val)
structure SaysY (fns : List FnA) (tf : List Wh) (chk : List (PySem.W.Frag → Bool)) (h : Heap) (K : PySem.W.Frag) : Prop where
  chk : ∀ f ∈ chk, f K = true
  fns : ∀ d ∈ fns, fnO K (d.at_.ad K) = d.val ∧ d.ok K = true
  hd : ∀ p ∈ tf, PySem.W.codeHdIn K (cTY K p).1 (cTY K p).2 = true
  out : ∀ p ∈ tf, K.lookup (cTY K p).2 = none
  empty : ∀ p ∈ tf, h.get? (cTY K p).2 = some { cls := .none, data := .fields #[] }
theorem map_at {α β : Type} {f g : α → β} : ∀ {l : List α}, l.map f = l.map g → ∀ a ∈ l, f a = g a
  | [], _, a, h => nomatch h
  | b :: l, e, a, h => by
    simp only [List.map_cons, List.cons.injEq] at e
    rcases List.mem_cons.mp h with rfl | h
    · exact e.1
    · exact map_at e.2 a h
theorem saysY_of {n : Nat} {fns : List FnA} {tf : List Wh} {chk : List (PySem.W.Frag → Bool)} {h : Heap} (e : obsY n fns tf chk h.get? = valY fns) : SaysY fns tf chk h (frT h.get? (asY h.get? n)) := by
  have e1 : (((chk.all fun f => f (frT h.get? (asY h.get? n))) && (fns.all fun d => d.ok (frT h.get? (asY h.get? n)))) && tabsY h.get? tf (frT h.get? (asY h.get? n))) = true := congrArg (fun z : AlY => z.1) e
  have e2 : (fns.map fun d => fnO (frT h.get? (asY h.get? n)) (d.at_.ad (frT h.get? (asY h.get? n)))) = fns.map FnA.val := congrArg (fun z : AlY => z.2) e
  obtain ⟨h12, h3⟩ := He.ba e1
  obtain ⟨h1, h2⟩ := He.ba h12
  have key : ∀ p ∈ tf, PySem.W.codeHdIn (frT h.get? (asY h.get? n)) (cTY (frT h.get? (asY h.get? n)) p).1 (cTY (frT h.get? (asY h.get? n)) p).2 = true ∧ ∃ o, h.get? (cTY (frT h.get? (asY h.get? n)) p).2 = some o ∧ emptyTab o = true := fun p hp => by
    obtain ⟨a, b⟩ := He.ba (List.all_eq_true.mp h3 p hp)
    refine ⟨a, ?_⟩
    cases q : h.get? (cTY (frT h.get? (asY h.get? n)) p).2 with
    | none => rw [q] at b; cases b
    | some o => rw [q] at b; exact ⟨o, rfl, b⟩
  exact ⟨List.all_eq_true.mp h1, fun d hd => ⟨map_at e2 d hd, List.all_eq_true.mp h2 d hd⟩, fun p hp => (key p hp).1, fun p hp => by
    obtain ⟨_, o, q, z⟩ := key p hp
    exact frT_none q z, fun p hp => by
    obtain ⟨_, o, q, z⟩ := key p hp
    rw [q, emptyTab_eq z]⟩
def hookY (n : Nat) (fns : List FnA) (tf : List Wh) (chk : List (PySem.W.Frag → Bool)) : PySem.W.Hook where
  α := AlY
  obs := fun s => obsY n fns tf chk s.heap.get?
  val := fun _ => valY fns
  says := fun _ h => ∃ K : PySem.W.Frag, K.In h ∧ SaysY fns tf chk h K
  of := fun _ _ e => ⟨_, frT_in, saysY_of e⟩
  keeps := fun _ _ _ ⟨K, hK, c⟩ k => ⟨K, PySem.W.Frag.In.keeps hK k, ⟨c.chk, c.fns, c.hd, c.out, fun p hp => k _ _ (c.empty p hp)⟩⟩
theorem obsY_eq {n : Nat} {fns : List FnA} {tf : List Wh} {chk : List (PySem.W.Frag → Bool)} {g : Addr → Option Obj} {s : Shared} (h : ∀ a, g a = s.heap.get? a) : obsY n fns tf chk g = (hookY n fns tf chk).obs s := by
  have e : g = s.heap.get? := funext h
  rw [e] <;> rfl
/-! ### the law's def -/
def spLaw (K : PySem.W.Frag) (T : List (Addr × Str)) : Sp := fun vs H Q _ => ∃ (a : Addr) (ns : List Int) (F : Hp), vs = [.ref a] ∧ SqL K F a (ns.map V.int) ∧ ns.length ≤ 63 ∧ Gd T F H none ∧ ∀ H', Q (.bl true) H'
section
variable {P : Program} {w : World} {K : PySem.W.Frag} {mg : Str → Option Value} {base : Heap} {T : List (Addr × Str)}
theorem law_ok {x qual b : Str} {params : Arguments} {rest : List Stmt} {scope : Scope} {f fb : Addr} {fd fdb : FuncData} {k : Nat} {n0 n1 : Str} {ns : List Str} {p1 p2 p3 p4 p5 : Pos} {t : TDS}
    (F : FunD K x qual params (.Assign [.Name n1 p1] (.Call (.Name b p2) [.Name n0 p3] [] p4) p5 :: rest) scope [] [] f fd) (S : FnScope (n0 :: n1 :: ns) [n0] scope) (GB : FnG P w K mg base k fb fdb [n0] (spBegun K T)) (mB : mg b = some (.ref fb)) (kB : PySem.W.keepIn K (.ref fb) = true)
    (bB : ∀ (s : Shared) (u : Value), BindsTo s fdb ⟨[u], []⟩ [(n0, u)]) (gB : scope.names.lookup b = some .globalImplicit) (l0 : Vis scope n0) (l1 : Loc scope n1) (d0 : (n0 == ("__debug__" : Str)) = false) (d1 : (n0 == ("__classdict__" : Str)) = false) (dB : (b == ("__debug__" : Str)) = false)
    (sw : ∀ env, swapsWith (.Call (.Name b p2) [.Name n0 p3] [] p4) (some (.Name n1 p1)) p5.line env = pure false)
    (hrest : ∀ (cdv : Value) (A : Around) (outer : List PySem.Env) (s : Shared) (H : Hp) (E : XK) (B : Base), cdv = .ref (codeAt K f) → B.T = T → Rm k (A.deeper (envOfC qual scope s.heap.objs.size f cdv)) → DSs (cxOf (L2.CX P w) P w K mg base (n0 :: n1 :: ns) qual scope f cdv A outer s H E) B rest t)
    (hwp : ∀ ms : List Int, ms.length ≤ 63 → t (fun _ => False) { nx := fun _ => False, rt := fun d => d = .bl true } (some (.sh (.kls (ms.map D.int))) :: some (.sh .drw) :: List.replicate ns.length none)) :
    FnG P w K mg base (k + 1) f fd [n0] (spLaw K T) := by
  refine ⟨fun vs H Q E ⟨a, ms, F0, e, _⟩ => by rw [e]; rfl, fun A outer s H args us vs Q E hr e0 hb r h => ?_⟩
  obtain ⟨a, ms, F0, rfl, hS, hl, gd, hQ⟩ := h
  refine run_def F S hr e0 hb r rfl fun cdv hcd hr' => ?_
  have tk : Takes (cxOf (L2.CX P w) P w K mg base (n0 :: n1 :: ns) qual scope f cdv A outer s H E) (XW (liftX K ⟨F0, H, none, T⟩ fun _ => False)) := takes_never
  have q2 := (hrest cdv A outer s H E ⟨F0, H, none, T⟩ hcd rfl hr').run (fun _ => False) tk
  have pb : PE (cxOf (L2.CX P w) P w K mg base (n0 :: n1 :: ns) qual scope f cdv A outer s H E) (.Call (.Name b p2) [.Name n0 p3] [] p4) (fun σ H1 Q1 => ∃ v, σ[0]? = some (some v) ∧ spBegun K T [v] H1 Q1 fun _ _ _ => False) := by
    refine ⟨fun pins s1 σ H1 Q1 I ⟨v, e, hsp⟩ => ?_⟩
    refine wpAny_Call_Name_kw (ld_glob I gB mB ?_ dB)
    refine PySem.W.callWith_K (h₀ := base) I.ok.mod.kin kB ?_ (by rfl) (by rfl)
    show wpAny _ _ (spliced ((false, eval (.Name n0 p3) _) :: backTo p4 (starEach [] _))) _ _ s1
    refine Calls.spliced_cons (thn ((pe_var (X := cxOf (L2.CX P w) P w K mg base (n0 :: n1 :: ns) qual scope f cdv A outer s H E) (pos := p3) (i := 0) rfl l0 d0 d1).run pins s1 σ H1 (fun v' H2 => v' = v ∧ H2 = H1) I ⟨v, e, rfl, rfl⟩) fun u s2 ⟨v', H2, I2, rv, q⟩ => Calls.spliced_nil ⟨I2.kIn, ?_⟩)
    obtain ⟨rfl, rfl⟩ := q
    have noX : Passes (L2.CX P w) (cxOf (L2.CX P w) P w K mg base (n0 :: n1 :: ns) qual scope f cdv A outer s H E) (fun _ _ _ => False) := fun pins σ H s e s' I c => by
      obtain ⟨a, B', H', cls, d, e1, e2, e3, e4, e5, e6, e7, e8⟩ := c
      exact e8.elim
    exact run_g (X := cxOf (L2.CX P w) P w K mg base (n0 :: n1 :: ns) qual scope f cdv A outer s H E) (us := [u]) (vals := [u]) (kw := []) GB hr' (bB s2 u) noX I2 (.cons rv .nil) hsp
  refine ⟨_, pss_cons (ps_set (i := 1) S.nd rfl l1 pb (sw _) (.inl rfl)) q2, ?_⟩
  refine ⟨.ref a, rfl, a, ms, F0, rfl, hS, hl, gd, fun w0 H' rt => ?_⟩
  have S1 : Stt K ⟨F0, H, none, T⟩ ⟨F0, fun _ => none, some w0⟩ H' ((L2.start (n0 :: n1 :: ns) [.ref a]).set 1 (some (.ref w0.dr))) (some (.sh (.kls (ms.map D.int))) :: some (.sh .drw) :: List.replicate ns.length none) := by
    refine ⟨rt, fun a k e => (nomatch e), ?_, fun i s e => ?_⟩
    · unfold L2.start; simp
    · match i, e with
      | 0, e =>
        cases e
        exact ⟨.ref a, rfl, .kls hS (dens_ints ms)⟩
      | 1, e =>
        cases e
        exact ⟨.ref w0.dr, rfl, .drw rfl⟩
      | i + 2, e =>
        rw [List.getElem?_cons_succ, List.getElem?_cons_succ] at e
        obtain ⟨z1, z2⟩ := List.getElem?_eq_some_iff.mp e
        simp at z2
  exact ⟨_, _, { nx := fun _ => False, rt := fun d => d = .bl true }, S1, hwp ms hl, fun _ _ _ _ h => h.elim, fun d v F' W' H' hd _ dn => by
    subst hd
    cases dn
    exact hQ H', fun _ _ _ _ h => h.elim, fun _ _ _ _ h => h.elim⟩
end
end DL

namespace DL
open PySem PySem.Spec L2 LamX
open PyProof.Rows hiding St
/-! ### the end: the law's call behind the head -/
/-- what is not tracked, at the base -/
theorem base_ns {h : Heap} {H : Hp} {b : Addr} {m : Str → Option Value} (hn : ∀ b o es ep, h.get? b = some o → o.data = .dict es ep → H b = none) (x : h.Ns b m) : (hidT h H).Ns b m := by
  obtain ⟨o, es, ep, e, d, r⟩ := x
  exact ⟨o, es, ep, hidT_get e (hn b o es ep e d), d, r⟩
theorem law_run {P : Program} {w : World} {K : PySem.W.Frag} {mg mb : Str → Option Value} {k : Nat} {fa a : Addr} {cs : List (Addr × Addr)} {T : List (Addr × Str)} {fd : FuncData} {x : Str} {s₁ : Shared} {vs : List Value} {ns : List Int}
    (KX : K.In s₁.heap) (hns : s₁.heap.Ns mainGlobals mg) (hb : s₁.heap.Ns builtinsNs mb) (hbb : ∀ x : Str, x ≠ "__name__" → mb x = bootBuiltins x) (hlim : s₁.heap.NoLimit) (hg : s₁.gens = #[])
    (hT : ∀ p ∈ cs, s₁.heap.get? p.2 = some { cls := .none, data := .fields #[] }) (nT : ∀ p ∈ cs, K.lookup p.2 = none) (C : ∀ p ∈ cs, PySem.W.CodeHd s₁.heap p.1 p.2) (hTc : ∀ q ∈ T, ∃ p ∈ cs, p.2 = q.1)
    (hbm : ∃ (bm : Addr) (ob : Obj), mg "__builtins__" = some (.ref bm) ∧ bm ≠ builtinsNs ∧ s₁.heap.get? bm = some ob ∧ ob.cls = .type "module" ∧ ob.dict = some builtinsNs ∧ ob.data = .plain)
    (ha : s₁.heap.get? a = some { cls := .type "list", data := .seq vs.toArray }) (hi : IntsAre vs ns) (hl : ns.length ≤ 63) (hr : Rm k callerA)
    (F : ∀ base : Heap, K.In base → base.Ns mainGlobals mg → (∀ p ∈ cs, TabB base mg p.1 p.2) → FnG P w K mg base k fa fd [x] (spLaw K T)) (hbind : ∀ (s : Shared) (u : Value), BindsTo s fd ⟨[u], []⟩ [(x, u)]) :
    codeAny (model P w) callerA (.call (.ref fa) ⟨[.ref a], []⟩) (fun r s' => r = .ok (.ret (.bool true)) ∧ OldK s₁.heap s'.heap ∧ s'.os = s₁.os ∧ AllBare s'.gens) s₁ := by
  have rv := vals_ints hi
  have lenV := hi.length
  have hl2 : ns.length ≤ sizeLine := by rw [sizeLine_eq]; omega
  have tabAt : ∀ b : Addr, b ∈ cs.map (·.2) → s₁.heap.get? b = some { cls := .none, data := .fields #[] } := fun b hb => by
    obtain ⟨p, hp, e⟩ := List.mem_map.mp hb
    rw [← e]; exact hT p hp
  have aT : a ∉ cs.map (·.2) := fun z => by
    have q := tabAt a z
    rw [ha] at q
    exact nomatch (show Data.seq vs.toArray _ = Data.fields #[] from congrArg Obj.data (Option.some.inj q))
  have memT : ∀ p ∈ cs, p.2 ∈ cs.map (·.2) := fun p hp => List.mem_map.mpr ⟨p, hp, rfl⟩
  have core : ∀ H : Hp, (∀ p ∈ cs, H p.2 = some (.tbl #[])) → (∀ b, H b = none ∨ b ∈ cs.map (·.2) ∨ ∃ o xs, H b = some (.frz o (.lst xs))) → SqL K H a (ns.map V.int) → HOk P w H s₁.heap → (∀ b, H b ≠ none → b = a ∨ b ∈ cs.map (·.2)) → (H a ≠ none → K.lookup a = none) →
      codeAny (model P w) callerA (.call (.ref fa) ⟨[.ref a], []⟩) (fun r s' => r = .ok (.ret (.bool true)) ∧ OldK s₁.heap s'.heap ∧ s'.os = s₁.os ∧ AllBare s'.gens) s₁ := by
    intro H hH hO hS hok hA hK
    have unT : ∀ {b : Addr} {o : Obj}, s₁.heap.get? b = some o → (∀ vs n, o.data ≠ .seq vs n) → o.data ≠ .fields #[] → H b = none := fun {b o} e h1 h2 => by
      cases q : H b with
      | none => rfl
      | some u =>
        rcases hA b (by rw [q]; simp) with e' | e'
        · rw [e', ha] at e; cases e
          exact (h1 _ _ rfl).elim
        · rw [tabAt b e'] at e; cases e
          exact (h2 rfl).elim
    have unD : ∀ b o es ep, s₁.heap.get? b = some o → o.data = .dict es ep → H b = none := fun b o es ep e d => unT e (fun vs n z => by rw [d] at z; cases z) fun z => by rw [d] at z; cases z
    have hKb : K.In (hidT s₁.heap H) := fun b o e => hidT_get (KX b o e) (by
      cases q : H b with
      | none => rfl
      | some u =>
        rcases hA b (by rw [q]; simp) with e' | e'
        · rw [e'] at e q
          rw [hK (by rw [q]; simp)] at e
          cases e
        · obtain ⟨p, hp, ep⟩ := List.mem_map.mp e'
          rw [← ep, nT p hp] at e
          cases e)
    have hM : L2.Mod K mg (hidT s₁.heap H) := ⟨hKb, base_ns unD hns, ⟨mb, base_ns unD hb, hbb⟩, let ⟨mc, h1, h2⟩ := hlim; ⟨mc, base_ns unD h1, h2⟩⟩
    have TB : ∀ p ∈ cs, TabB (hidT s₁.heap H) mg p.1 p.2 := fun p hp => by
      have hTp := hT p hp
      refine ⟨?_, ?_, fun z => ?_⟩
      · obtain ⟨o, us, file, tf, flags, tg, inF, text, tt, e1, r1, r2, r3, rr⟩ := C p hp
        exact ⟨o, us, file, tf, flags, tg, inF, text, tt, hidT_get e1 (unT e1 (fun vs n z => by rw [r2] at z; cases z) fun z => by
          rw [r2] at z; cases z; simp at r3), r1, r2, r3, rr⟩
      · obtain ⟨bm, ob, b1, b2, b3, b4, b5, b6⟩ := hbm
        have nG : bm ≠ mainGlobals := fun q => by
          obtain ⟨o, es, ep, e, hd, _⟩ := hns
          rw [q, e] at b3; cases b3
          rw [hd] at b6; cases b6
        have nP : bm ≠ p.2 := fun q => by
          rw [q, hTp] at b3; cases b3; cases b6
        exact ⟨bm, ob, b1, b2, nG, nP, hidT_get b3 (unT b3 (fun vs n z => by rw [b6] at z; cases z) fun z => by rw [b6] at z; cases z), b4, b5, b6⟩
      · obtain ⟨o, es, ep, e, hd, _⟩ := hns
        rw [z, hTp] at e; cases e; cases hd
    have e0 : Env0 P w K mg (hidT s₁.heap H) callerA [] s₁ H := ⟨rfl, hM, fun b o e => of_hidT e, Nat.le_of_eq (hidT_size _ _), trivial, fun b hb => (nomatch (show b ∈ ([] : List Addr) from hb)), hok, .of_eq hg⟩
    -- what is frozen at the beginning: all but the tables
    have start : spLaw K T [.ref a] H (fun v _ => v = .bl true) fun _ _ _ => False := by
      refine ⟨a, ns, fun b => match H b with
        | some (.tbl _) => none
        | o => o, rfl, ?_, hl, ⟨fun b o e => ?_, fun w0 z => (nomatch z), fun q hq => ?_, fun b o e ps z => ?_⟩, fun _ => rfl⟩
      · rcases hS with (h | ⟨o, h⟩) | h
        · exact .inl (.inl (by show (match H a with | some (.tbl _) => none | o => o) = _; rw [h]))
        · exact .inl (.inr ⟨o, by show (match H a with | some (.tbl _) => none | o => o) = _; rw [h]⟩)
        · exact .inr h
      · have e : (match H b with | some (.tbl _) => none | o => o) = some o := e
        cases q : H b with
        | none => rw [q] at e; cases e
        | some u => rw [q] at e; cases u <;> first | exact e | cases e
      · obtain ⟨p, hp, e⟩ := hTc q hq
        rw [← e]; exact TabS.nil (hH p hp)
      · subst z
        have e : (match H b with | some (.tbl _) => none | o => o) = some (.tbl ps) := e
        cases q : H b with
        | none => rw [q] at e; cases e
        | some u => rw [q] at e; cases u <;> first | exact nomatch (Option.some.inj e) | cases e
    refine codeAny_mono ((F _ hKb (base_ns unD hns) TB).go callerA [] s₁ H ⟨[.ref a], []⟩ [.ref a] [.ref a] _ _ hr e0 (hbind s₁ (.ref a)) (.cons rfl .nil) start) fun r s' h => ?_
    cases r with
    | error e =>
      obtain ⟨_, _, _, _, _, _, _, _, _, _, _, _, z⟩ := h
      exact z.elim
    | ok fl =>
      cases fl with
      | next => exact False.elim h
      | brk => exact False.elim h
      | cont => exact False.elim h
      | ret u =>
        obtain ⟨v, H', os, bare, un, hok', r', q⟩ := h
        obtain rfl : v = .bl true := q
        obtain rfl : u = Value.bool true := r'
        have key : ∀ b o, b ∉ cs.map (·.2) → s₁.heap.get? b = some o → s'.heap.get? b = some o := fun b o nb e => by
          cases q : H b with
          | none => exact un.keep b o e q (fun z => (nomatch (show b ∈ ([] : List Addr) from z))) (fun z => (nomatch z))
          | some u =>
            rcases hO b with z | z | ⟨ob, xs, z⟩
            · rw [q] at z; cases z
            · exact absurd z nb
            · obtain ⟨e1, _⟩ := hok b _ z
              obtain ⟨e2, _⟩ := hok' b _ (un.frzs b ob _ z)
              rw [e] at e1; cases e1
              exact e2
        have grown : ∀ p ∈ cs, ∃ more : Array Value, s'.heap.get? p.2 = some { cls := .none, data := .fields more } := fun p hp => by
          obtain ⟨more, z⟩ := un.tbls p.2 #[] (hH p hp)
          exact ⟨_, hok' p.2 _ z⟩
        refine ⟨rfl, ⟨fun b o e => ?_, fun b o e => ?_⟩, os, bare⟩
        · by_cases hb : b ∈ cs.map (·.2)
          · obtain ⟨p, hp, ep⟩ := List.mem_map.mp hb
            obtain ⟨more, hm⟩ := grown p hp
            rw [← ep] at e ⊢
            rw [hT p hp] at e
            cases e
            exact .inr (.inl ⟨((C p hp).tab (hT p hp)).isCodeTable, rfl, #[], more, rfl, by rw [Array.empty_append]; exact hm⟩)
          · exact .inl (key b o hb e)
        · by_cases hb : b ∈ cs.map (·.2)
          · obtain ⟨p, hp, ep⟩ := List.mem_map.mp hb
            obtain ⟨more, hm⟩ := grown p hp
            rw [← ep]; exact ⟨_, hm⟩
          · exact ⟨o, key b o hb e⟩
  cases hk : K.lookup a with
  | some o =>
    have e := KX a o hk
    rw [ha] at e
    cases e
    refine core (fun b => if b ∈ cs.map (·.2) then some (.tbl #[]) else none) (fun p hp => if_pos (memT p hp)) (fun b => ?_) (.inr ⟨_, vs.toArray, _, hk, rfl, rfl, rfl, by rw [List.size_toArray, lenV]; exact hl2, by simpa using rv⟩) (fun b u z => ?_) (fun b z => ?_) fun z => absurd (show (if a ∈ cs.map (·.2) then some (HO.tbl #[]) else none) = none from if_neg aT) z
    · by_cases hb : b ∈ cs.map (·.2)
      · exact .inr (.inl hb)
      · exact .inl (if_neg hb)
    · by_cases hb : b ∈ cs.map (·.2)
      · cases (if_pos hb).symm.trans z
        exact tabAt b hb
      · cases (if_neg hb).symm.trans z
    · by_cases hb : b ∈ cs.map (·.2)
      · exact .inr hb
      · exact absurd (if_neg hb) z
  | none =>
    refine core (fun b => if b = a then some (.frz { cls := .type "list", data := .seq vs.toArray } (.lst (ns.map V.int))) else if b ∈ cs.map (·.2) then some (.tbl #[]) else none) (fun p hp => (if_neg (show ¬ p.2 = a from fun z => aT (by rw [← z]; exact memT p hp))).trans (if_pos (memT p hp))) (fun b => ?_)
      (.inl (.inr ⟨{ cls := .type "list", data := .seq vs.toArray }, if_pos rfl⟩)) (fun b u z => ?_) (fun b z => ?_) fun _ => hk
    · by_cases hb : b = a
      · exact .inr (.inr ⟨_, _, if_pos hb⟩)
      · by_cases hb2 : b ∈ cs.map (·.2)
        · exact .inr (.inl hb2)
        · exact .inl ((if_neg hb).trans (if_neg hb2))
    · by_cases hb : b = a
      · cases (if_pos hb).symm.trans z
        rw [hb]
        exact ⟨ha, by rw [List.length_map]; exact hl2, vs, _, rv, ha⟩
      · have z1 := (if_neg hb).symm.trans z
        by_cases hb2 : b ∈ cs.map (·.2)
        · cases (if_pos hb2).symm.trans z1
          exact tabAt b hb2
        · cases (if_neg hb2).symm.trans z1
    · by_cases hb : b = a
      · exact .inl hb
      · by_cases hb2 : b ∈ cs.map (·.2)
        · exact .inr hb2
        · exact absurd ((if_neg hb).trans (if_neg hb2)) z
/-- what the walk wants of the law -/
theorem walk_end {l : PySem.W.OpenLaw} {k : Nat} {q : Program} {loose : List Str} {XP : (Str → Option Value) → Heap → Prop} {YP : World → Heap → Prop} {d : DefRec} {x : Str} (hn : l.most = some 63) (hdf : d.params.defaults = []) (hr : Rm k callerA)
    (F : ∀ (w : World) (mg : Str → Option Value) (fa : Addr) (h : Heap), YP w h → h.Ns mainGlobals mg → mg d.name = some (.ref fa) →
      ∃ (K : PySem.W.Frag) (fd : FuncData) (cs : List (Addr × Addr)) (T : List (Addr × Str)), K.In h ∧ (∀ p ∈ cs, h.get? p.2 = some { cls := .none, data := .fields #[] }) ∧ (∀ p ∈ cs, K.lookup p.2 = none) ∧ (∀ p ∈ cs, PySem.W.CodeHd h p.1 p.2) ∧ (∀ q ∈ T, ∃ p ∈ cs, p.2 = q.1) ∧
        (∀ (s : Shared) (u : Value), BindsTo s fd ⟨[u], []⟩ [(x, u)]) ∧ ∀ base : Heap, K.In base → base.Ns mainGlobals mg → (∀ p ∈ cs, TabB base mg p.1 p.2) → FnG l.prog w K mg base k fa fd [x] (spLaw K T)) :
    PySem.W.WalkO q loose XP YP l.row.toRowW d [] (fun f vs => PySem.call f vs) := by
  refine Att.attach_call hn hdf fun w s₀ s₁ mg mb fa o pm cd doc a vs ns G Y ho hd hcd hmg hobj hints hlen hg => ?_
  obtain ⟨K, fd, cs, T, KX, hT, nT, C, hTc, hb, hF⟩ := F w mg fa _ Y G.T.g hmg
  exact law_run KX G.T.g G.T.b G.T.builtins G.T.nolimit hg hT nT C hTc G.T.bmain hobj hints hlen hr hF hb
end DL

namespace DL
open PySem PySem.Spec L2 He
open PyProof.Rows hiding St
/-! ### facts of the module, asked by the head -/
section
variable {K : PySem.W.Frag}
def ownB (x : Str) (K : PySem.W.Frag) : Bool := (Fa.cls x).ok K && (eqO (PySem.W.findIn K (.ref (ga K x)) "__class__") (some (some (.builtin "object.__class__"))) && (eqO (PySem.W.specialIn K (.builtin "object.__class__") "__get__") (some (some (.builtin "getset_descriptor.__get__"))) &&
  (decide (PySem.W.takesIn K (.builtin "object.__class__") = some true) && decide (PySem.W.mroIn K (ga K x) (.type "object") = some true))))
theorem ownB_ok {x : Str} (h : ownB x K = true) : OwnC K (ga K x) := by
  obtain ⟨h1, h⟩ := He.ba h
  obtain ⟨h2, h⟩ := He.ba h
  obtain ⟨h3, h⟩ := He.ba h
  obtain ⟨h4, h5⟩ := He.ba h
  exact ⟨cls_ok h1, eqO_ok h2, eqO_ok h3, of_decide_eq_true h4, of_decide_eq_true h5⟩
def excCB (x : Str) (K : PySem.W.Frag) : Bool := eqO (PySem.W.findIn K (.ref (ga K x)) "__getattribute__") (some (some (.builtin "BaseException.__getattribute__"))) && (eqO (PySem.W.findIn K (.ref (ga K x)) "__getattr__") (some none) && (decide (PySem.W.subIn K (.ref (ga K x)) (.type "BaseException") = some true) &&
  (PySem.W.hasDictIn K (ga K x) && (eqO (PySem.W.findIn K (.ref (ga K x)) "__class__") (some (some (.builtin "object.__class__"))) && (eqO (PySem.W.specialIn K (.builtin "object.__class__") "__get__") (some (some (.builtin "getset_descriptor.__get__"))) &&
  (decide (PySem.W.takesIn K (.builtin "object.__class__") = some true) && decide (PySem.W.mroIn K (ga K x) (.type "object") = some true)))))))
theorem excCB_ok {x : Str} (h : excCB x K = true) : ExcC K (ga K x) := by
  obtain ⟨h1, h⟩ := He.ba h
  obtain ⟨h2, h⟩ := He.ba h
  obtain ⟨h3, h⟩ := He.ba h
  obtain ⟨h4, h⟩ := He.ba h
  obtain ⟨h5, h⟩ := He.ba h
  obtain ⟨h6, h⟩ := He.ba h
  obtain ⟨h7, h8⟩ := He.ba h
  exact ⟨eqO_ok h1, eqO_ok h2, of_decide_eq_true h3, h4, eqO_ok h5, eqO_ok h6, of_decide_eq_true h7, of_decide_eq_true h8⟩
def kitB1 (a b : Tq) (r : Bool) (K : PySem.W.Frag) : Bool := decide (PySem.W.kitOne K (a.v K) (b.v K) = some r)
def isaB (J : Isa) (K : PySem.W.Frag) : Bool := (J.obs.all fun x => ownB x K) && ((J.excs.all fun x => excCB x K) && J.tab.all fun e => kitB1 e.1.1 e.1.2 e.2 K)
theorem isaB_ok {J : Isa} (h : isaB J K = true) : IsaOk K J := by
  obtain ⟨h1, h⟩ := He.ba h
  obtain ⟨h2, h3⟩ := He.ba h
  exact ⟨fun c hc => ownB_ok (List.all_eq_true.mp h1 c hc), fun c hc => excCB_ok (List.all_eq_true.mp h2 c hc), fun e he => of_decide_eq_true (List.all_eq_true.mp h3 e he)⟩
def fldB (x f : Str) (K : PySem.W.Frag) : Bool := (Fa.cls x).ok K && (Fa.noat x f).ok K
def xfldB (x f : Str) (K : PySem.W.Frag) : Bool := xfB K (ga K x) && (Fa.noat x f).ok K
def propB (x f : Str) (K : PySem.W.Frag) : Bool := eqO (PySem.W.findIn K (.ref (ga K x)) f) (some (some (.ref (ma K (ga K x) f)))) && (eqO (PySem.W.specialIn K (.ref (ma K (ga K x) f)) "__get__") (some (some (.builtin "property.__get__"))) && (decide (PySem.W.takesIn K (.ref (ma K (ga K x) f)) = some true) &&
  (match PySem.W.recIn K (ma K (ga K x) f) "property" with
    | some (.ref _ :: _) => true
    | _ => false)))
theorem propB_ok {x f : Str} (h : propB x f K = true) : PropOf K (ga K x) f (ma K (ga K x) f) ((Wh.get x f).ad K) := by
  obtain ⟨h1, h⟩ := He.ba h
  obtain ⟨h2, h⟩ := He.ba h
  obtain ⟨h3, h4⟩ := He.ba h
  refine ⟨eqO_ok h1, eqO_ok h2, of_decide_eq_true h3, ?_⟩
  cases q : PySem.W.recIn K (ma K (ga K x) f) "property" with
  | none => rw [q] at h4; cases h4
  | some l =>
    rw [q] at h4
    have e : (Wh.get x f).ad K = match (some l : Option (List Value)) with
      | some (.ref g :: _) => g
      | _ => 0 := by
      show (match PySem.W.recIn K (ma K (ga K x) f) "property" with
        | some (.ref g :: _) => g
        | _ => 0) = _
      rw [q]
    rw [e]
    cases l with
    | nil => cases h4
    | cons v r => cases v <;> first | exact ⟨r, rfl⟩ | cases h4
theorem getK_of {x f g : Str} {d : FnA} {N : List Str} {p1 p2 p3 : Pos} (h : propB x f K = true) (e : fnO K (d.at_.ad K) = d.val) (c : d.ok K = true) (ha : d.at_ = .get x f) (hc : d.clo = []) (hb : d.body = [.Return (some (.Attribute (.Name "self" p1) g p2)) p3]) (S : FnScope N ["self"] d.scope) (hN : N[0]? = some ("self" : Str))
    (bd : ∀ (dV kV doc pm : Value) (an : Option Addr) (cdv ct : Value) (u : Value), bindArgs (PySem.W.fnOf d.name d.qual d.params d.body d.scope .none kV doc pm an cdv ct) ⟨[u], []⟩ = pure [(("self" : Str), u)]) : GetK K (ga K x) f g := by
  obtain ⟨kp, oc, od, cl, kV, doc, pm, cdv, ct, an, osl, lk, hcd, hcl⟩ := FnA.obj e c
  rw [hc] at hcl
  have : cl = [] := List.map_eq_nil_iff.mp hcl
  subst this
  refine ⟨ma K (ga K x) f, d.at_.ad K, d.name, d.qual, d.params, d.scope, .none, kV, doc, pm, cdv, ct, oc, an, od, osl, N, p1, p2, p3, by rw [ha]; exact propB_ok h, by rw [← hb]; exact lk, hcd, S, hN, fun s us hl => ?_⟩
  match us, hl with
  | [u], _ => exact BindsTo.of_eq (by rw [← hb]; exact bd .none kV doc pm an cdv ct u)
def mkB (x : Str) (K : PySem.W.Frag) : Bool := (Fa.glo x).ok K && (Fa.mkr x).ok K
def eqB (x : Str) (K : PySem.W.Frag) : Bool := eqO (PySem.W.findIn K (.ref (ga K x)) "__eq__") (some (some (.ref ((Wh.meth x "__eq__").ad K)))) && (PySem.W.isFn K (.ref ((Wh.meth x "__eq__").ad K)) && (eqO (PySem.W.findIn K (.ref (ga K x)) "__ne__") (some (some (.builtin "object.__ne__"))) && decide (PySem.W.mroIn K (ga K x) (.type "object") = some true)))
/-- a class of exceptions with super().__init__(..) -/
def suB (fileS : Str) (x fld : Str) (K : PySem.W.Frag) : Bool :=
  (match K.lookup ((Wh.meth x "__init__").ad K) with
    | some ⟨_, _, .func fd, _⟩ => (match fd.closure with
      | [(_, cc)] => (match K.lookup cc with
        | some ⟨_, _, .cell (some (.ref C')), _⟩ => decide (C' = ga K x)
        | _ => false)
      | _ => false) && (match fd.code with
      | .ref cda => (match K.lookup cda with
        | some ⟨_, _, .fields vs, _⟩ => (match (vs[2]? : Option Value) with
          | some (.str fl _) => fileS == fl
          | _ => false)
        | _ => false)
      | _ => false)
    | _ => false) && ((match PySem.W.clsIn K (ga K x) with
    | some cd => HandSPX.refsVE cd.mro && cd.hasDict
    | none => false) && (decide (PySem.W.mroIn K (ga K x) (.ref (ga K x)) = some true) && (eqO (PySem.W.nsIn K cStatics "thirdparty.any") (some none) && (eqO (PySem.W.ks_superIn K (ga K x) (ga K x) "__init__") (some (some (.builtin "ValueError.__init__"))) &&
    (decide (PySem.W.subIn K (.ref (ga K x)) (.type "ValueError") = some true) && (PySem.W.excInitIn K (ga K x) [.type "ValueError", .type "Exception", .type "BaseException", .type "object"] "ValueError.__new__" && (eqO (PySem.W.findIn K (.ref (ga K x)) "__setattr__") (some (some (.builtin "object.__setattr__"))) &&
    (eqO (PySem.W.findIn K (.ref (ga K x)) fld) (some none) && (eqO (PySem.W.findIn K (.ref (ga K x)) "__init__") (some (some (.ref ((Wh.meth x "__init__").ad K)))) && (decide (PySem.W.typeIn K (.ref ((Wh.meth x "__init__").ad K)) = some (.type "function")) && (PySem.W.keepIn K (.ref (ga K x)) &&
    (decide (PySem.W.subIn K (.ref (ga K x)) (.type "BaseException") = some true) && decide (PySem.W.typeIn K (.ref (ga K x)) = some (.type "type"))))))))))))))
theorem suB_ok {P : Program} {b : SuB} {x : Str} {d : FnA} {ar : Arg} (h : suB P.main.file x b.fld K = true) (e : fnO K (d.at_.ad K) = d.val) (c : d.ok K = true) (ha : d.at_ = .meth x "__init__") (hc : d.clo = [("__class__" : Str)]) (hb : d.body = b.body)
    (s1 : ∀ y ∈ d.scope.names, y.2 ≠ .cell) (s2 : d.scope.isCoroutine = false) (s3 : d.scope.isGenerator = false) (s4 : d.scope.kind = .function) (s5 : d.scope.names.lookup ("super" : Str) = some .globalImplicit) (s6 : d.scope.names.lookup ("__class__" : Str) = some .free) (s7 : d.scope.names.lookup ("self" : Str) = some .local) (s8 : d.scope.names.lookup b.par = some .local)
    (a1 : (d.params.posonlyargs ++ d.params.args).head? = some ar) (a2 : ar.arg = "self") (ht : (P.main.scope.names.lookup ("super" : Str)).isSome = false) (pne : b.par ≠ "self") (hdb : (b.par == ("__debug__" : Str)) = false) (ev : ∃ pl, b.Ev pl)
    (bd : ∀ (cl : List (Str × Addr)) (kV doc pm : Value) (an : Option Addr) (cdv ct : Value) (u v : Value), bindArgs (PySem.W.fnX d.name d.qual d.params d.body d.scope cl .none kV doc pm an cdv ct) ⟨[u, v], []⟩ = pure [(("self" : Str), u), (b.par, v)]) : ∃ fd, SuK P K b (ga K x) (d.at_.ad K) fd := by
  obtain ⟨h0, h⟩ := He.ba h
  obtain ⟨h1, h⟩ := He.ba h
  obtain ⟨h2, h⟩ := He.ba h
  obtain ⟨h3, h⟩ := He.ba h
  obtain ⟨h4, h⟩ := He.ba h
  obtain ⟨h5, h⟩ := He.ba h
  obtain ⟨h6, h⟩ := He.ba h
  obtain ⟨h7, h⟩ := He.ba h
  obtain ⟨h8, h⟩ := He.ba h
  obtain ⟨h9, h⟩ := He.ba h
  obtain ⟨h10, h⟩ := He.ba h
  obtain ⟨h11, h⟩ := He.ba h
  obtain ⟨h12, h13⟩ := He.ba h
  obtain ⟨kp, oc, od, cl, kV, doc, pm, cdv, ct, an, osl, lk, hcd, hcl⟩ := FnA.obj e c
  rw [← ha, lk] at h0
  rw [hc] at hcl
  obtain ⟨cc, rfl⟩ : ∃ cc, cl = [(("__class__" : Str), cc)] := by
    cases cl with
    | nil => cases hcl
    | cons p r =>
      cases r with
      | cons _ _ => exact absurd (congrArg List.length hcl) (by simp)
      | nil =>
        obtain ⟨n, cc⟩ := p
        simp only [List.map_cons, List.map_nil, List.cons.injEq, and_true] at hcl
        exact ⟨cc, by rw [hcl]⟩
  obtain ⟨z1, z2⟩ := He.ba h0
  obtain ⟨cl0, cld, csl, hcel⟩ : ∃ cl0 cld csl, K.lookup cc = some ⟨cl0, cld, .cell (some (.ref (ga K x))), csl⟩ := by
    have z1 : (match K.lookup cc with
        | some ⟨_, _, .cell (some (.ref C')), _⟩ => decide (C' = ga K x)
        | _ => false) = true := z1
    split at z1
    · rename_i q
      rw [of_decide_eq_true z1] at q
      exact ⟨_, _, _, q⟩
    · cases z1
  obtain ⟨cda, rfl⟩ := codeIn_ref hcd
  obtain ⟨ccl, cdd, vs, ccs, file, tf, hcode, hvs, hfile⟩ : ∃ ccl cdd vs ccs file tf, K.lookup cda = some ⟨ccl, cdd, .fields vs, ccs⟩ ∧ vs[2]? = some (.str file tf) ∧ (P.main.file == file) = true := by
    have z2 : (match K.lookup cda with
        | some ⟨_, _, .fields vs, _⟩ => (match (vs[2]? : Option Value) with
          | some (.str fl _) => P.main.file == fl
          | _ => false)
        | _ => false) = true := z2
    split at z2
    · rename_i q
      split at z2
      · rename_i q2
        exact ⟨_, _, _, _, _, _, q, q2, z2⟩
      · cases z2
    · cases z2
  obtain ⟨cd, hC, hm, hd⟩ : ∃ cd, PySem.W.clsIn K (ga K x) = some cd ∧ HandSPX.refsVE cd.mro = true ∧ cd.hasDict = true := by
    cases q : PySem.W.clsIn K (ga K x) with
    | none => rw [q] at h1; cases h1
    | some cd => rw [q] at h1; obtain ⟨a, b⟩ := He.ba h1; exact ⟨cd, rfl, a, b⟩
  refine ⟨_, ⟨⟨d.name, d.qual, d.params, d.scope, .none, kV, doc, pm, ct, oc, ccl, cl0, an, od, cdd, cld, osl, ccs, csl, cc, cda, ar, vs, file, tf, cd, rfl, by rw [← hb]; exact lk, hcd, s1, s2, s3, s4, s5, s6, s7, s8, a1, a2, hcode, hvs, hfile, ht, hcel, hC, hm, hd, of_decide_eq_true h2, eqO_ok h3⟩,
    eqO_ok h4, of_decide_eq_true h5, h6, eqO_ok h7, eqO_ok h8, pne, eqO_ok (by rw [ha]; exact h9), of_decide_eq_true (by rw [ha]; exact h10), h11, of_decide_eq_true h12, of_decide_eq_true h13, hdb, ev, fun s us hl => ?_⟩⟩
  match us, hl with
  | [u, v], _ => exact BindsTo.of_eq (by rw [← hb]; exact bd _ kV doc pm an (.ref cda) ct u v)
end
end DL

namespace DL
open PySem PySem.Spec L2
open PyProof.Rows hiding St
section
variable {K : PySem.W.Frag} {B : Base} {n : Nat} {X : Cx} {a b c : Expr} {ta tb tc : TDX} {pos : Pos}
/-! ### a op b op c -/
def dChain (r1 r2 : D → D → (D → Prop) → Prop) (ta tb tc : TDX) : TDX := fun rx δ P => ta rx δ fun x δ1 => tb rx δ1 fun y δ2 => r1 x y fun z => match z with
  | .bl true => tc rx δ2 fun w δ3 => r2 y w fun u => P u δ3
  | .bl false => P (.bl false) δ2
  | _ => False
theorem lift_chain {r r' : R2} {rD rD' : D → D → (D → Prop) → Prop} (L : Lift2 K r rD) (L' : Lift2 K r' rD') {rx : D → Prop} {σ : L2.St} {H : Hp} {Q : VK} (h : liftE K B n (dChain rD rD' ta tb tc rx) σ H Q) :
    tChain r r' (liftE K B n (ta rx)) (liftE K B n (tb rx)) (liftE K B n (tc rx)) σ H Q := by
  obtain ⟨g, δ, P, S, q, k⟩ := h
  exact ⟨g, δ, _, S, q, fun d1 δ1 g1 H1 v1 h1 st1 S1 D1 => ⟨g1, δ1, _, S1, h1, fun d2 δ2 g2 H2 v2 h2 st2 S2 D2 =>
    L B n g2 H2 σ δ2 v1 v2 d1 d2 _ _ S2 (D1.step st2) D2 h2 fun d3 g3 H3 v3 h3 st3 S3 D3 => by
      cases D3 with
      | bl b => cases b with
        | false => exact ⟨false, rfl, iteF (k _ δ2 g3 H3 _ h3 ((st1.trans st2).trans st3) S3 (.bl false))⟩
        | true => exact ⟨true, rfl, iteT ⟨g3, δ2, _, S3, h3, fun d4 δ4 g4 H4 v4 h4 st4 S4 D4 => L' B n g4 H4 σ δ4 v2 v4 d2 d4 _ Q S4 ((D2.step st3).step st4) D4 h4 fun d5 g5 H5 v5 h5 st5 S5 D5 => k d5 δ4 g5 H5 v5 h5 ((((st1.trans st2).trans st3).trans st4).trans st5) S5 D5⟩⟩
      | _ => exact h3.elim⟩⟩
variable {op op' : CmpOp} {r r' : R2} {rD rD' : D → D → (D → Prop) → Prop}
theorem de_chain (ho : OpR X (compareOp op) r) (L : Lift2 X.K r rD) (ho' : OpR X (compareOp op') r') (L' : Lift2 X.K r' rD') (ha : DE X B a ta) (hb : DE X B b tb) (hc : DE X B c tc) (hm : lastMarks [op, op'] [b, c] = false := by with_unfolding_all rfl) :
    DE X B (.Compare a [op, op'] [b, c] pos) (dChain rD rD' ta tb tc) := ⟨fun rx tk => PE.imp (pe_chain ho ho' (ha.run rx tk) (hb.run rx tk) (hc.run rx tk) hm) fun _ _ _ _ h => lift_chain L L' h⟩
theorem dt_chain (ho : OpR X (compareOp op) r) (L : Lift2 X.K r rD) (ho' : OpR X (compareOp op') r') (L' : Lift2 X.K r' rD') (ha : DE X B a ta) (hb : DE X B b tb) (hc : DE X B c tc) (hm : lastMarks [op, op'] [b, c] = false := by with_unfolding_all rfl) :
    DT X B (.Compare a [op, op'] [b, c] pos) (dTest (dChain rD rD' ta tb tc)) := ⟨fun rx tk => PT.imp (pt_chain ho ho' (ha.run rx tk) (hb.run rx tk) (hc.run rx tk) hm) fun σ H Q _ h => lift_chain (Q := fun x H' => ∃ k, x = .bl k ∧ Q k H') L L' (lift_test (te := dChain rD rD' ta tb tc) h)⟩
/-! ### own == as a test -/
variable {J : Isa} {eqs : List (Str × SpD)} {k : Nat}
theorem dt_eqA (E : EqsOk X.prog X.w X.K X.mg X.base B.T J eqs k) (hr : Rm (k + 1) X.A) (ha : DE X B a ta) (hb : DE X B b tb) (hm : behindInMarks .Eq b = false := by rfl) : DT X B (.Compare a [.Eq] [b] pos) (dTest (dEqA J eqs false ta tb)) :=
  ⟨fun rx tk => PT.imp (pt_cmpR ((op_eqD hr.u64).or (op_eqO tk)) (ha.run rx tk) (hb.run rx tk) hm) fun σ H Q _ h => lift_eqA E hr (neg := false) (Q := fun x H' => ∃ k, x = .bl k ∧ Q k H') (by simpa using l_eq) (lift_test (te := dEqA J eqs false ta tb) h)⟩
theorem dt_neA (E : EqsOk X.prog X.w X.K X.mg X.base B.T J eqs k) (hr : Rm (k + 1) X.A) (ha : DE X B a ta) (hb : DE X B b tb) (hm : behindInMarks .NotEq b = false := by rfl) : DT X B (.Compare a [.NotEq] [b] pos) (dTest (dEqA J eqs true ta tb)) :=
  ⟨fun rx tk => PT.imp (pt_cmpR ((op_neD hr.u64).or (op_neO tk)) (ha.run rx tk) (hb.run rx tk) hm) fun σ H Q _ h => lift_eqA E hr (neg := true) (Q := fun x H' => ∃ k, x = .bl k ∧ Q k H') (by simpa using l_ne) (lift_test (te := dEqA J eqs true ta tb) h)⟩
/-! ### an own list read at a place that a name tells -/
def dIxO (i j : Nat) : TDX := fun _ δ P => match δ[i]?, δ[j]? with
  | some (some (.ol ds)), some (some (.sh (.int k))) => ∃ d, atI ds k = some d ∧ P d δ
  | _, _ => False
theorem de_ixO {x y : Str} {p1 p2 : Pos} {i j : Nat} (hu : X.A.units + 1 < cLine) (hx : PE X (.Name x p1) (tVar i)) (hy : PE X (.Name y p2) (tVar j)) (hs : PlainIx (.Name y p2) := by intro _ _; rfl) : DE X B (.Subscript (.Name x p1) (.Name y p2) pos) (dIxO i j) :=
  ⟨fun rx tk => PE.imp (pe_ix (ix_all hu) hx hy hs) fun σ H Q hl ⟨g, δ, P, S, q, k⟩ => by
    unfold dIxO at q
    cases e1 : δ[i]? with
    | none => rw [e1] at q; exact q.elim
    | some o1 =>
      cases o1 with
      | none => rw [e1] at q; exact q.elim
      | some s1 =>
        cases s1 with
        | ol ds =>
          cases e2 : δ[j]? with
          | none => rw [e1, e2] at q; exact q.elim
          | some o2 =>
            cases o2 with
            | none => rw [e1, e2] at q; exact q.elim
            | some s2 =>
              cases s2 with
              | sh d2 =>
                cases d2 with
                | int m =>
                  rw [e1, e2] at q
                  obtain ⟨d, h1, h2⟩ := q
                  obtain ⟨ad, xs, a1, a2, a3, rr⟩ := S.env i _ e1
                  obtain ⟨v2, b1, b2⟩ := S.env j _ e2
                  cases b2
                  obtain ⟨v, ev, dv⟩ := atI_rel rr h1
                  exact ⟨.ref ad, a1, .int m, b1, .inr (.inl ⟨ad, xs, m, v, rfl, rfl, .of a3, ev, k _ _ g H v h2 (Step.refl _ _ _) S dv⟩)⟩
                | _ => rw [e1, e2] at q; exact q.elim
              | _ => rw [e1, e2] at q; exact q.elim
        | _ => rw [e1] at q; exact q.elim⟩
end
/-! ### a def that hands over a new list -/
section
abbrev SpF := List D → (List D → Prop) → (D → Prop) → Prop
def FrOk (K : PySem.W.Frag) (H F' : Hp) (W' : DW) (H' : Hp) (v : V) (rs : List D) : Prop := ∃ a xs, v = .ref a ∧ H a = none ∧ F' a = none ∧ ¬ has W' a ∧ H' a = some (.lst xs) ∧ Dens K W' F' xs rs
def liftSpF (K : PySem.W.Frag) (T : List (Addr × Str)) (m : Nat) (wp : SpF) : Sp := fun vs H Q E => ∃ F W ds P RX, Gd T F H W ∧ Dens K W F vs ds ∧ ds.length = m ∧ wp ds P RX ∧
  (∀ rs v F' W' H', P rs → Ret ⟨F, H, W, T⟩ F' H' W' → FrOk K H F' W' H' v rs → Q v H') ∧ ∀ cls dd H', liftX K ⟨F, H, W, T⟩ RX cls dd H' → E cls dd H'
def onOl (Q : List D → Prop) : Sl → Prop
  | .ol rs => Q rs
  | _ => False
def dFresh (m : Nat) (t1 : TDS) (te : TDF) : SpF := fun ds Q E => t1 E { nx := fun δ => te E δ fun s _ => onOl Q s, rt := fun _ => False } (envOfArgs m ds)
variable {P : Program} {w : World} {K : PySem.W.Frag} {mg : Str → Option Value} {base : Heap} {T : List (Addr × Str)}
theorem fnF_ok {x qual : Str} {params : Arguments} {st1 : Stmt} {e : Expr} {p : Pos} {scope : Scope} {f : Addr} {fd : FuncData} {N ps : List Str} {k : Nat} {t1 : TDS} {te : TDF} (F : FunD K x qual params [st1, .Return (some e) p] scope [] [] f fd) (S : FnScope N ps scope)
    (h1 : ∀ (cdv : Value) (A : Around) (outer : List PySem.Env) (s : Shared) (H : Hp) (E : XK) (B : Base), B.T = T → Rm k (A.deeper (envOfC qual scope s.heap.objs.size f cdv)) → DS (cxOf (L2.CX P w) P w K mg base N qual scope f cdv A outer s H E) B st1 t1)
    (h2 : ∀ (cdv : Value) (A : Around) (outer : List PySem.Env) (s : Shared) (H : Hp) (E : XK) (B : Base), B.T = T → Rm k (A.deeper (envOfC qual scope s.heap.objs.size f cdv)) → DF (cxOf (L2.CX P w) P w K mg base N qual scope f cdv A outer s H E) B e te) :
    FnG P w K mg base (k + 1) f fd ps (liftSpF K T ps.length (dFresh N.length t1 te)) := by
  refine ⟨fun vs H Q E ⟨F, W, ds, P, RX, _, r, hl, _⟩ => r.length.trans hl, fun A outer s H args us vs Q E hr e0 hb r h => ?_⟩
  obtain ⟨F0, W, ds, P', RX, gd, rd, hl, hw, k1, k2⟩ := h
  refine run_def F S hr e0 hb r (rd.length.trans hl) fun cdv hcd hr' => ?_
  have tk := takes_of (X := cxOf (L2.CX P w) P w K mg base N qual scope f cdv A outer s H E) (E := E) rfl rfl rfl rfl
  have tk' := tk.imp fun c d σ H' hx => k2 c d H' hx
  have q1 := (h1 cdv A outer s H E ⟨F0, H, W, T⟩ rfl hr').run RX tk'
  have q2 := (h2 cdv A outer s H E ⟨F0, H, W, T⟩ rfl hr').run RX tk'
  refine ⟨_, pss_cons q1 (pss_one (ps_ret q2)), ?_⟩
  refine ⟨_, _, { nx := fun δ => te RX δ fun s _ => onOl P' s, rt := fun _ => False }, stt_start gd rd, hw, fun σ1 δ1 g1 H1 hn st1 S1 => ?_, fun _ _ _ _ _ h => h.elim, fun _ _ _ _ h => h.elim, fun _ _ _ _ h => h.elim⟩
  refine ⟨g1, δ1, _, S1, hn, fun s2 δ2 g2 H2 v hs st2 S2 it => ?_⟩
  cases s2 with
  | ol rs =>
    obtain ⟨a, xs, rfl, gO, o2, e2, rr⟩ := it
    obtain ⟨c1, c2, _, c4⟩ := S2.own a _ o2
    exact k1 rs _ _ _ _ hs S2.ret ⟨a, xs, rfl, c1, c2, c4, e2, rr⟩
  | _ => exact hs.elim
structure FnF (P : Program) (w : World) (K : PySem.W.Frag) (mg : Str → Option Value) (base : Heap) (T : List (Addr × Str)) (x : Str) (k : Nat) (ps : List Str) (wp : SpF) : Prop where
  ex : ∃ (f : Addr) (fd : FuncData), mg x = some (.ref f) ∧ PySem.W.keepIn K (.ref f) = true ∧ (∀ (s : Shared) (us : List Value), us.length = ps.length → BindsTo s fd ⟨us, []⟩ (ps.zip us)) ∧ FnG P w K mg base k f fd ps (liftSpF K T ps.length wp)
variable {X : Cx} {B : Base} {k j : Nat} {ps : List Str} {wp : SpF} {x : Str} {p pos apos cpos p2 : Pos} {e : Expr} {es : List Expr} {t : TDA}
theorem pe_freshC {rx : D → Prop} (G : FnF X.prog X.w X.K X.mg X.base B.T x k ps wp) (hr : Rm k X.A) (hg : Gl X x) (ha : DA X B (e :: es) t) (tk : Takes X (XW (liftX X.K B rx))) (hdb : (x == ("__debug__" : Str)) = false := by decide)
    (he : starEach (e :: es) X.env = (false, eval e X.env) :: starEach es X.env := by rfl) (hpl : (backTo pos (starEach es X.env)).any (·.1) = false := by rfl) :
    PE X (.Call (.Name x p) (e :: es) [] pos) (fun σ H Q => liftA X.K B X.N.length (t rx) σ H (fun vs H1 => vs.length = ps.length ∧ liftSpF X.K B.T ps.length wp vs H1 Q (liftX X.K B rx))) := by
  obtain ⟨f, fd, hm, hk, hb, F⟩ := G.ex
  refine ⟨fun pins s σ H Q I h2 => ?_⟩
  refine wpAny_Call_Name_kw (ld_glob I hg hm ?_ hdb)
  refine PySem.W.callWith_K (h₀ := X.base) I.ok.mod.kin hk (thn ((ha.run rx tk).run pos pins s σ H _ I h2) fun us s1 ⟨vs, H1, I1, r, q1, q2⟩ => ⟨I1.kIn, ?_⟩) he hpl
  exact run_g F hr (hb s1 us (by rw [← r.length, q1])) (passes_lift tk) I1 r q2
def dAppN (wp : SpF) (m : Nat) (t : TDA) : TDX := fun rx δ P => t rx δ fun ds δ1 => ds.length = m ∧ wp ds (fun rs => rs.length < sizeLine ∧ P .non δ1) rx
theorem de_appN (G : FnF X.prog X.w X.K X.mg X.base B.T x k ps wp) (hr : Rm k X.A) (hg : Gl X x) (ha : DA X B (e :: es) t) (hdb : (x == ("__debug__" : Str)) = false := by decide)
    (he : starEach (e :: es) X.env = (false, eval e X.env) :: starEach es X.env := by rfl) (hpl : (backTo pos (starEach es X.env)).any (·.1) = false := by rfl)
    (hbase : attributeBase (.Call (.Name x p) (e :: es) [] pos) "append" X.env (eval (.Call (.Name x p) (e :: es) [] pos) X.env) = eval (.Call (.Name x p) (e :: es) [] pos) X.env := by rfl)
    (hline : (apos.endLine == cpos.line) = true := by rfl) :
    DE X B (.Call (.Attribute (.Call (.Name x p) (e :: es) [] pos) "append" apos) [.Constant .none j p2] [] cpos) (dAppN wp ps.length t) :=
  ⟨fun rx tk => PE.imp (pe_bm PySem.F.plainAttrs_list PySem.F.slot_list_append PySem.F.type_list_append mt_append (pe_freshC G hr hg ha tk hdb he hpl) (pa_cons pe_non pa_nil) hbase (by rfl) hline) fun σ H Q hl ⟨g, δ, P, S, q, k⟩ => ⟨g, δ, _, S, q, fun ds δ1 g1 H1 vs h1 st1 S1 D1 => by
    obtain ⟨hl', hw⟩ := h1
    refine ⟨by rw [D1.length]; exact hl', g1.F, g1.W, ds, _, rx, S1.ret.gd, D1, hl', hw, fun rs v F' W' H' hzp rt fr => ?_, fun cls dd H' hx => liftX.trans S1.ret hx⟩
    obtain ⟨hz, hp⟩ := hzp
    obtain ⟨a, xs, rfl, a1, a2, a3, a4, rr⟩ := fr
    obtain ⟨S2, st2⟩ := S1.after (n := X.N.length) rt
    have h0 : B.H a = none := by
      cases z : B.H a with
      | none => rfl
      | some o => exact absurd a1 (S1.ret.there a (by rw [z]; simp))
    have hO : g1.O a = none := own_none S1 a1
    have S3 := S2.adopt (k := X.N.length + a) h0 a2 hO ⟨_, a4, trivial⟩ a3
    obtain ⟨S4, hne⟩ := S3.writeX (o' := .lst (xs ++ [.non])) hl (if_pos rfl) (Nat.le_add_right _ _) a4 trivial trivial
    refine ⟨?_, a, xs, .non, rfl, rfl, a4, by rw [rr.length]; exact hz, k _ δ1 { F := F', O := fun b => if b = a then some (X.N.length + a) else g1.O b, W := W' } _ _ hp (st1.trans ⟨st2.up, st2.wle, fun b hb => ?_, fun b k' e hk => ?_⟩) S4 .non⟩
    · exact .inl ⟨rfl, xs, .of a4⟩
    · by_cases q : b = a
      · rw [q, upd_same]; simp
      · rw [hne b q]; exact st2.thr b hb
    · have nb : b ≠ a := fun q => by rw [q, hO] at e; cases e
      obtain ⟨e1, e2⟩ := st2.ext b k' e hk
      exact ⟨by show (if b = a then _ else _) = _; rw [if_neg nb]; exact e1, by rw [hne b nb]; exact e2⟩⟩⟩
end
end DL

namespace DL
open PySem PySem.Spec L2
open PyProof.Rows hiding St
/-! ### what is known of a law's module -/
structure LawC : Type where
  fns : List FnA
  glos : List Str
  frees : List Str
  nums : List (Str × Int)
  isas : Isa
  tab : AtTab
  mks : List Str
structure Zk (C : LawC) (K : PySem.W.Frag) (mg : Str → Option Value) : Prop where
  fn : ∀ d ∈ C.fns, fnO K (d.at_.ad K) = d.val ∧ d.ok K = true
  glo : ∀ x ∈ C.glos, mg x = some (.ref (He.ga K x))
  free : ∀ x ∈ C.frees, mg x = none
  num : ∀ p ∈ C.nums, ∃ t, mg p.1 = some (.int p.2 t)
  isa : IsaOk K C.isas
  ats : AtOk K C.tab
  mkr : ∀ x ∈ C.mks, Mk K (He.ga K x) ((Wh.meth x "__init__").ad K)
section
variable {C : LawC} {P : Program} {w : World} {K : PySem.W.Frag} {mg : Str → Option Value} {base : Heap} {T : List (Addr × Str)} {d : FnA}
theorem Zk.fd (Z : Zk C K mg) (i : Nat) (h : C.fns[i]? = some d) (hc : d.clo = []) : ∃ fd, FunD K d.name d.qual d.params d.body d.scope [] [] (d.at_.ad K) fd :=
  FnA.funD (Z.fn d (List.mem_of_getElem? h)).1 (Z.fn d (List.mem_of_getElem? h)).2 hc
theorem Zk.g (Z : Zk C K mg) (i : Nat) {x : Str} (h : C.glos[i]? = some x) : mg x = some (.ref (He.ga K x)) := Z.glo x (List.mem_of_getElem? h)
theorem Zk.f (Z : Zk C K mg) (i : Nat) {x : Str} (h : C.frees[i]? = some x) : mg x = none := Z.free x (List.mem_of_getElem? h)
theorem Zk.n (Z : Zk C K mg) (i : Nat) {x : Str} {v : Int} (h : C.nums[i]? = some (x, v)) : ∃ t, mg x = some (.int v t) := Z.num (x, v) (List.mem_of_getElem? h)
abbrev BindsD (d : FnA) (ps : List Str) : Prop := ∀ (kV doc pm : Value) (an : Option Addr) (cdv ct : Value) (us : List Value), us.length = ps.length → bindArgs (PySem.W.fnOf d.name d.qual d.params d.body d.scope .none kV doc pm an cdv ct) ⟨us, []⟩ = pure (ps.zip us)
theorem Zk.fnD (Z : Zk C K mg) {N ps : List Str} {k : Nat} {t : TDS} (i : Nat) (h : C.fns[i]? = some d) (hc : d.clo = []) (hat : d.at_ = .glo d.name) (hg : mg d.name = some (.ref (He.ga K d.name))) (S : FnScope N ps d.scope) (hb : BindsD d ps)
    (hbody : ∀ (cdv : Value) (A : Around) (outer : List PySem.Env) (s : Shared) (H : Hp) (E : XK) (B : Base), cdv = .ref (codeAt K (He.ga K d.name)) → B.T = T → Rm k (A.deeper (envOfC d.qual d.scope s.heap.objs.size (He.ga K d.name) cdv)) → DSs (cxOf (L2.CX P w) P w K mg base N d.qual d.scope (He.ga K d.name) cdv A outer s H E) B d.body t) :
    FnD P w K mg base T d.name (k + 1) ps (dBody N.length t) := by
  obtain ⟨fd, F⟩ := Z.fd i h hc
  rw [hat] at F
  exact fnD_of F hg (FunD.bindsA F hb) (fn_ok F S hbody)
/-- a way into a def's body, with a known T -/
theorem Zk.eqK (Z : Zk C K mg) {N ps : List Str} {k : Nat} {t : TDS} {c : Str} (i : Nat) (h : C.fns[i]? = some d) (hc : d.clo = []) (hat : d.at_ = .meth c "__eq__") (he : eqB c K = true) (S : FnScope N ps d.scope) (hps : ps.length = 2) (hb : BindsD d ps)
    (hbody : ∀ (cdv : Value) (A : Around) (outer : List PySem.Env) (s : Shared) (H : Hp) (E : XK) (B : Base), cdv = .ref (codeAt K ((Wh.meth c "__eq__").ad K)) → B.T = T → Rm k (A.deeper (envOfC d.qual d.scope s.heap.objs.size ((Wh.meth c "__eq__").ad K) cdv)) → DSs (cxOf (L2.CX P w) P w K mg base N d.qual d.scope ((Wh.meth c "__eq__").ad K) cdv A outer s H E) B d.body t) :
    EqK P w K mg base T c (k + 1) (dBody N.length t) := by
  obtain ⟨fd, F⟩ := Z.fd i h hc
  rw [hat] at F
  have G := fn_ok (P := P) (w := w) (mg := mg) (base := base) (T := T) F S hbody
  rw [hps] at G
  obtain ⟨h1, he⟩ := He.ba he
  obtain ⟨h2, he⟩ := He.ba he
  obtain ⟨h3, he⟩ := He.ba he
  exact ⟨_, fd, ps, He.eqO_ok h1, h2, He.eqO_ok h3, of_decide_eq_true he, fun s u v => FunD.bindsA F hb s [u, v] hps.symm, G⟩
theorem Zk.fnM (Z : Zk C K mg) {N ps : List Str} {k : Nat} {t : TDS} {c : Str} (i j j2 : Nat) (h : C.fns[i]? = some d) (hc : d.clo = []) (hat : d.at_ = .meth c "__init__") (hg : C.glos[j]? = some c) (hm : C.mks[j2]? = some c) (S : FnScope N ps d.scope) (hN : ps.length ≤ N.length) (hb : BindsD d ps)
    (hbody : ∀ (cdv : Value) (A : Around) (outer : List PySem.Env) (s : Shared) (H : Hp) (E : XK) (B : Base), B.T = T → Rm k (A.deeper (envOfC d.qual d.scope s.heap.objs.size ((Wh.meth c "__init__").ad K) cdv)) → DSs (cxOf (L2.CX P w) P w K mg base N d.qual d.scope ((Wh.meth c "__init__").ad K) cdv A outer s H E) B d.body t) :
    FnM P w K mg base T c (k + 1) ps (dInit c N.length t) := by
  obtain ⟨fd, F⟩ := Z.fd i h hc
  rw [hat] at F
  exact ⟨_, fd, Z.g j hg, Z.mkr c (List.mem_of_getElem? hm), FunD.bindsA F hb, fnI_ok F S hN hbody⟩
theorem Zk.fnF (Z : Zk C K mg) {N ps : List Str} {k : Nat} {st1 : Stmt} {e : Expr} {p : Pos} {t1 : TDS} {te : TDF} (i : Nat) (h : C.fns[i]? = some d) (hc : d.clo = []) (hat : d.at_ = .glo d.name) (hg : mg d.name = some (.ref (He.ga K d.name))) (S : FnScope N ps d.scope) (hb : BindsD d ps) (hbd : d.body = [st1, .Return (some e) p])
    (h1 : ∀ (cdv : Value) (A : Around) (outer : List PySem.Env) (s : Shared) (H : Hp) (E : XK) (B : Base), B.T = T → Rm k (A.deeper (envOfC d.qual d.scope s.heap.objs.size (He.ga K d.name) cdv)) → DS (cxOf (L2.CX P w) P w K mg base N d.qual d.scope (He.ga K d.name) cdv A outer s H E) B st1 t1)
    (h2 : ∀ (cdv : Value) (A : Around) (outer : List PySem.Env) (s : Shared) (H : Hp) (E : XK) (B : Base), B.T = T → Rm k (A.deeper (envOfC d.qual d.scope s.heap.objs.size (He.ga K d.name) cdv)) → DF (cxOf (L2.CX P w) P w K mg base N d.qual d.scope (He.ga K d.name) cdv A outer s H E) B e te) :
    FnF P w K mg base T d.name (k + 1) ps (dFresh N.length t1 te) := by
  obtain ⟨fd, F⟩ := Z.fd i h hc
  rw [hat] at F
  have F' := F
  rw [hbd] at F
  exact ⟨_, fd, hg, F.kp, FunD.bindsA F' hb, fnF_ok F S h1 h2⟩
theorem Zk.fnC (Z : Zk C K mg) {N : List Str} {a : Str} {kc k : Nat} {t : Addr → TL → TDS} (i : Nat) (h : C.fns[i]? = some d) (hc : d.clo = []) (hat : d.at_ = .glo d.name) (hg : mg d.name = some (.ref (He.ga K d.name))) (S : FnScope N [a] d.scope) (hb : BindsD d [a])
    (hbody : ∀ (fl : Addr) (tl : TL) (cdv : Value) (A : Around) (outer : List PySem.Env) (s : Shared) (H : Hp) (E : XK) (B : Base), B.T = T → B.H = H → CallD P w K mg base B.T kc s B.F B.H B.W fl tl → Rm k (A.deeper (envOfC d.qual d.scope s.heap.objs.size (He.ga K d.name) cdv)) →
      DSs (cxOf (L2.CX P w) P w K mg base N d.qual d.scope (He.ga K d.name) cdv A outer s H E) B d.body (t fl tl)) :
    FnC P w K mg base T d.name kc (k + 1) (fun tl P' RX => ∀ fl, dBody N.length (t fl tl) [.adr fl] P' RX) := by
  obtain ⟨fd, F⟩ := Z.fd i h hc
  rw [hat] at F
  exact fnC_ok F S hg (fun s u => FunD.bindsA F hb s [u] rfl) hbody
theorem FnD.up {x : Str} {j k : Nat} {ps : List Str} {wp : SpD} (G : FnD P w K mg base T x j ps wp) (h : j ≤ k) : FnD P w K mg base T x k ps wp := by
  obtain ⟨f, fd, a, b, c, F⟩ := G.ex
  exact ⟨f, fd, a, b, c, F.up h⟩
/-- a def of the module and its promise, for any way to call it -/
def FnB (P : Program) (w : World) (K : PySem.W.Frag) (mg : Str → Option Value) (base : Heap) (T : List (Addr × Str)) (d : FnA) (k : Nat) (ps : List Str) (wp : SpD) : Prop :=
  ∃ fd, FunD K d.name d.qual d.params d.body d.scope [] [] (He.ga K d.name) fd ∧ FnG P w K mg base k (He.ga K d.name) fd ps (liftSp K T ps.length wp)
theorem Zk.fnB (Z : Zk C K mg) {N ps : List Str} {k : Nat} {t : TDS} (i : Nat) (h : C.fns[i]? = some d) (hc : d.clo = []) (hat : d.at_ = .glo d.name) (S : FnScope N ps d.scope)
    (hbody : ∀ (cdv : Value) (A : Around) (outer : List PySem.Env) (s : Shared) (H : Hp) (E : XK) (B : Base), cdv = .ref (codeAt K (He.ga K d.name)) → B.T = T → Rm k (A.deeper (envOfC d.qual d.scope s.heap.objs.size (He.ga K d.name) cdv)) → DSs (cxOf (L2.CX P w) P w K mg base N d.qual d.scope (He.ga K d.name) cdv A outer s H E) B d.body t) :
    FnB P w K mg base T d (k + 1) ps (dBody N.length t) := by
  obtain ⟨fd, F⟩ := Z.fd i h hc
  rw [hat] at F
  exact ⟨fd, F, fn_ok F S hbody⟩
abbrev BindsK (d : FnA) (ps : List Str) (n : Nat) (ks : List Str) (perm : List Nat) : Prop := ∀ (kV doc pm : Value) (an : Option Addr) (cdv ct : Value) (us ws : List Value), us.length = n → ws.length = ks.length → bindArgs (PySem.W.fnOf d.name d.qual d.params d.body d.scope .none kV doc pm an cdv ct) ⟨us, ks.zip ws⟩ = pure (ps.zip (pick perm (us ++ ws)))
theorem FunD.bindsK {f : Addr} {fd : FuncData} {ps ks : List Str} {n : Nat} {perm : List Nat} (F : FunD K d.name d.qual d.params d.body d.scope [] [] f fd) (h : BindsK d ps n ks perm) (s : Shared) (us ws : List Value) (h1 : us.length = n) (h2 : ws.length = ks.length) : BindsTo s fd ⟨us, ks.zip ws⟩ (ps.zip (pick perm (us ++ ws))) := by
  obtain ⟨oc, od, dV, kV, doc, pm, an, cdv, ct, osl, rfl, lk, hcd, hD, hK⟩ := F.ex
  rcases hD with ⟨_, rfl⟩ | ⟨e, _⟩
  · exact .of_eq (h kV doc pm an cdv ct us ws h1 h2)
  · exact absurd rfl e
theorem FnB.fnD {k : Nat} {ps : List Str} {wp : SpD} (G : FnB P w K mg base T d k ps wp) (hg : mg d.name = some (.ref (He.ga K d.name))) (hb : BindsD d ps) : FnD P w K mg base T d.name k ps wp := by
  obtain ⟨fd, F, g⟩ := G
  exact fnD_of F hg (FunD.bindsA F hb) g
theorem FnB.fnK {k n : Nat} {ps ks : List Str} {perm : List Nat} {wp : SpD} (G : FnB P w K mg base T d k ps wp) (hg : mg d.name = some (.ref (He.ga K d.name))) (hb : BindsK d ps n ks perm) : FnK P w K mg base T d.name k ps wp n ks perm := by
  obtain ⟨fd, F, g⟩ := G
  exact ⟨_, fd, hg, F.kp, FunD.bindsK F hb, g⟩
/-- an own class's __init__ -/
def FnMB (P : Program) (w : World) (K : PySem.W.Frag) (mg : Str → Option Value) (base : Heap) (T : List (Addr × Str)) (d : FnA) (c : Str) (k : Nat) (ps : List Str) (wpI : SpI) : Prop :=
  ∃ fd, mg c = some (.ref (He.ga K c)) ∧ Mk K (He.ga K c) ((Wh.meth c "__init__").ad K) ∧ FunD K d.name d.qual d.params d.body d.scope [] [] ((Wh.meth c "__init__").ad K) fd ∧ FnI P w K mg base T c k ((Wh.meth c "__init__").ad K) fd ps wpI
theorem Zk.fnMB (Z : Zk C K mg) {N ps : List Str} {k : Nat} {t : TDS} {c : Str} (i j j2 : Nat) (h : C.fns[i]? = some d) (hc : d.clo = []) (hat : d.at_ = .meth c "__init__") (hg : C.glos[j]? = some c) (hm : C.mks[j2]? = some c) (S : FnScope N ps d.scope) (hN : ps.length ≤ N.length)
    (hbody : ∀ (cdv : Value) (A : Around) (outer : List PySem.Env) (s : Shared) (H : Hp) (E : XK) (B : Base), B.T = T → Rm k (A.deeper (envOfC d.qual d.scope s.heap.objs.size ((Wh.meth c "__init__").ad K) cdv)) → DSs (cxOf (L2.CX P w) P w K mg base N d.qual d.scope ((Wh.meth c "__init__").ad K) cdv A outer s H E) B d.body t) :
    FnMB P w K mg base T d c (k + 1) ps (dInit c N.length t) := by
  obtain ⟨fd, F⟩ := Z.fd i h hc
  rw [hat] at F
  exact ⟨fd, Z.g j hg, Z.mkr c (List.mem_of_getElem? hm), F, fnI_ok F S hN hbody⟩
theorem FnMB.fnM {k : Nat} {ps : List Str} {wp : SpI} {c : Str} (G : FnMB P w K mg base T d c k ps wp) (hb : BindsD d ps) : FnM P w K mg base T c k ps wp := by
  obtain ⟨fd, hg, hm, F, g⟩ := G
  exact ⟨_, fd, hg, hm, FunD.bindsA F hb, g⟩
abbrev BindsMK (d : FnA) (ps : List Str) (n : Nat) (ks : List Str) (perm : List Nat) : Prop := ∀ (kV doc pm : Value) (an : Option Addr) (cdv ct : Value) (v : Value) (us ws : List Value), us.length = n → ws.length = ks.length → bindArgs (PySem.W.fnOf d.name d.qual d.params d.body d.scope .none kV doc pm an cdv ct) ⟨v :: us, ks.zip ws⟩ = pure (ps.zip (v :: pick perm (us ++ ws)))
theorem FnMB.fnMK {k n : Nat} {ps ks : List Str} {perm : List Nat} {wp : SpI} {c : Str} (G : FnMB P w K mg base T d c k ps wp) (hb : BindsMK d ps n ks perm) : FnMK P w K mg base T c k ps wp n ks perm := by
  obtain ⟨fd, hg, hm, F, g⟩ := G
  refine ⟨_, fd, hg, hm, fun s v us ws h1 h2 => ?_, g⟩
  obtain ⟨oc, od, dV, kV, doc, pm, an, cdv, ct, osl, rfl, lk, hcd, hD, hK⟩ := F.ex
  rcases hD with ⟨_, rfl⟩ | ⟨e, _⟩
  · exact .of_eq (hb kV doc pm an cdv ct v us ws h1 h2)
  · exact absurd rfl e
theorem ds_raiseE {X : Cx} {B : Base} {b : SuB} {x : Str} {e : Expr} {td : TDX} {p pos pos2 : Pos} (S : ∃ f fd, SuK X.prog X.K b (He.ga X.K x) f fd) (hc : X.calm = true) (hr : Rm 1 X.A) (mgS : X.mg "super" = none) (hg : Gl X x) (hm : X.mg x = some (.ref (He.ga X.K x))) (he : DE X B e td) (hdb : (x == ("__debug__" : Str)) = false := by decide) (hs : starEach [e] X.env = (false, eval e X.env) :: starEach [] X.env := by rfl) :
    DS X B (.Raise (some (.Call (.Name x p) [e] [] pos)) none pos2) (dRaise x b.fld td) := by
  obtain ⟨f, fd, S⟩ := S
  exact ds_raise (k := 0) S hc hr mgS hg hm he hdb hs
/-- the lambda-making defs' facts -/
structure Zl (C : LawC) (tfs : List (Wh × Str)) (ex : Str) (cs : List Str) (K : PySem.W.Frag) (mg : Str → Option Value) (base : Heap) (T : List (Addr × Str)) : Prop extends Zk C K mg where
  tb : ∀ q ∈ tfs, LamX.TabB base mg (cTY K q.1).1 (cTY K q.1).2
  tm : ∀ q ∈ tfs, ((cTY K q.1).2, q.2) ∈ T
  tu : ∀ q ∈ tfs, ∀ p ∈ T, p.1 = (cTY K q.1).2 → p.2 = q.2
  exm : ∀ z ∈ cs, PySem.W.exmOne K (.ref (He.ga K z)) (.ref (He.ga K ex)) = some true
  sys : (K.lookup sysModules).isSome = true
end
end DL

namespace DL
open PySem PySem.Spec L2 He
open PyProof.Rows hiding St
/-! ### the head's facts, law by law -/
def atB : ((Str × Str) × Atk) → PySem.W.Frag → Bool
  | ((x, f), .fld), K => fldB x f K
  | ((x, f), .exc), K => xfldB x f K
  | ((x, f), .prop g), K => fldB x g K && propB x f K
def tabsB (tfs : List (Wh × Str)) (K : PySem.W.Frag) : Bool := tfs.all fun q => tfs.all fun r => !decide ((cTY K r.1).2 = (cTY K q.1).2) || decide (r.2 = q.2)
def chkOf (C : LawC) (tfs : List (Wh × Str)) (ex : Str) (cs : List Str) : List (PySem.W.Frag → Bool) :=
  [fun K => C.glos.all fun x => (Fa.glo x).ok K, fun K => C.frees.all fun x => (Fa.free x).ok K, fun K => C.nums.all fun p => (Fa.int p.1 p.2).ok K, isaB C.isas, fun K => C.tab.all fun e => atB e K, fun K => C.mks.all fun x => (Fa.mkr x).ok K,
    fun K => cs.all fun z => (Fa.exm z ex true).ok K, tabsB tfs, fun K => (K.lookup sysModules).isSome]
theorem all_ok {α : Type} {p : α → Bool} {l : List α} (h : l.all p = true) : ∀ x ∈ l, p x = true := List.all_eq_true.mp h
theorem atOk_of {K : PySem.W.Frag} {tab : AtTab} (h : ∀ e ∈ tab, atB e K = true) (get : ∀ x f g, ((x, f), Atk.prop g) ∈ tab → GetK K (ga K x) f g) : AtOk K tab := ⟨fun e he => by
  have z := h e he
  obtain ⟨⟨x, f⟩, k⟩ := e
  cases k with
  | fld =>
    obtain ⟨z1, z2⟩ := He.ba z
    exact ⟨cls_ok z1, noat_ok z2⟩
  | exc =>
    obtain ⟨z1, z2⟩ := He.ba z
    exact ⟨xfB_ok z1, eqO_ok z2⟩
  | prop g =>
    obtain ⟨z1, _⟩ := He.ba z
    obtain ⟨z1, z2⟩ := He.ba z1
    exact ⟨cls_ok z1, noat_ok z2, get x f g he⟩⟩
theorem prop_ok {K : PySem.W.Frag} {tab : AtTab} (h : ∀ e ∈ tab, atB e K = true) {x f g : Str} (hm : ((x, f), Atk.prop g) ∈ tab) : propB x f K = true := (He.ba (h _ hm)).2
theorem zl_of {C : LawC} {tfs : List (Wh × Str)} {ex : Str} {cs : List Str} {more : List (PySem.W.Frag → Bool)} {K : PySem.W.Frag} {mg : Str → Option Value} {base h : Heap} (X : K.In h) (G : h.Ns mainGlobals mg) (S : SaysY C.fns (tfs.map (·.1)) (chkOf C tfs ex cs ++ more) h K)
    (ha : AtOk K C.tab) (tb : ∀ p ∈ tfs.map (fun q => cTY K q.1), LamX.TabB base mg p.1 p.2) : Zl C tfs ex cs K mg base (tfs.map fun q => ((cTY K q.1).2, q.2)) where
  fn := S.fns
  glo := fun x hx => glo_ok X G (all_ok (S.chk (fun K => C.glos.all fun x => (Fa.glo x).ok K) (by simp [chkOf])) x hx)
  free := fun x hx => free_ok X G (all_ok (S.chk (fun K => C.frees.all fun x => (Fa.free x).ok K) (by simp [chkOf])) x hx)
  num := fun p hp => int_ok X G (all_ok (S.chk (fun K => C.nums.all fun p => (Fa.int p.1 p.2).ok K) (by simp [chkOf])) p hp)
  isa := isaB_ok (S.chk (isaB C.isas) (by simp [chkOf]))
  ats := ha
  sys := S.chk (fun K => (K.lookup sysModules).isSome) (by simp [chkOf])
  mkr := fun x hx => mkr_ok (all_ok (S.chk (fun K => C.mks.all fun x => (Fa.mkr x).ok K) (by simp [chkOf])) x hx)
  tb := fun q hq => tb _ (List.mem_map.mpr ⟨q, hq, rfl⟩)
  tm := fun q hq => List.mem_map.mpr ⟨q, hq, rfl⟩
  tu := fun q hq p hp e => by
    obtain ⟨r, hr, rfl⟩ := List.mem_map.mp hp
    have z := all_ok (all_ok (S.chk (tabsB tfs) (by simp [chkOf])) q hq) r hr
    simp only [Bool.or_eq_true, Bool.not_eq_true', decide_eq_false_iff_not, decide_eq_true_eq] at z
    exact z.resolve_left fun n => n e
  exm := fun z hz => exm_ok (all_ok (S.chk (fun K => cs.all fun z => (Fa.exm z ex true).ok K) (by simp [chkOf])) z hz)
end DL

/-! What is drawn, told over data: shared by all laws. -/
namespace DL
open PySem PySem.Spec L2
open PyProof.Rows hiding St
theorem eqv_int (a b : Int) : PyData.eqv (.int a) (.int b) = decide (a = b) := by
  first | rfl | simp [PyData.eqv]
theorem q_eq {a b : Int} {P : D → Prop} (h : P (.bl (decide (a = b)))) : eqD (.int a) (.int b) P := ⟨_, _, rfl, rfl, rfl, rfl, by rw [eqv_int]; exact h⟩
theorem q_ne {a b : Int} {P : D → Prop} (h : P (.bl (!decide (a = b)))) : neD (.int a) (.int b) P := ⟨_, _, rfl, rfl, rfl, rfl, by rw [eqv_int]; exact h⟩
/-! ### the readings of the draws' defs -/
def tMixed : TDS := (dSeq (dDrwP 0 (dFrz (f2 addF (dDrw 0) (dC (.int 1)))))
    (dSeq (dPar 1 2 (dSh (dCB intD (dCons (dDrw 0) dNil))) (dSh (dC (.int 0))))
    (dSeq (dFor (dSeqI (dLst (dCons (dC (.int 2147483629)) (dCons (dC (.int 2147483587)) (dCons (dC (.int 2147483579)) dNil))))) (gN 3) (dSeq (dSet 4 (d2 modD (dFrz (f2 addF (dFrz (f2 mulF (dVar 1) (dC (.int 69621)))) (d2 fdivD (dVar 3) (dC (.int 7))))) (dVar 3)))
    (dSeq (dFor (dDrwI 0) (gN 5) (dSet 4 (d2 modD (dFrz (f2 addF (dFrz (f2 mulF (dVar 4) (dC (.int 48271)))) (dCB intD (dCons (dVar 5) dNil)))) (dVar 3))))
    (dSet 2 (dFrz (f2 addF (dFrz (f2 mulF (dVar 2) (dC (.int 2147483647)))) (d2 modD (d2 powD (dVar 4) (dC (.int 5))) (dVar 3))))))))
    (dRet (dVar 2)))))
def tTake : TDS := (dSeq (dIfS (dTest (d2 eqD (dDrw 0) (dC (.int 0)))) (dDrwP 0 (dDrwPop 0 (dCall (dBody 6 tMixed) 1 (dCons (dVar 0) dNil)))) dNext)
    (dSeq (dSet 2 (d2 modD (dCB intD (dCons (dDrw 0) dNil)) (dVar 1)))
    (dSeq (dDrwP 0 (d2 fdivD (dCB intD (dCons (dDrw 0) dNil)) (dVar 1)))
    (dRet (dVar 2)))))
def tPick : TDS := (dRet (d2 ixD (dVar 1) (dCall (dBody 3 tTake) 2 (dCons (dVar 0) (dCons (dCB lenD (dCons (dVar 1) dNil)) dNil)))))
def tShuf : TDS := (dSeq (dPar 2 3 (fCB listF (dCons (dVar 1) dNil)) (dLstF dNil))
    (dSeq (dWhile (dBorT (dTest (d2 neD (dVar 2) (dLst dNil)))) (dExpr (dMut 3 "list" mAppend (dCons (dMut 2 "list" mPopAt (dCons (dCall (dBody 3 tTake) 2 (dCons (dVar 0) (dCons (dBor (dCB lenD (dCons (dVar 2) dNil))) dNil))) dNil)) dNil))))
    (dRet (dVar 3))))
abbrev eX (t f : Int) (g b c : Option Sl) : Env := [some (.sh .drw), some (.sh (.int t)), some (.sh (.int f)), g, b, c]
theorem mix_in {rx : D → Prop} {DD : DEnds} {t f g : Int} (hg : 0 < g) (hg2 : g < 2147483648) : ∀ (cs : List Int) (b : Int) (c : Option Sl), (∀ x ∈ cs, 0 ≤ x) → 0 ≤ b → b < g →
    (∀ b' c', 0 ≤ b' → b' < g → DD.nx (eX t f (some (.sh (.int g))) (some (.sh (.int b'))) c')) →
    dForL (gN 5) (dSet 4 (d2 modD (dFrz (f2 addF (dFrz (f2 mulF (dVar 4) (dC (.int 48271)))) (dCB intD (dCons (dVar 5) dNil)))) (dVar 3))) rx DD (cs.map D.int) (eX t f (some (.sh (.int g))) (some (.sh (.int b))) c)
  | [], b, c, _, h0, h1, k => k b c h0 h1
  | x :: cs, b, c, hx, h0, h1, k => by
    refine ⟨.inl ⟨by omega, by omega⟩, hg, ?_⟩
    exact mix_in hg hg2 cs _ _ (fun y hy => hx y (List.mem_cons_of_mem _ hy)) (Int.emod_nonneg _ (by omega)) (Int.emod_lt_of_pos _ hg) k
theorem mix_lap {rx : D → Prop} {DD : DEnds} {t f g : Int} {b c : Option Sl} (hg : 0 < g) (hg2 : g < 2147483648) (hf : 0 ≤ f) (k : ∀ f' b' c', 0 ≤ f' → DD.nx (eX t f' (some (.sh (.int g))) b' c')) :
    (dSeq (dSet 4 (d2 modD (dFrz (f2 addF (dFrz (f2 mulF (dVar 1) (dC (.int 69621)))) (d2 fdivD (dVar 3) (dC (.int 7))))) (dVar 3)))
    (dSeq (dFor (dDrwI 0) (gN 5) (dSet 4 (d2 modD (dFrz (f2 addF (dFrz (f2 mulF (dVar 4) (dC (.int 48271)))) (dCB intD (dCons (dVar 5) dNil)))) (dVar 3))))
    (dSet 2 (dFrz (f2 addF (dFrz (f2 mulF (dVar 2) (dC (.int 2147483647)))) (d2 modD (d2 powD (dVar 4) (dC (.int 5))) (dVar 3))))))) rx DD (eX t f (some (.sh (.int g))) b c) := by
  refine ⟨.inr ⟨by decide, by decide⟩, ⟨by decide, by decide⟩, hg, rfl, fun cs _ hcs => ?_⟩
  refine mix_in (f := f) (t := t) hg hg2 cs _ c hcs (Int.emod_nonneg _ (by omega)) (Int.emod_lt_of_pos _ hg) fun b' c' h0 h1 => ?_
  refine ⟨.inr ⟨by decide, by decide⟩, ⟨by decide, by decide, by omega⟩, hg, ?_⟩
  refine k _ _ _ ?_
  have : 0 ≤ b' ^ (5 : Int).toNat % g := Int.emod_nonneg _ (by omega)
  have : 0 ≤ f * 2147483647 := Int.mul_nonneg hf (by decide)
  show 0 ≤ f * 2147483647 + b' ^ (5 : Int).toNat % g
  omega
theorem p_mixed {P E : D → Prop} (h : ∀ t : Int, 0 ≤ t → P (.int t)) : dBody 6 tMixed [.drw] P E := by
  refine ⟨rfl, fun t ht => ⟨rfl, t + 1, rfl, by omega, ⟨rfl, fun u hu => ?_⟩⟩⟩
  refine ⟨by decide, ?_⟩
  refine mix_lap (t := u) (by decide) (by decide) (Int.le_refl 0) fun f1 b1 c1 h1 => ?_
  refine mix_lap (t := u) (by decide) (by decide) h1 fun f2 b2 c2 h2 => ?_
  exact mix_lap (t := u) (by decide) (by decide) h2 fun f3 b3 c3 h3 => h f3 h3
theorem p_take {n : Int} {P E : D → Prop} (h0 : 0 < n) (h1 : n < 1073741824) (h : ∀ r : Int, 0 ≤ r → r < n → P (.int r)) : dBody 3 tTake [.drw, .int n] P E := by
  have fin : ∀ rx : D → Prop, (dSeq (dSet 2 (d2 modD (dCB intD (dCons (dDrw 0) dNil)) (dVar 1)))
    (dSeq (dDrwP 0 (d2 fdivD (dCB intD (dCons (dDrw 0) dNil)) (dVar 1)))
    (dRet (dVar 2)))) rx { nx := fun _ => P .non, rt := P } [some (.sh .drw), some (.sh (.int n)), none] := fun rx =>
    ⟨rfl, fun t ht => ⟨h0, rfl, fun u hu => ⟨⟨h0, h1⟩, rfl, u / n, rfl, Int.ediv_nonneg hu (by omega), h _ (Int.emod_nonneg _ (by omega)) (Int.emod_lt_of_pos _ h0)⟩⟩⟩
  refine ⟨rfl, fun t ht => ?_⟩
  simp only [dC]
  refine q_eq ?_
  by_cases e : t = 0
  · rw [decide_eq_true e]
    refine iteT ⟨rfl, fun u hu => ⟨rfl, u, rfl, hu, fin _⟩, rfl, p_mixed fun u hu => ⟨rfl, u, rfl, hu, fin _⟩⟩
  · rw [decide_eq_false e]
    exact iteF (fin _)
theorem atI_some {α : Type} {l : List α} {i : Int} (h0 : 0 ≤ i) (h1 : i < l.length) : ∃ x, atI l i = some x ∧ x ∈ l := by
  have e : ixN l.length i = some i.toNat := by
    unfold ixN
    rw [if_pos h0, if_pos h1]
  have hl : i.toNat < l.length := by omega
  refine ⟨l[i.toNat], ?_, List.getElem_mem hl⟩
  unfold atI
  rw [e]
  exact List.getElem?_eq_getElem hl
theorem p_pick {l : List D} {d : D} {P E : D → Prop} (hd : d = .lst l ∨ d = .tup l) (h0 : 0 < l.length) (h1 : l.length < 1073741824) (h : ∀ x ∈ l, P x) : dBody 3 tPick [.drw, d] P E := by
  rcases hd with rfl | rfl
  · refine ⟨rfl, p_take (by omega) (by omega) fun r r0 r1 => ?_⟩
    obtain ⟨x, e, m⟩ := atI_some (l := l) r0 r1
    exact ⟨x, e, h x m⟩
  · refine ⟨rfl, p_take (by omega) (by omega) fun r r0 r1 => ?_⟩
    obtain ⟨x, e, m⟩ := atI_some (l := l) r0 r1
    exact ⟨x, e, h x m⟩
/-- a for loop by what holds behind the items taken so far -/
theorem q_for {α : Type} {it : α → D} {tg : TDG} {tb : TDS} {rx : D → Prop} {DE : DEnds} {all : List α} (I : List α → Env → Prop)
    (step : ∀ done a rest, all = done ++ a :: rest → ∀ δ, I done δ → ∀ J : Env → Prop, (∀ δ', I (done ++ [a]) δ' → J δ') → tg (it a) δ fun δ1 => tb rx { nx := J, ct := J, bk := DE.nx, rt := DE.rt } δ1)
    (fin : ∀ δ, I all δ → DE.nx δ) : ∀ (rest done : List α), all = done ++ rest → ∀ δ, I done δ → dForL tg tb rx DE (rest.map it) δ
  | [], done, e, δ, h => by
    rw [List.append_nil] at e
    subst e
    exact fin δ h
  | a :: rest, done, e, δ, h => step done a rest e δ h _ fun δ' h' => q_for I step fin rest (done ++ [a]) (by rw [e]; simp) δ' h'
theorem q_forL {tg : TDG} {tb : TDS} {rx : D → Prop} {DE : DEnds} (I : Env → Prop) (fin : ∀ δ, I δ → DE.nx δ) : ∀ (l : List D) (step : ∀ d ∈ l, ∀ δ, I δ → ∀ J : Env → Prop, (∀ δ', I δ' → J δ') → tg d δ fun δ1 => tb rx { nx := J, ct := J, bk := DE.nx, rt := DE.rt } δ1) (δ : Env), I δ → dForL tg tb rx DE l δ
  | [], _, δ, h => fin δ h
  | d :: l, step, δ, h => step d List.mem_cons_self δ h _ fun δ' h' => q_forL I fin l (fun x hx => step x (List.mem_cons_of_mem _ hx)) δ' h'
theorem range_at {n : Nat} {done rest : List Nat} {a : Nat} (e : List.range n = done ++ a :: rest) : a = done.length ∧ a < n := by
  have h1 : (List.range n)[done.length]? = some a := by rw [e]; simp
  have h2 : done.length < n := by
    have := congrArg List.length e
    simp at this; omega
  rw [List.getElem?_range h2] at h1
  have : done.length = a := by simpa using h1
  omega
end DL

/-! Plain data: lists of it, compared; what is shuffled. -/
namespace DL
open PySem PySem.Spec L2
open PyProof.Rows hiding St
/-- plain data of small depth -/
def Pd (x : D) : Prop := ∃ p, toPD x = some p ∧ p.canLay0 = true ∧ p.depth ≤ 50
theorem Pd.int (i : Int) : Pd (.int i) := ⟨_, rfl, rfl, Nat.zero_le _⟩
theorem pds_of : ∀ {l : List D} {n : Nat}, (∀ x ∈ l, ∃ p, toPD x = some p ∧ p.canLay0 = true ∧ p.depth ≤ n) → ∃ ps, toPDs l = some ps ∧ PyData.canLayAll0 ps = true ∧ PyData.depthAll ps ≤ n ∧ ps.length = l.length
  | [], n, _ => ⟨[], rfl, rfl, Nat.zero_le _, rfl⟩
  | x :: l, n, h => by
    obtain ⟨p, e, c, d⟩ := h x List.mem_cons_self
    obtain ⟨ps, e2, c2, d2, l2⟩ := pds_of fun y hy => h y (List.mem_cons_of_mem _ hy)
    refine ⟨p :: ps, ?_, ?_, ?_, by simp [l2]⟩
    · show (match toPD x, toPDs l with
        | some p, some ps => some (p :: ps)
        | _, _ => none) = _
      rw [e, e2]
    · show (p.canLay0 && PyData.canLayAll0 ps) = true
      rw [c, c2]; rfl
    · show max p.depth (PyData.depthAll ps) ≤ n
      exact Nat.max_le.mpr ⟨d, d2⟩
theorem shaped_of {ps : List PyData} (c : PyData.canLayAll0 ps = true) (d : PyData.depthAll ps ≤ 60) : SeqAt.shaped (.list ps) = true := by
  show (PyData.canLayAll0 ps && decide (PyData.depthAll ps + 1 ≤ 64)) = true
  rw [c, decide_eq_true (by omega)]; rfl
theorem q_neL {l : List D} {P : D → Prop} (hl : ∀ x ∈ l, Pd x) (h : P (.bl (!decide (l = [])))) : neD (.lst l) (.lst []) P := by
  obtain ⟨ps, e, c, d, n⟩ := pds_of hl
  refine ⟨.list ps, .list [], ?_, rfl, shaped_of c (by omega), rfl, ?_⟩
  · show (toPDs l).map _ = _
    rw [e]; rfl
  cases l with
  | nil =>
    cases e
    exact h
  | cons a l =>
    cases ps with
    | nil => cases n
    | cons p ps => exact h
abbrev eS (l0 : D) (w f : List D) : Env := [some (.sh .drw), some (.sh l0), some (.ol w), some (.ol f)]
theorem perm_take1 {α : Type} : ∀ {w : List α} {k : Nat} {d : α}, w[k]? = some d → (d :: w.eraseIdx k).Perm w
  | [], k, d, h => by simp at h
  | a :: w, 0, d, h => by
    simp at h; subst h
    exact List.Perm.refl _
  | a :: w, k + 1, d, h => by
    have h' : w[k]? = some d := by simpa using h
    exact (List.Perm.swap a d _).trans ((perm_take1 h').cons a)
theorem perm_pop {α : Type} {f w : List α} {k : Nat} {d : α} (h : w[k]? = some d) : ((f ++ [d]) ++ w.eraseIdx k).Perm (f ++ w) := by
  rw [List.append_assoc]
  exact List.Perm.append_left f (perm_take1 h)
theorem shuf_loop {rx : D → Prop} {DD : DEnds} {l0 : D} {m0 : List D} (hm : m0.length < 900) (hp : ∀ x ∈ m0, Pd x) (k : ∀ f, f.Perm m0 → DD.nx (eS l0 [] f)) : ∀ (m : Nat) (w f : List D), (f ++ w).Perm m0 → w.length < m →
    dWhileN (dBorT (dTest (d2 neD (dVar 2) (dLst dNil)))) (dExpr (dMut 3 "list" mAppend (dCons (dMut 2 "list" mPopAt (dCons (dCall (dBody 3 tTake) 2 (dCons (dVar 0) (dCons (dBor (dCB lenD (dCons (dVar 2) dNil))) dNil))) dNil)) dNil))) rx DD m (eS l0 w f)
  | 0, w, f, _, h => absurd h (Nat.not_lt_zero _)
  | m + 1, w, f, pm, hw => by
    have hlen : f.length + w.length = m0.length := by rw [← List.length_append]; exact pm.length_eq
    refine ⟨Nat.zero_le _, q_neL (l := w) (fun x hx => hp x (pm.mem_iff.mp (List.mem_append_right _ hx))) ?_⟩
    cases w with
    | nil =>
      rw [List.append_nil] at pm
      exact ⟨rfl, iteF (k f pm)⟩
    | cons a w =>
      refine ⟨rfl, iteT ⟨rfl, rfl, rfl, rfl, rfl, p_take (by simp) (by simp only [List.length_cons] at hlen ⊢; omega) fun r r0 r1 => ⟨rfl, ⟨by omega, Int.lt_of_lt_of_le r1 (Int.le_trans (show ((a :: w).length : Int) ≤ 900 by omega) (by decide))⟩, r.toNat, ?_⟩⟩⟩
      have hr : r.toNat < (a :: w).length := by omega
      refine ⟨(a :: w)[r.toNat], ?_, List.getElem?_eq_getElem hr, rfl, Nat.lt_of_lt_of_le (show f.length < 1000 by omega) (by decide), ?_⟩
      · unfold seqIndex?
        simp only
        rw [if_neg (show ¬ r < 0 by omega), if_pos (by rw [decide_eq_true r0, decide_eq_true r1]; rfl)]
      · refine shuf_loop hm hp k m _ _ ((perm_pop (List.getElem?_eq_getElem hr)).trans pm) ?_
        rw [List.length_eraseIdx, if_pos hr]
        simp only [List.length_cons] at hw ⊢
        omega
theorem p_shuf {l : List D} {P E : D → Prop} (hl : l.length < 900) (hp : ∀ x ∈ l, Pd x) (h : ∀ f : List D, f.Perm l → P (.lst f)) : dBody 4 tShuf [.drw, .lst l] P E := by
  refine ⟨Nat.zero_le _, l.length + 1, ?_⟩
  exact shuf_loop (l0 := .lst l) (m0 := l) hl hp (fun f pm => h f pm) _ l [] (List.Perm.refl _) (Nat.lt_succ_self _)
end DL

/-! Texts of plain data: their signs, their sizes. -/
namespace DL
open PySem PySem.Spec L2
open PyProof.Rows hiding St
mutual
/-- data without texts and dicts -/
def noS : PyData → Bool
  | .none => true
  | .bool _ => true
  | .int _ => true
  | .str _ => false
  | .list xs => noSs xs
  | .tuple xs => noSs xs
  | .dict _ => false
def noSs : List PyData → Bool
  | [] => true
  | x :: xs => noS x && noSs xs
end
def okT (x : Str) : Prop := ∀ c ∈ x.cps.toList, c < 1114112
theorem okT_app {a b : Str} (ha : okT a) (hb : okT b) : okT (a ++ b) := fun c hc => by
  rcases mem_cps_append.mp hc with h | h
  · exact ha c h
  · exact hb c h
theorem okT_join {sep : Str} {ts : List Str} (hs : okT sep) (ht : ∀ t ∈ ts, okT t) : okT (Str.join sep ts) := fun c hc => by
  rcases (mem_join sep c ts).mp hc with ⟨t, h1, h2⟩ | ⟨_, h⟩
  · exact ht t h1 c h2
  · exact hs c h
theorem okT_from : ∀ (ts : List Str) (k : Nat) (acc : Str), okT acc → (∀ t ∈ ts, okT t) → okT (textFrom k acc ts)
  | [], k, acc, ha, _ => ha
  | t :: ts, k, acc, ha, h => by
    refine okT_from ts (k + 1) _ (okT_app (okT_app ha ?_) (h t List.mem_cons_self)) fun u hu => h u (List.mem_cons_of_mem _ hu)
    split
    · exact (by decide : ∀ c ∈ ((", " : String) : Str).cps.toList, c < 1114112)
    · exact (by decide : ∀ c ∈ (("" : String) : Str).cps.toList, c < 1114112)
theorem okT_listText {ts : List Str} (h : ∀ t ∈ ts, okT t) : okT (listText ts) :=
  okT_app (okT_from ts 0 _ (by decide : ∀ c ∈ (("[" : String) : Str).cps.toList, c < 1114112) h) (by decide : ∀ c ∈ (("]" : String) : Str).cps.toList, c < 1114112)
theorem okT_tupleText {ts : List Str} (h : ∀ t ∈ ts, okT t) : okT (tupleText ts) := by
  unfold tupleText
  refine okT_app (okT_app (by decide : ∀ c ∈ (("(" : String) : Str).cps.toList, c < 1114112) (okT_join (by decide : ∀ c ∈ ((", " : String) : Str).cps.toList, c < 1114112) h)) ?_
  split
  · exact (by decide : ∀ c ∈ ((",)" : String) : Str).cps.toList, c < 1114112)
  · exact (by decide : ∀ c ∈ ((")" : String) : Str).cps.toList, c < 1114112)
theorem okT_int (i : Int) : okT (toString i : String) := fun c hc => by
  have : c ∈ ((toString i).toList.map Char.toNat) := by
    rw [← signs_ofString]; exact hc
  obtain ⟨x, hx, rfl⟩ := List.mem_map.mp this
  have := int_ascii i x hx
  omega
mutual
theorem okT_shown : ∀ p : PyData, noS p = true → okT p.shown
  | .none, _ => by
    simp only [PyData.shown]
    exact (by decide : ∀ c ∈ (("None" : String) : Str).cps.toList, c < 1114112)
  | .bool true, _ => by
    simp only [PyData.shown, if_true]
    exact (by decide : ∀ c ∈ (("True" : String) : Str).cps.toList, c < 1114112)
  | .bool false, _ => by
    simp only [PyData.shown]
    exact (by decide : ∀ c ∈ (("False" : String) : Str).cps.toList, c < 1114112)
  | .int i, _ => by
    simp only [PyData.shown]
    exact okT_int i
  | .str _, h => by cases h
  | .dict _, h => by cases h
  | .list xs, h => by
    simp only [PyData.shown]
    exact okT_listText (okT_shownAll xs (by simpa [noS] using h))
  | .tuple xs, h => by
    simp only [PyData.shown]
    exact okT_tupleText (okT_shownAll xs (by simpa [noS] using h))
theorem okT_shownAll : ∀ xs : List PyData, noSs xs = true → ∀ t ∈ PyData.shownAll xs, okT t
  | [], _, t, ht => nomatch ht
  | x :: xs, h, t, ht => by
    have h' : noS x = true ∧ noSs xs = true := by simpa [noSs] using h
    simp only [PyData.shownAll, List.mem_cons] at ht
    rcases ht with rfl | ht
    · exact okT_shown x h'.1
    · exact okT_shownAll xs h'.2 t ht
end
theorem strOk_of {x : Str} (h : okT x) : PyData.strOk x = true := by
  unfold PyData.strOk
  rw [Array.all_eq_true_iff_forall_mem]
  intro c hc
  exact decide_eq_true (h c (by simpa using hc))
theorem shaped_str {x : Str} (h : okT x) : SeqAt.shaped (.str x) = true := by
  show (PyData.strOk x && decide (0 ≤ 64)) = true
  rw [strOk_of h]; rfl
/-- repr of plain data without texts -/
structure Rp (d : D) (p : PyData) : Prop where
  pd : toPD d = some p
  sh : p.showable = true
  dp : p.depth ≤ 60
  lv : p.leavesShort 13 = true
  wt : p.weight ≤ 2 ^ 20
  ns : noS p = true
theorem q_repr {d : D} {p : PyData} {P : D → Prop} (h : Rp d p) (k : P (.str p.shown)) : reprD [d] P :=
  ⟨p, h.pd, h.sh, h.dp, PyData.shown_fits (by decide) (by decide) h.lv h.wt, k⟩
theorem eqv_str_refl (x : Str) : PyData.eqv (.str x) (.str x) = true := by simp [PyData.eqv]
/-- two equal reprs -/
theorem q_neS {x : Str} {P : D → Prop} (h : okT x) (k : P (.bl false)) : neD (.str x) (.str x) P :=
  ⟨_, _, rfl, rfl, shaped_str h, shaped_str h, by rw [eqv_str_refl]; exact k⟩
theorem Rp.ok {d : D} {p : PyData} (h : Rp d p) : okT p.shown := okT_shown p h.ns
/-! ### small data: lists of pairs of small numbers and the like -/
mutual
/-- only numbers below 10 ^ 12 -/
def sm : PyData → Bool
  | .none => true
  | .bool _ => true
  | .int i => decide (i.natAbs < 10 ^ 12)
  | .list xs => sms xs
  | .tuple xs => sms xs
  | _ => false
def sms : List PyData → Bool
  | [] => true
  | x :: xs => sm x && sms xs
/-- how many items, all in all -/
def cnt1 : PyData → Nat
  | .list xs => cnts xs
  | .tuple xs => cnts xs
  | _ => 0
def cnts : List PyData → Nat
  | [] => 0
  | x :: xs => cnt1 x + 1 + cnts xs
end
theorem log2_small {n : Nat} (h : n < 10 ^ 12) : n.log2 < 40 := by
  by_cases z : n = 0
  · subst z; decide
  · exact (Nat.log2_lt z).mpr (Nat.lt_trans h (by decide))
mutual
theorem sm_facts : ∀ p : PyData, sm p = true → p.showable = true ∧ p.leavesShort 13 = true ∧ p.weight ≤ 41 + 42 * cnt1 p ∧ noS p = true
  | .none, _ => ⟨by simp [PyData.showable], by simp [PyData.leavesShort], by simp [PyData.weight], rfl⟩
  | .bool _, _ => ⟨by simp [PyData.showable], by simp [PyData.leavesShort], by simp [PyData.weight], rfl⟩
  | .int i, h => by
    have h : i.natAbs < 10 ^ 12 := by simpa [sm] using h
    have l := log2_small h
    refine ⟨?_, ?_, ?_, rfl⟩
    · simp only [PyData.showable, decide_eq_true_eq]; omega
    · simp only [PyData.leavesShort, decide_eq_true_eq]; exact PyData.shown_int_le h
    · simp only [PyData.weight]; split <;> omega
  | .str _, h => by cases h
  | .dict _, h => by cases h
  | .list xs, h => by
    obtain ⟨h1, h2, h3, h4⟩ := sms_facts xs (by simpa [sm] using h)
    refine ⟨by simpa only [PyData.showable] using h1, by simpa only [PyData.leavesShort] using h2, ?_, by simpa only [noS] using h4⟩
    simp only [PyData.weight, cnt1]; omega
  | .tuple xs, h => by
    obtain ⟨h1, h2, h3, h4⟩ := sms_facts xs (by simpa [sm] using h)
    refine ⟨by simpa only [PyData.showable] using h1, by simpa only [PyData.leavesShort] using h2, ?_, by simpa only [noS] using h4⟩
    simp only [PyData.weight, cnt1]; omega
theorem sms_facts : ∀ xs : List PyData, sms xs = true → PyData.showableAll xs = true ∧ PyData.leavesShortAll 13 xs = true ∧ PyData.weightAll xs ≤ 42 * cnts xs ∧ noSs xs = true
  | [], _ => ⟨rfl, rfl, by simp [PyData.weightAll], rfl⟩
  | x :: xs, h => by
    have h' : sm x = true ∧ sms xs = true := by simpa [sms] using h
    obtain ⟨a1, a2, a3, a4⟩ := sm_facts x h'.1
    obtain ⟨b1, b2, b3, b4⟩ := sms_facts xs h'.2
    refine ⟨by simp only [PyData.showableAll, a1, b1, Bool.and_self], by simp only [PyData.leavesShortAll, a2, b2, Bool.and_self], ?_, by simp only [noSs, a4, b4, Bool.and_self]⟩
    simp only [PyData.weightAll, cnts]; omega
end
theorem rp_sm {d : D} {p : PyData} (e : toPD d = some p) (h : sm p = true) (hc : cnt1 p ≤ 20000) (hd : p.depth ≤ 60) : Rp d p := by
  obtain ⟨a1, a2, a3, a4⟩ := sm_facts p h
  exact ⟨e, a1, hd, a2, Nat.le_trans a3 (Nat.le_trans (show 41 + 42 * cnt1 p ≤ 41 + 42 * 20000 by omega) (by decide)), a4⟩
end DL

/-! Exceptions made by name: C(p = v). -/
namespace DL
open PySem PySem.HandSPX PySem.W PySem.Builtin Builtin.ObjectAttr
section
variable {M : Model} {A : Around} {E : Value → Shared → Prop} {h : Heap} {g : Array GenState} {d : Drawn} {t : Nat} {os : OsState}
variable {nm q : Str} {C N : Addr} {bs bm mB : List Value} {hdct : Bool} {sn : List Str} {sub : List Value} {ab : Bool} {col : Option Bool} {dd : Option Addr} {k0 k1 k2 k3 k5 : Option Value} {BB idN idI : String} {kx : Str} {kv : Value}
theorem kwx_check (F : ExcBaseFacts BB idN idI mB) (same : ∀ X : String, bm.contains (.type X) = mB.contains (.type X)) {Q : Unit → Shared → Prop}
    (cl : h.get? C = some (excClassObj nm q C N bs bm hdct sn sub ab col dd k0 k1 k2 k3 k5 idN)) (fin : Q () ⟨h, g, d, t, os⟩) : wpAny M A (checkBuiltinCall idN ⟨[.ref C], [(kx, kv)]⟩) Q E ⟨h, g, d, t, os⟩ := by
  have inB : (Value.ref C :: bm).contains (.type BB) = true := by rw [List.contains_cons, same, F.hasB, Bool.or_true]
  have star := F.noStar
  simp only [checkBuiltinCall, F.newKind, F.newSplit, F.newRow]
  repeat (first | refine wpAny_loadPart_at cl ?_ | (refine wpAny_isSubtype_exc cl ?_; rw [inB]) | refine wpAny_staticBase_exc cl ?_ | refine wpAny_madeBy_exc cl ?_ | simp only [bne_self_eq_false, Bool.false_eq_true, if_false] | wp_step)
  exact fin
end
section
variable {prog : Program} {w : World} {A : Around} {E : Value → Shared → Prop} {R : Result → Shared → Prop} {h : Heap} {g : Array GenState} {d : Drawn} {t : Nat} {os : OsState}
variable {nm q : Str} {C N : Addr} {bs bm mB : List Value} {hdct : Bool} {sn : List Str} {sub : List Value} {ab : Bool} {col : Option Bool} {dd : Option Addr} {k0 k1 k2 k3 k5 : Option Value} {BB idN idI : String} {kx : Str} {kv : Value}
theorem kwx_new (F : ExcBaseFacts BB idN idI mB) (same : ∀ X : String, bm.contains (.type X) = mB.contains (.type X))
    (cl : h.get? C = some (excClassObj nm q C N bs bm hdct sn sub ab col dd k0 k1 k2 k3 k5 idN)) (fin : R (.ok (.ret (.ref (h.objs.size + 1)))) ⟨(h.push (W.kdv_tup [])).push (excO C h.objs.size), g, d, t, os⟩) :
    codeAny (model prog w) A (.builtin idN ⟨[.ref C], [(kx, kv)]⟩) R ⟨h, g, d, t, os⟩ := by
  have en := F.ends
  have inB : (Value.ref C :: bm).contains (.type BB) = true := by rw [List.contains_cons, same, F.hasB, Bool.or_true]
  have noA : (Value.ref C :: bm).contains (.type "AttributeError") = false := by rw [List.contains_cons, same, F.noAttr]; rfl
  have noN : (Value.ref C :: bm).contains (.type "NameError") = false := by rw [List.contains_cons, same, F.noName]; rfl
  refine codeAny_builtinAt F.entry ?_
  unfold Builtin.«BaseException.__new__»
  refine wpAt_bind ?_
  show wpAt _ _ _ (stack >>= _) _ _ _
  refine wpAt_bind (wpAt_stack fun p0 below => wpAt_of_wpAny ?_)
  wp_walk
  refine wpAt_of_wpAny ?_
  rw [F.owner]
  repeat (first | with_reducible refine wpAny_madeHere_exc F.canon cl ?_ | with_reducible refine wpAny_loadPart_at cl ?_ | (with_reducible refine wpAny_isSubtype_exc cl ?_; first | rw [inB] | rw [noA] | rw [noN]) | wp_step)
  show R _ _
  rw [Heap.size_push]
  exact fin
theorem kwx_type (F : ExcBaseFacts BB idN idI mB) (same : ∀ X : String, bm.contains (.type X) = mB.contains (.type X)) {fI : Addr} {Q : Fin → Shared → Prop}
    (cl : h.get? C = some (excClassObj nm q C N bs bm hdct sn sub ab col dd k0 k1 k2 k3 k5 idN))
    (li : W.Looks (model prog w) h (typeLookup (.ref C) "__init__") (some (.ref fI))) (lb : ∀ self, W.Looks (model prog w) h (bindSpecial (.ref fI) self) (.ref fI, [self]))
    (fin : codeAny (model prog w) A (.call (.ref fI) ⟨[.ref (h.objs.size + 1)], [(kx, kv)]⟩)
      (fun r s' => match r with | .ok (.ret v) => v = .none ∧ Q (.done (.ret (.ref (h.objs.size + 1)))) s' | .ok _ => False | .error e => E e s')
      ⟨(h.push (W.kdv_tup [])).push (excO C h.objs.size), g, d, t, os⟩) :
    wpAny (model prog w) A (Builtin.«type.__call__» ⟨[.ref C], [(kx, kv)]⟩) Q E ⟨h, g, d, t, os⟩ := by
  repeat (first | with_reducible refine wpAny_loadPart_at cl ?_ | with_reducible refine wpAny_madeBy_exc cl ?_ | wp_step)
  refine codeAny_call_builtin_code (Code.quiet_builtin _ F.quiet) (kwx_check F same cl ?_)
  refine kwx_new F same cl ?_
  show wpAny _ _ _ _ _ _
  have up : ∀ b o, h.get? b = some o → ((h.push (W.kdv_tup [])).push (excO C h.objs.size)).get? b = some o := fun b o z => Heap.get?_push_of_some _ (Heap.get?_push_of_some _ z)
  have cl1 := up _ _ cl
  have got : ((h.push (W.kdv_tup [])).push (excO C h.objs.size)).get? (h.objs.size + 1) = some (excO C h.objs.size) := by heap_get
  have own : (Value.ref C :: bm).contains (.ref C) = true := by simp
  have i1 := li.keeps up
  have b1 := (lb (.ref (h.objs.size + 1))).keeps up
  unfold isInstance
  repeat (first | with_reducible refine wpAny_loadPart_at got ?_ | (with_reducible refine wpAny_isSubtype_exc cl1 ?_; rw [own]) | wp_step)
  show wpAny _ _ (typeLookup (.ref C) _) _ _ _
  refine i1.at ?_
  refine wpAny_holding (wpAny_bind (b1.at ?_))
  refine wpAny_bind (wpAny_call (codeAny_mono fin fun r s' z => ?_))
  rcases r with e | (v | _ | _ | _) <;> first | exact z | exact z.elim | skip
  obtain ⟨rfl, z⟩ := z
  first
    | exact wpAny_pure (wpAny_pure z)
    | (wp_walk; exact z)
theorem kwx_checkT {M : Model} {Q : Unit → Shared → Prop} (cl : h.get? C = some (excClassObj nm q C N bs bm hdct sn sub ab col dd k0 k1 k2 k3 k5 idN))
    (fin : Q () ⟨h, g, d, t, os⟩) : wpAny M A (checkBuiltinCall "type.__call__" ⟨[.ref C], [(kx, kv)]⟩) Q E ⟨h, g, d, t, os⟩ := by
  have f3 := tc_sub
  have isT : (⟨h, g, d, t, os⟩ : Shared).TypeIs (.ref C) "type" := ⟨_, cl, rfl⟩
  simp only [checkBuiltinCall, tc_kind, tc_split]
  repeat (any_goals (first | assumption | with_reducible refine wpAny_loadPart_at cl ?_ | with_reducible refine wpAny_onRaise ?_ | with_reducible refine wpAny_map ?_ | wp_step))
theorem kwx_call (F : ExcBaseFacts BB idN idI mB) (same : ∀ X : String, bm.contains (.type X) = mB.contains (.type X)) {fI : Addr}
    (cl : h.get? C = some (excClassObj nm q C N bs bm hdct sn sub ab col dd k0 k1 k2 k3 k5 idN))
    (li : W.Looks (model prog w) h (typeLookup (.ref C) "__init__") (some (.ref fI))) (lb : ∀ self, W.Looks (model prog w) h (bindSpecial (.ref fI) self) (.ref fI, [self]))
    (fin : codeAny (model prog w) (A.under (.builtin "type.__call__" ⟨[.ref C], [(kx, kv)]⟩)) (.call (.ref fI) ⟨[.ref (h.objs.size + 1)], [(kx, kv)]⟩) (W.InitBack (h.objs.size + 1) R)
      ⟨(h.push (W.kdv_tup [])).push (excO C h.objs.size), g, d, t, os⟩) :
    codeAny (model prog w) A (.call (.ref C) ⟨[], [(kx, kv)]⟩) R ⟨h, g, d, t, os⟩ := by
  have f1 := tc_lookup
  have f2 := tc_bind (.ref C)
  have isT : (⟨h, g, d, t, os⟩ : Shared).TypeIs (.ref C) "type" := ⟨_, cl, rfl⟩
  refine codeAny_of_tree ?_
  show wpAny _ _ (callAny (.ref C) _) _ _ _
  repeat (any_goals (first | assumption | with_reducible refine wpAny_loadPart_at cl ?_ | wp_step))
  refine ⟨rfl, ?_⟩
  refine codeAny_call_builtin_at (Code.quiet_builtin _ (by decide +kernel)) entry_typeCall (kwx_checkT cl (kwx_type F same cl li lb ?_))
  refine codeAny_mono fin fun r s' z => ?_
  rcases r with e | (v | _ | _ | _) <;> exact z
end
end DL
namespace DL
open PySem PySem.Spec PySem.Calls PySem.W PyProof.Rows
theorem su_initK {P : Program} {w : World} {A : Around} {K : Frag} {b : SuB} {C f e t0 : Addr} {fd : FuncData} {u : Value} {mg mb : Str → Option Value} {R : Result → Shared → Prop} {hp : Heap} {g : Array GenState} {d : Drawn} {t : Nat} {os : OsState} (S : SuK P K b C f fd) (bk : ∀ (s : Shared) (u v : Value), BindsTo s fd ⟨[u], [(b.par, v)]⟩ (((["self", b.par] : List Str).zip [u, v])))
    (KX : K.In hp) (ns : hp.Ns mainGlobals mg) (mgS : mg "super" = none) (nb : hp.Ns builtinsNs mb) (bb : mb "super" = bootBuiltins "super") (lim : hp.NoLimit) (hroom : A.depth < recursionLimit) (he : hp.get? e = some (HandSPX.excO C t0)) (nK : ∀ o, K.lookup e ≠ some o)
    (hq : ∀ h' t' dx tA, (∀ a o, a ≠ e → hp.get? a = some o → h'.get? a = some o) → hp.objs.size ≤ dx → dx ≠ e → h'.get? e = some ({ cls := .ref C, dict := some dx, data := .fields #[.ref tA, .none, .none, .none, .bool false, .none] } : Obj) →
      h'.Ns1 dx (fun y => if y = b.fld then some u else none) → R (.ok (.ret .none)) ⟨h', g, d, t', os⟩) :
    codeAny (model P w) A (.call (.ref f) ⟨[.ref e], [(b.par, u)]⟩) R ⟨hp, g, d, t, os⟩ := by
  obtain ⟨name, qual, params, scope, dV, kV, doc, pm, ct, oc, ccl, cl, an, od, cdd, cld, osl, ccs, csl, cc, cda, ar, vs, file, tf, cd, rfl, lk, hcd, hcell, hco, hgen, hk, hks, hkc, hka, hkp, hpar, har, hcode, hvs, hfile, htop, hcel, hC, hmro, hdct, hsubC, hop⟩ := S.ex
  obtain ⟨pl, hev⟩ := S.ev
  have hloc : ∀ y ∈ (["self", b.par] : List Str).zip [Value.ref e, u], scope.names.lookup y.1 = some .local := fun y hy => by
    have hy : y ∈ [(("self" : Str), Value.ref e), (b.par, u)] := hy
    rcases List.mem_cons.mp hy with rfl | hy
    · exact hka
    · rcases List.mem_cons.mp hy with rfl | hy
      · exact hkp
      · cases hy
  refine ks_codeAny_call_defAt (body := b.body) hroom (KX _ _ lk) rfl lim (codeRec_of KX hcd) rfl (bk _ (.ref e) u) hcell hloc (fun h0 hns hk0 => ?_) hco hgen hk
  have m1 : ((["self", b.par] : List Str).zip [Value.ref e, u]).reverse.lookup ("self" : Str) = some (Value.ref e) := by
    show [(b.par, u), (("self" : Str), Value.ref e)].lookup ("self" : Str) = _
    rw [List.lookup_cons, show (("self" : Str) == b.par) = false from beq_eq_false_iff_ne.mpr (Ne.symm S.pne)]
    rfl
  have m2 : ((["self", b.par] : List Str).zip [Value.ref e, u]).reverse.lookup b.par = some u := by
    show [(b.par, u), (("self" : Str), Value.ref e)].lookup b.par = _
    rw [List.lookup_cons, beq_self_eq_true]
  have hsz : hp.objs.size ≤ h0.objs.size := by
    obtain ⟨oL, _, _, hL, _⟩ := hns
    exact Nat.le_of_lt (Heap.lt_size hL)
  exact su_body (KX.keeps hk0) (ns.keeps hk0) mgS (nb.keeps hk0) (bb.trans PyProof.Rows.Boot.«super») (hk0 _ _ he) hns (Nat.ne_of_lt (Heap.lt_size he)) m1 m2 lk rfl hk hks hkc hka hkp hpar har rfl hcode hvs hfile htop rfl hcel hC hmro hdct hsubC hop S.sup S.sub S.exc S.sa S.no hev S.hdb nK
    fun h' t' dx tA k hdx dne hx hn => hq h' t' dx tA (fun a o ne z => k a o ne (hk0 _ _ z)) (Nat.le_trans hsz hdx) dne hx hn
end DL
namespace DL
open PySem PySem.Spec L2
open PyProof.Rows hiding St
section
variable {X : Cx} {pins : List (Addr × Obj)} {σ : L2.St} {H : Hp} {b : SuB} {C f : Addr} {fd : FuncData} {k : Nat}
theorem su_callK {hp : Heap} {g : Array GenState} {d : Drawn} {t : Nat} {os : OsState} {u : Value} {Q : Value → Shared → Prop} {E : Value → Shared → Prop} (S : SuK X.prog X.K b C f fd) (bk : ∀ (s : Shared) (u v : Value), BindsTo s fd ⟨[u], [(b.par, v)]⟩ (((["self", b.par] : List Str).zip [u, v]))) (hr : Room (k + 1) X.A) (mgS : X.mg "super" = none) (I : Inv X pins σ H ⟨hp, g, d, t, os⟩)
    (hq : ∀ h' t' e dx tA, (∀ a o, hp.get? a = some o → h'.get? a = some o) → hp.get? e = none → hp.get? dx = none → dx ≠ e → h'.get? e = some ({ cls := .ref C, dict := some dx, data := .fields #[.ref tA, .none, .none, .none, .bool false, .none] } : Obj) →
      h'.Ns1 dx (fun y => if y = b.fld then some u else none) → Q (.ref e) ⟨h', g, d, t', os⟩) :
    wpAny (model X.prog X.w) X.A (call (.ref C) [] [(b.par, u)]) Q E ⟨hp, g, d, t, os⟩ := by
  obtain ⟨nm, N', qn, bs, bm, hd', sn, sub', ab, col, dd, k0, k1, k2, k3, k5, hCo, hT⟩ := PySem.W.excInit_of I.kIn S.exc
  obtain ⟨mb, hb1, hb2⟩ := I.mod.blt
  have kk : ∀ a o, hp.get? a = some o → ((hp.push (PySem.W.kdv_tup [])).push (PySem.HandSPX.excO C hp.objs.size)).get? a = some o := fun b o e => Heap.get?_push_of_some _ (Heap.get?_push_of_some _ e)
  have hget : ((hp.push (PySem.W.kdv_tup [])).push (PySem.HandSPX.excO C hp.objs.size)).get? (hp.objs.size + 1) = some (PySem.HandSPX.excO C hp.objs.size) := by heap_get
  have KX := I.kIn
  have none_of : ∀ a, hp.objs.size ≤ a → hp.get? a = none := fun a ha => by
    cases z : hp.get? a with
    | none => rfl
    | some o => exact absurd (Heap.lt_size z) (Nat.not_lt.mpr ha)
  have hz : (hp.push (PySem.W.kdv_tup [])).objs.size = hp.objs.size + 1 := Heap.size_push ..
  have hz2 : ((hp.push (PySem.W.kdv_tup [])).push (PySem.HandSPX.excO C hp.objs.size)).objs.size = hp.objs.size + 2 := by rw [Heap.size_push, hz]
  refine wpAny_call (kwx_call PySem.F.excBase_ValueError hT hCo (PySem.W.looks_findIn KX S.ini) (fun self => PySem.W.bind_fn KX self S.tyI) ?_)
  refine su_initK S bk (KX.keeps kk) ((I.mod.glob.keeps I.bk).keeps kk) mgS ((hb1.keeps I.bk).keeps kk) (hb2 _ (by decide)) (I.nolimit.keeps kk) (hr.make C [] [(b.par, u)]).depth hget (fun o z => ?_) fun h' t' dx tA k hdx dne hx hn => ?_
  · have := Heap.lt_size (KX _ _ z)
    exact absurd this (by show ¬ hp.objs.size + 1 < hp.objs.size; omega)
  · have hdx' : hp.objs.size + 2 ≤ dx := by rw [← hz2]; exact hdx
    refine ⟨rfl, hq h' t' _ dx tA (fun a o z => k a o (fun q => ?_) (kk a o z)) (none_of _ (Nat.le_succ _)) (none_of _ (Nat.le_trans (Nat.le_add_right _ 2) hdx')) dne hx hn⟩
    have z2 : a < hp.objs.size := Heap.lt_size z
    rw [show a = hp.objs.size + 1 from q] at z2
    exact absurd z2 (Nat.not_lt.mpr (Nat.le_succ _))
variable {B : Base} {x : Str} {td : TDX} {p pos kpos : Pos} {e : Expr} {nm : Str}
/-- C(f = v), the class' __init__ as SuB tells -/
def dExcVK (x n : Str) (t : TDX) : TDX := fun rx δ P => t rx δ fun d δ' => P (.exc x [(n, d)]) δ'
theorem de_excK (S : SuK X.prog X.K b (He.ga X.K x) f fd) (bk : ∀ (s : Shared) (u v : Value), BindsTo s fd ⟨[u], [(b.par, v)]⟩ (((["self", b.par] : List Str).zip [u, v]))) (hr : Rm (k + 1) X.A) (mgS : X.mg "super" = none) (hg : Gl X x) (hm : X.mg x = some (.ref (He.ga X.K x))) (he : DE X B e td)
    (hall : (backToKw pos (keywordEach [⟨some nm, e, kpos⟩] X.env)).all (·.1.isSome) = true := by rfl) (hks : (backToKw pos (keywordEach [⟨some nm, e, kpos⟩] X.env)).filterMap (·.1) = [b.par] := by rfl)
    (hdb : (x == ("__debug__" : Str)) = false := by decide) (hpl : ((backTo pos (starEach [] X.env)).any (·.1) || (backToKw pos (keywordEach [⟨some nm, e, kpos⟩] X.env)).any (·.1.isNone)) = false := by rfl) :
    DE X B (.Call (.Name x p) [] [⟨some nm, e, kpos⟩] pos) (dExcVK x b.fld td) := by
  refine ⟨fun rx tk => ⟨fun pins s σ H Q I ⟨g, δ, P, S0, q, k1⟩ => ?_⟩⟩
  refine wpAny_Call_Name_kw (ld_glob I hg hm ?_ hdb)
  refine PySem.W.callWith_KW0 (h₀ := X.base) I.ok.mod.kin S.kpC hall ?_ hpl
  refine thn (((dk_cons he dk_nil).run rx tk).run pos pins s σ H (fun zs H2 => ∃ d δ2 g2 v, zs = [v] ∧ P (.exc x [(b.fld, d)]) δ2 ∧ Step X.N.length g H g2 H2 ∧ Stt X.K B g2 H2 σ δ2 ∧ Den X.K g2.W g2.F v d) I
    ⟨g, δ, (fun es δ' => match es with
      | [d] => P (.exc x [(b.fld, d)]) δ'
      | _ => False), S0, q, fun es δ2 g2 H2 zs h2 st2 S2 D2 => ?_⟩) fun ws s2 ⟨zs, H2, I2, r2, d, δ2, g2, v, ez, hp, st2, S2, D2⟩ => ⟨I2.kIn, ?_⟩
  · cases D2 with
    | nil => exact h2.elim
    | cons r1 r2 =>
      cases r2 with
      | nil => exact ⟨_, δ2, g2, _, rfl, h2, st2, S2, r1⟩
      | cons _ _ => exact h2.elim
  · rw [hks]
    subst ez
    cases r2 with
    | cons ru rt =>
      cases rt
      rename_i u
      obtain ⟨hp2, gg, dd, t, os⟩ := s2
      refine su_callK S bk hr.room mgS I2 fun h' t' e2 dx tA kk ne nd dne hx hn => ?_
      obtain ⟨G, J, gk, ge, hd, na⟩ := su_side (t' := t') I2 ru kk ne nd dne hn
      have ha := I2.hok.gone ne
      obtain ⟨S3, st3⟩ := S2.alloc (n := X.N.length) (o := .xd [(b.fld, v)]) hd
      obtain ⟨S4, st4⟩ := S3.alloc (n := X.N.length) (p := e2) (o := ExcO (He.ga X.K x) (some dx) e2) (by rw [upd_ne (Ne.symm dne)]; exact ha)
      refine ⟨.ref e2, _, J.laidN (t' := t') (o := ExcO (He.ga X.K x) (some dx) e2) gk ge na (excO_ok hx ⟨rfl, rfl⟩ rfl), rfl, k1 _ δ2 _ _ _ hp ((st2.trans st3).trans st4) S4 (.exc1 (gs := [(b.fld, v)]) (dd := dx) upd_same ?_ rfl (.cons ((D2.step st3).step st4) .nil))⟩
      show upd (upd g2.F dx _) e2 _ dx = _
      rw [upd_ne dne, upd_same]
theorem suK_kw {P : Program} {K : PySem.W.Frag} {d : FnA} {C : Addr} {fd : FuncData} (S : SuK P K b C (d.at_.ad K) fd) (e : fnO K (d.at_.ad K) = d.val) (c : d.ok K = true)
    (bd : ∀ (cl : List (Str × Addr)) (kV doc pm : Value) (an : Option Addr) (cdv ct : Value) (u v : Value), bindArgs (PySem.W.fnX d.name d.qual d.params d.body d.scope cl .none kV doc pm an cdv ct) ⟨[u], [(b.par, v)]⟩ = pure [(("self" : Str), u), (b.par, v)]) (s : Shared) (u v : Value) : BindsTo s fd ⟨[u], [(b.par, v)]⟩ ((["self", b.par] : List Str).zip [u, v]) := by
  obtain ⟨name, qual, params, scope, dV, kV, doc, pm, ct, oc, ccl, cl, an, od, cdd, cld, osl, ccs, csl, cc, cda, ar, vs, file, tf, cd, rfl, lk, _⟩ := S.ex
  obtain ⟨_, oc', od', cl', kV', doc', pm', cdv', ct', an', osl', lk', _⟩ := FnA.obj e c
  have z := lk.symm.trans lk'
  simp only [Option.some.injEq, Obj.mk.injEq] at z
  have z2 := Data.func.inj z.2.2.1
  rw [z2]
  exact .of_eq (bd _ _ _ _ _ _ _ u v)
end
end DL

/-! enumerate and zip, walked. -/
namespace DL
open PySem PySem.Spec L2
open PyProof.Rows hiding St
section
variable {X : Cx} {B : Base} {K : PySem.W.Frag} {n : Nat} {e e2 : Expr} {te : TDX} {ta : TDA} {p pos tpos : Pos} {elts : List Expr} {kk : Nat}
def enumD (ds : List D) : List D := ds.zipIdx.map fun q => .tup [.int (q.2 : Nat), q.1]
theorem enumD_get {ds : List D} {i : Nat} {d : D} (h : (enumD ds)[i]? = some d) : ∃ x, ds[i]? = some x ∧ d = .tup [.int (i : Nat), x] := by
  unfold enumD at h
  rw [List.getElem?_map, List.getElem?_zipIdx] at h
  cases q : ds[i]? with
  | none => rw [q] at h; cases h
  | some x =>
    rw [q] at h
    simp only [Option.map_some, Nat.zero_add, Option.some.injEq] at h
    exact ⟨x, rfl, h.symm⟩
theorem iter_enum {a : Addr} {xs : List V} {ds : List D} {g1 : Gs} {H1 : Hp} (h : SqL K g1.F a xs) (r : Dens K g1.W g1.F xs ds) : IterD K B n (Ite K a) (enumD ds) g1 H1 := fun i g H σ δ st S =>
  ⟨fun d q => by
    obtain ⟨x0, e0, rfl⟩ := enumD_get q
    obtain ⟨v, e1, r1⟩ := r.get e0
    have hq : SqL K H a xs := SqL.up S.ret.sub (SqL.up st.up h)
    refine ⟨⟨xs, v, hq, e1⟩, fun u H' z => ?_⟩
    obtain ⟨T, x', rfl, hT, rfl, f1⟩ := z
    have e4 : x' = v := Option.some.inj ((f1 xs hq).symm.trans e1)
    subst e4
    obtain ⟨S2, st2⟩ := S.alloc (n := n) (o := .tup [.int (i : Nat), x']) hT
    exact ⟨_, st2, S2, .tup (.inl (.inl upd_same)) (.cons (.int _) (.cons ((r1.step st).step st2) .nil))⟩, fun hl => ⟨xs, SqL.up S.ret.sub (SqL.up st.up h), by
      unfold enumD at hl
      simp only [List.length_map, List.length_zipIdx] at hl
      rw [r.length]; exact hl⟩⟩
/-- enumerate(list) -/
def dEnum (te : TDX) : TDI := fun rx δ P => te rx δ fun d δ1 => match d with
  | .lst ds => P (enumD ds) δ1
  | .kls ds => P (enumD ds) δ1
  | _ => False
theorem di_enum (hg : Gl X "enumerate") (hm : X.mg "enumerate" = none) (he : DE X B e te) (hs : starEach [e] X.env = [(false, eval e X.env)] := by rfl) (hse : starEach (e :: []) X.env = (false, eval e X.env) :: starEach [] X.env := by rfl) :
    DI X B (.Tuple elts kk tpos) (.Call (.Name "enumerate" p) [e] [] pos) (dEnum te) :=
  ⟨fun rx tk => PI.imp (pi_enum hg hm ((da_cons he da_nil hse).run rx tk) hs) fun σ H R _ ⟨g, δ, P, S, q, k⟩ => ⟨g, δ, (fun ds δ' => match ds with
      | [d] => (match d with
        | .lst xs => P (enumD xs) δ'
        | .kls xs => P (enumD xs) δ'
        | _ => False)
      | _ => False), S, q, fun ds δ1 g1 H1 vs h1 st1 S1 D1 => by
    cases D1 with
    | nil => exact h1.elim
    | cons r1 r2 =>
      cases r2 with
      | cons _ _ => exact h1.elim
      | nil =>
        cases r1 with
        | @lst a xs es h r => exact ⟨a, xs, rfl, SqL.of (S1.ret.sub _ _ h), k _ δ1 g1 H1 _ h1 st1 S1 (iter_enum (.inl (.inl h)) r)⟩
        | @kls a xs es h r => exact ⟨a, xs, rfl, SqL.up S1.ret.sub h, k _ δ1 g1 H1 _ h1 st1 S1 (iter_enum h r)⟩
        | _ => exact h1.elim⟩⟩
/-! ### zip -/
def zipD : List D → List D → List D
  | x :: xs, y :: ys => .tup [x, y] :: zipD xs ys
  | _, _ => []
theorem zipD_get : ∀ {xs ys : List D} {i : Nat} {d : D}, (zipD xs ys)[i]? = some d → ∃ x y, xs[i]? = some x ∧ ys[i]? = some y ∧ d = .tup [x, y]
  | [], _, i, d, h => by simp [zipD] at h
  | _ :: _, [], i, d, h => by simp [zipD] at h
  | x :: xs, y :: ys, 0, d, h => by
    simp [zipD] at h
    exact ⟨x, y, rfl, rfl, h.symm⟩
  | x :: xs, y :: ys, i + 1, d, h => by
    have h' : (zipD xs ys)[i]? = some d := by simpa [zipD] using h
    obtain ⟨a, b, e1, e2, e3⟩ := zipD_get h'
    exact ⟨a, b, by simpa using e1, by simpa using e2, e3⟩
theorem zipD_len : ∀ {xs ys : List D}, (zipD xs ys).length = min xs.length ys.length
  | [], _ => by simp [zipD]
  | _ :: _, [] => by simp [zipD]
  | x :: xs, y :: ys => by
    simp only [zipD, List.length_cons, zipD_len (xs := xs) (ys := ys)]
    omega
theorem iter_zipL {a b : Addr} {xs ys : List V} {ds es : List D} {g1 : Gs} {H1 : Hp} (h1 : SqL K g1.F a xs) (r1 : Dens K g1.W g1.F xs ds) (h2 : SqL K g1.F b ys) (r2 : Dens K g1.W g1.F ys es) : IterD K B n (Itz K a b) (zipD ds es) g1 H1 := fun i g H σ δ st S => by
  have q1 : SqL K H a xs := SqL.up S.ret.sub (SqL.up st.up h1)
  have q2 : SqL K H b ys := SqL.up S.ret.sub (SqL.up st.up h2)
  refine ⟨fun d q => ?_, fun hl => ⟨xs, ys, q1, q2, ?_⟩⟩
  · obtain ⟨x0, y0, e1, e2, rfl⟩ := zipD_get q
    obtain ⟨u, f1, s1⟩ := r1.get e1
    obtain ⟨v, f2, s2⟩ := r2.get e2
    refine ⟨⟨xs, ys, u, v, q1, q2, f1, f2⟩, fun w H' z => ?_⟩
    obtain ⟨T, x', y', rfl, hT, rfl, g1', g2'⟩ := z
    have ex : x' = u := Option.some.inj ((g1' xs q1).symm.trans f1)
    have ey : y' = v := Option.some.inj ((g2' ys q2).symm.trans f2)
    subst ex ey
    obtain ⟨S2, st2⟩ := S.alloc (n := n) (o := .tup [x', y']) hT
    exact ⟨_, st2, S2, .tup (.inl (.inl upd_same)) (.cons ((s1.step st).step st2) (.cons ((s2.step st).step st2) .nil))⟩
  · rw [zipD_len] at hl
    rw [r1.length, r2.length]
    omega
theorem iter_zipT {a b : Addr} {xs ys : List V} {ds es : List D} {g1 : Gs} {H1 : Hp} (h1 : SqT K g1.F a xs) (r1 : Dens K g1.W g1.F xs ds) (h2 : SqT K g1.F b ys) (r2 : Dens K g1.W g1.F ys es) : IterD K B n (RZ.ItzT K a b) (zipD ds es) g1 H1 := fun i g H σ δ st S => by
  have q1 : SqT K H a xs := SqT.up S.ret.sub (SqT.up st.up h1)
  have q2 : SqT K H b ys := SqT.up S.ret.sub (SqT.up st.up h2)
  refine ⟨fun d q => ?_, fun hl => ⟨xs, ys, q1, q2, ?_⟩⟩
  · obtain ⟨x0, y0, e1, e2, rfl⟩ := zipD_get q
    obtain ⟨u, f1, s1⟩ := r1.get e1
    obtain ⟨v, f2, s2⟩ := r2.get e2
    refine ⟨⟨xs, ys, u, v, q1, q2, f1, f2⟩, fun w H' z => ?_⟩
    obtain ⟨T, x', y', rfl, hT, rfl, g1', g2'⟩ := z
    have ex : x' = u := Option.some.inj ((g1' xs q1).symm.trans f1)
    have ey : y' = v := Option.some.inj ((g2' ys q2).symm.trans f2)
    subst ex ey
    obtain ⟨S2, st2⟩ := S.alloc (n := n) (o := .tup [x', y']) hT
    exact ⟨_, st2, S2, .tup (.inl (.inl upd_same)) (.cons ((s1.step st).step st2) (.cons ((s2.step st).step st2) .nil))⟩
  · rw [zipD_len] at hl
    rw [r1.length, r2.length]
    omega
/-- zip of two lists or of two tuples -/
def dZip (t : TDA) : TDI := fun rx δ P => t rx δ fun ds δ1 => match ds with
  | [.lst xs, .lst ys] => P (zipD xs ys) δ1
  | [.tup xs, .tup ys] => P (zipD xs ys) δ1
  | _ => False
theorem di_zip {t : TDA} (hg : Gl X "zip") (hm : X.mg "zip" = none) (ha : DA X B [e, e2] t) (hs : starEach [e, e2] X.env = (false, eval e X.env) :: starEach [e2] X.env := by rfl) (hpl : (backTo pos (starEach [e2] X.env)).any (·.1) = false := by rfl) :
    DI X B (.Tuple elts kk tpos) (.Call (.Name "zip" p) [e, e2] [] pos) (dZip t) :=
  ⟨fun rx tk => PI.imp (RZ.pi_zipA hg hm (ha.run rx tk) hs hpl) fun σ H R _ ⟨g, δ, P, S, q, k⟩ => ⟨g, δ, _, S, q, fun ds δ1 g1 H1 vs h1 st1 S1 D1 => by
    cases D1 with
    | nil => exact h1.elim
    | cons r1 r2 =>
      cases r2 with
      | nil => cases r1 <;> exact h1.elim
      | cons r2 r3 =>
        cases r3 with
        | cons _ _ => cases r1 <;> cases r2 <;> exact h1.elim
        | nil =>
          cases r1 with
          | @lst a xs es h r =>
            cases r2 with
            | @lst b ys fs h' r' => exact ⟨a, b, xs, ys, rfl, .inl ⟨SqL.of (S1.ret.sub _ _ h), SqL.of (S1.ret.sub _ _ h'), k _ δ1 g1 H1 _ h1 st1 S1 (iter_zipL (.inl (.inl h)) r (.inl (.inl h')) r')⟩⟩
            | _ => exact h1.elim
          | @tup a xs es h r =>
            cases r2 with
            | @tup b ys fs h' r' => exact ⟨a, b, xs, ys, rfl, .inr ⟨SqT.up S1.ret.sub h, SqT.up S1.ret.sub h', k _ δ1 g1 H1 _ h1 st1 S1 (iter_zipT h r h' r')⟩⟩
            | _ => exact h1.elim
          | _ => cases r2 <;> exact h1.elim⟩⟩
end
end DL

/-! repr of data that may hold dicts. -/
namespace DL
open PySem PySem.Spec L2
open PyProof.Rows hiding St
def keyPD : Key → PyData
  | .inl i => .int i
  | .inr x => .str x
mutual
def toPDX : D → Option PyData
  | .non => some .none
  | .bl b => some (.bool b)
  | .int i => some (.int i)
  | .str x => some (.str x)
  | .lst xs => (toPDXs xs).map .list
  | .tup xs => (toPDXs xs).map .tuple
  | .dct kvs => (toPDXk kvs).map .dict
  | _ => none
def toPDXs : List D → Option (List PyData)
  | [] => some []
  | d :: ds => match toPDX d, toPDXs ds with
    | some p, some ps => some (p :: ps)
    | _, _ => none
def toPDXk : List (Key × D) → Option (List (PyData × PyData))
  | [] => some []
  | (k, d) :: ds => match toPDX d, toPDXk ds with
    | some p, some ps => some ((keyPD k, p) :: ps)
    | _, _ => none
end
section
variable {X : Cx} {pins : List (Addr × Obj)} {σ : L2.St} {H F : Hp} {W : DW} {s : Shared}
theorem sys_none (I : Inv X pins σ H s) (hK : (X.K.lookup sysModules).isSome = true) : H sysModules = none := by
  obtain ⟨o, e⟩ := Option.isSome_iff_exists.mp hK
  exact (I.bs _ _ (I.mod.kin _ _ e)).2
theorem keyPD_reads {h : Heap} {k : Key} {u : Value} (e : keyIs k u = true) : Reads h u (keyPD k) [] := by
  rcases keyIs_shape e with ⟨i, t, rfl, rfl⟩ | ⟨x, t, rfl, rfl⟩
  · exact .int i t
  · exact .str x t
/-- what a value reads as, where dicts are let -/
def RdX (h : Heap) (u : Value) (p : PyData) : Prop := ∃ as, Reads h u p as ∧ sysModules ∉ as
def RdXs (h : Heap) (us : List Value) (ps : List PyData) : Prop := ∃ as, ReadsAll h us ps as ∧ sysModules ∉ as
theorem RdXs.nil {h : Heap} : RdXs h [] [] := ⟨[], .nil, by simp⟩
theorem RdXs.cons {h : Heap} {u : Value} {us : List Value} {p : PyData} {ps : List PyData} : RdX h u p → RdXs h us ps → RdXs h (u :: us) (p :: ps)
  | ⟨as, r, n⟩, ⟨bs, rs, m⟩ => ⟨as ++ bs, .cons r rs, by simp [n, m]⟩
mutual
theorem Den.rdx (I : Inv X pins σ H s) (hK : (X.K.lookup sysModules).isSome = true) (u : Up F H) : ∀ {d : D} {p : PyData}, toPDX d = some p → ∀ {v : V} {w : Value}, Den X.K W F v d → RelV v w → RdX s.heap w p
  | .non, p, e, v, w, r, rv => by
    cases e; cases r; cases rv
    exact ⟨[], .none, by simp⟩
  | .bl b, p, e, v, w, r, rv => by
    cases e; cases r; cases rv
    exact ⟨[], .bool _, by simp⟩
  | .int i, p, e, v, w, r, rv => by
    cases e; cases r
    obtain ⟨t, rfl⟩ := rv
    exact ⟨[], .int _ _, by simp⟩
  | .str i, p, e, v, w, r, rv => by
    cases e; cases r
    obtain ⟨t, rfl⟩ := rv
    exact ⟨[], .str _ _, by simp⟩
  | .lst ds, p, e, v, w, r, rv => by
    cases r with
    | @lst a xs es h rs =>
      cases rv
      unfold toPDX at e
      cases q : toPDXs ds with
      | none => rw [q] at e; cases e
      | some ps =>
        rw [q] at e; cases e
        have hF := u _ _ h
        obtain ⟨its, rv, ⟨o, n, ho, hc, _, hd⟩, _⟩ := I.list (SqL.of hF)
        obtain ⟨as, ra, na⟩ := Dens.rdx I hK u q rs rv
        refine ⟨a :: as, .list ho hc hd ra, ?_⟩
        simp only [List.mem_cons, not_or]
        refine ⟨fun z => ?_, na⟩
        rw [← z, sys_none I hK] at hF; cases hF
  | .tup ds, p, e, v, w, r, rv => by
    cases r with
    | @tup a xs es h rs =>
      cases rv
      unfold toPDX at e
      cases q : toPDXs ds with
      | none => rw [q] at e; cases e
      | some ps =>
        rw [q] at e; cases e
        obtain ⟨its, rv, ⟨o, ho, hc, n, hd⟩, _⟩ := I.tuple (SqT.up u h)
        obtain ⟨as, ra, na⟩ := Dens.rdx I hK u q rs rv
        exact ⟨as, .tuple ho hc hd ra, na⟩
  | .dct kvs, p, e, v, w, r, rv => by
    cases r with
    | @dct a ks es h hk rs =>
      cases rv
      unfold toPDX at e
      cases q : toPDXk kvs with
      | none => rw [q] at e; cases e
      | some ps =>
        rw [q] at e; cases e
        have hF := u _ _ h
        obtain ⟨_, hs, vs, kv, o, es, ep, ho, hx, hdt, _, pr, _⟩ := I.hok _ _ hF
        obtain ⟨⟨as, ra, na⟩, ⟨bs, rb, nb⟩⟩ := Densk.rdx I hK u q hk rs kv pr
        refine ⟨a :: as ++ bs, .dict ho hx.1 hdt ra rb, ?_⟩
        simp only [List.cons_append, List.mem_cons, List.mem_append, not_or]
        refine ⟨fun z => ?_, na, nb⟩
        rw [← z] at hs
        simp at hs
  | .kls _, p, e, v, w, r, rv => by cases e
  | .ty _, p, e, v, w, r, rv => by cases e
  | .glo _, p, e, v, w, r, rv => by cases e
  | .ob _ _, p, e, v, w, r, rv => by cases e
  | .exc _ _, p, e, v, w, r, rv => by cases e
  | .drw, p, e, v, w, r, rv => by cases e
  | .adr _, p, e, v, w, r, rv => by cases e
theorem Dens.rdx (I : Inv X pins σ H s) (hK : (X.K.lookup sysModules).isSome = true) (u : Up F H) : ∀ {ds : List D} {ps : List PyData}, toPDXs ds = some ps → ∀ {vs : List V} {ws : List Value}, Dens X.K W F vs ds → Vals vs ws → RdXs s.heap ws ps
  | [], ps, e, vs, ws, r, rv => by
    cases e; cases r; cases rv
    exact .nil
  | d :: ds, ps, e, vs, ws, r, rv => by
    unfold toPDXs at e
    cases q : toPDX d with
    | none => rw [q] at e; cases e
    | some p =>
      cases q2 : toPDXs ds with
      | none => rw [q, q2] at e; cases e
      | some ps =>
        rw [q, q2] at e; cases e
        cases r with
        | cons r1 r2 =>
          cases rv with
          | cons v1 v2 => exact .cons (Den.rdx I hK u q r1 v1) (Dens.rdx I hK u q2 r2 v2)
theorem Densk.rdx (I : Inv X pins σ H s) (hK : (X.K.lookup sysModules).isSome = true) (u : Up F H) : ∀ {kvs : List (Key × D)} {ps : List (PyData × PyData)}, toPDXk kvs = some ps → ∀ {ks : List (Key × V)} {vs : List (Key × Value)} {es : List DictEntry}, ks.map (·.1) = kvs.map (·.1) → Dens X.K W F (ks.map (·.2)) (kvs.map (·.2)) → KV ks vs → Pairs (mixKind X.prog X.w) es vs →
    RdXs s.heap (es.map (·.key)) (ps.map (·.1)) ∧ RdXs s.heap (es.map (·.val)) (ps.map (·.2))
  | [], ps, e, ks, vs, es, hk, r, kv, pr => by
    cases e
    cases ks with
    | cons _ _ => cases hk
    | nil =>
      cases kv
      cases pr
      exact ⟨.nil, .nil⟩
  | (k, d) :: kvs, ps, e, ks, vs, es, hk, r, kv, pr => by
    unfold toPDXk at e
    cases q : toPDX d with
    | none => rw [q] at e; cases e
    | some p =>
      cases q2 : toPDXk kvs with
      | none => rw [q, q2] at e; cases e
      | some ps =>
        rw [q, q2] at e; cases e
        cases ks with
        | nil => cases hk
        | cons k1 ks =>
          simp only [List.map_cons, List.cons.injEq] at hk
          cases r with
          | cons r1 r2 =>
            cases kv with
            | cons kv1 kv2 =>
              cases pr with
              | cons p1 p2 p3 =>
                obtain ⟨a1, a2⟩ := Densk.rdx I hK u q2 hk.2 r2 kv2 p3
                refine ⟨.cons ⟨[], ?_, by simp⟩ a1, .cons ?_ a2⟩
                · have : k = _ := hk.1.symm.trans kv1.1
                  rw [this]
                  exact keyPD_reads p1
                · show RdX s.heap (DictEntry.val _) p
                  rw [p2]
                  exact Den.rdx I hK u q r1 kv1.2
end
/-- repr, dicts let -/
def rReprX (X : Cx) : List V → Hp → VK → Prop := fun xs H Q => ∃ v p, xs = [v] ∧ (∀ pins σ s w, Inv X pins σ H s → RelV v w → RdX s.heap w p) ∧ p.showable = true ∧ p.depth ≤ 60 ∧ p.shown.length ≤ sizeLine ∧ Q (.str p.shown) H
theorem call_reprX {k : Nat} (hr : Rm k X.A) : CallR X (.builtin "repr") (rReprX X) := by
  intro pins s σ H xs us Q I r h
  obtain ⟨v, p, rfl, dp, hs, hz, hl, q⟩ := h
  obtain ⟨u, rfl, ru⟩ := vals1 r
  obtain ⟨as, rd, na⟩ := dp pins σ s u I ru
  have hu := hr.u64
  have fin : ∀ {a : Addr}, Reads s.heap (.ref a) p as → wpAny (model X.prog X.w) X.A (call (.builtin "repr") [.ref a]) (EP X pins σ Q) X.xe s := fun {a} rd =>
    repr_of_reads' rd hs (fun _ => na) hr.gd (by omega) (fun _ _ e => e) (fun h' u' tk k => ⟨.str _, H, I.kept (t' := tk) k, ⟨_, rfl⟩, q⟩) hl
  cases rd with
  | none => exact PySem.P.repr_of_none ⟨.str _, H, I.tok _, ⟨_, rfl⟩, q⟩
  | bool b => exact PySem.P.repr_of_bool ⟨.str _, H, I.tok _, ⟨_, rfl⟩, by cases b <;> exact q⟩
  | int i t => exact PySem.P.repr_of_int (of_decide_eq_true hs) ⟨.str _, H, I.tok _, ⟨_, rfl⟩, q⟩
  | str x t => exact PySem.P.repr_of_str ⟨.str _, H, I.tok _, ⟨_, rfl⟩, q⟩ hl
  | list h1 h2 h3 h4 => exact fin (.list h1 h2 h3 h4)
  | tuple h1 h2 h3 h4 => exact fin (.tuple h1 h2 h3 h4)
  | dict h1 h2 h3 h4 h5 => exact fin (.dict h1 h2 h3 h4 h5)
def reprX (ds : List D) (P : D → Prop) : Prop := match ds with
  | [d] => ∃ p, toPDX d = some p ∧ p.showable = true ∧ p.depth ≤ 60 ∧ p.shown.length ≤ sizeLine ∧ P (.str p.shown)
  | _ => False
theorem lc_reprX (hK : (X.K.lookup sysModules).isSome = true) : LiftC X.K (rReprX X) reprX := fun B n g H σ δ xs ds P Q S rs q k => by
  cases rs with
  | nil => exact q.elim
  | cons r1 r2 =>
    cases r2 with
    | cons _ _ => cases r1 <;> exact q.elim
    | nil =>
      obtain ⟨p, e, h1, h2, h3, hp⟩ := q
      exact ⟨_, p, rfl, fun pins σ' s w I rv => Den.rdx I hK S.ret.sub e r1 rv, h1, h2, h3, k _ g H _ hp (Step.refl _ _ _) S (.str _)⟩
end
end DL

/-! A family of classes of exceptions: none under another one. Exceptions as values. -/
namespace DL
open PySem PySem.Spec L2
open PyProof.Rows hiding St
structure Fam where
  rows : List Str
  cols : List Str
  tops : List Tq
structure FamOk (K : PySem.W.Frag) (J : Fam) : Prop where
  isa : IsaOk K ⟨[], J.rows, []⟩
  tab : ∀ a ∈ J.rows, ∀ b ∈ J.cols, PySem.W.kitOne K ((Tq.own a).v K) ((Tq.own b).v K) = some (decide (a = b))
  top : ∀ a ∈ J.rows, ∀ t ∈ J.tops, PySem.W.kitOne K ((Tq.own a).v K) (t.v K) = some true
def famB (J : Fam) (K : PySem.W.Frag) : Bool := isaB ⟨[], J.rows, []⟩ K && ((J.rows.all fun a => J.cols.all fun b => kitB1 (.own a) (.own b) (decide (a = b)) K) && J.rows.all fun a => J.tops.all fun t => kitB1 (.own a) t true K)
theorem famB_ok {J : Fam} {K : PySem.W.Frag} (h : famB J K = true) : FamOk K J := by
  obtain ⟨h1, h⟩ := He.ba h
  obtain ⟨h2, h3⟩ := He.ba h
  exact ⟨isaB_ok h1, fun a ha b hb => of_decide_eq_true (List.all_eq_true.mp (List.all_eq_true.mp h2 a ha) b hb), fun a ha b hb => of_decide_eq_true (List.all_eq_true.mp (List.all_eq_true.mp h3 a ha) b hb)⟩
/-- isinstance(error, class) within a family -/
def isaFam (J : Fam) (ds : List D) (P : D → Prop) : Prop := match ds with
  | [.exc c _, y] => c ∈ J.rows ∧ ((∃ b, y = .glo b ∧ b ∈ J.cols ∧ P (.bl (decide (c = b)))) ∨ ∃ t, clsD y = some t ∧ t ∈ J.tops ∧ P (.bl true))
  | _ => False
theorem lc_isaFam {X : Cx} {J : Fam} (T : FamOk X.K J) : LiftC X.K (rIsa X) (isaFam J) := fun B n g H σ δ xs ds P Q S rs q k => by
  have fin : ∀ b, P (.bl b) → Q (.bl b) H := fun b hp => k _ g H _ hp (Step.refl _ _ _) S (.bl b)
  have main : ∀ {v w : V} {c : Str} {fs : List (Str × D)} {y : D} {t : Tq} {b : Bool}, Den X.K g.W g.F v (.exc c fs) → Den X.K g.W g.F w y → c ∈ J.rows → clsD y = some t → PySem.W.kitOne X.K ((Tq.own c).v X.K) (t.v X.K) = some b → P (.bl b) → rIsa X [v, w] H Q := fun {v w c fs y t b} r1 r2 hc e2 hk hp => by
    refine ⟨b, fun pins σ s us I rv Q' E hq => ?_, fin b hp⟩
    obtain ⟨u1, u2, rfl, rv1, rv2⟩ := vals2 rv
    obtain ⟨Pz, Z, p, hx⟩ := kit_den T.isa I S.ret.sub rv1 r1 (if_pos hc)
    rw [r2.cls e2 rv2]
    exact PySem.W.kia_one Z I.kIn p hk hx hq
  unfold isaFam at q
  split at q
  · obtain ⟨hc, q⟩ := q
    cases rs with
    | cons r1 r2 =>
      cases r2 with
      | cons r2 r3 =>
        cases r3
        rcases q with ⟨b, rfl, hb, hp⟩ | ⟨t, e, ht, hp⟩
        · exact main r1 r2 hc rfl (T.tab _ hc b hb) hp
        · exact main r1 r2 hc e (T.top _ hc t ht) hp
  · exact q.elim
/-! ### exceptions made, as values -/
section
variable {X : Cx} {B : Base} {x : Str} {e : Expr} {td : TDX} {p pos kpos : Pos} {b : SuB} {nm : Str}
/-- what is known of a class of exceptions with super().__init__ -/
def SuE (P : Program) (K : PySem.W.Frag) (b : SuB) (x : Str) : Prop := ∃ f fd, SuK P K b (He.ga K x) f fd ∧ ∀ (s : Shared) (u v : Value), BindsTo s fd ⟨[u], [(b.par, v)]⟩ ((["self", b.par] : List Str).zip [u, v])
theorem SuE.su {P : Program} {K : PySem.W.Frag} : SuE P K b x → ∃ f fd, SuK P K b (He.ga K x) f fd | ⟨f, fd, S, _⟩ => ⟨f, fd, S⟩
theorem de_excE (S : SuE X.prog X.K b x) (hr : Rm 1 X.A) (mgS : X.mg "super" = none) (hg : Gl X x) (hm : X.mg x = some (.ref (He.ga X.K x))) (he : DE X B e td) (hdb : (x == ("__debug__" : Str)) = false := by decide) (hs : starEach [e] X.env = (false, eval e X.env) :: starEach [] X.env := by rfl) :
    DE X B (.Call (.Name x p) [e] [] pos) (dExcV x b.fld td) := by
  obtain ⟨f, fd, S, _⟩ := S
  exact de_exc (k := 0) S hr mgS hg hm he hdb hs
theorem de_excEK (S : SuE X.prog X.K b x) (hr : Rm 1 X.A) (mgS : X.mg "super" = none) (hg : Gl X x) (hm : X.mg x = some (.ref (He.ga X.K x))) (he : DE X B e td)
    (hall : (backToKw pos (keywordEach [⟨some nm, e, kpos⟩] X.env)).all (·.1.isSome) = true := by rfl) (hks : (backToKw pos (keywordEach [⟨some nm, e, kpos⟩] X.env)).filterMap (·.1) = [b.par] := by rfl)
    (hdb : (x == ("__debug__" : Str)) = false := by decide) (hpl : ((backTo pos (starEach [] X.env)).any (·.1) || (backToKw pos (keywordEach [⟨some nm, e, kpos⟩] X.env)).any (·.1.isNone)) = false := by rfl) :
    DE X B (.Call (.Name x p) [] [⟨some nm, e, kpos⟩] pos) (dExcVK x b.fld td) := by
  obtain ⟨f, fd, S, bk⟩ := S
  exact de_excK (k := 0) S bk hr mgS hg hm he hall hks hdb hpl
def exfB (x : Str) (K : PySem.W.Frag) : Bool := PySem.W.excIn K (He.ga K x) He.veBase "ValueError.__new__" && (PySem.W.keepIn K (.ref (He.ga K x)) && (decide (PySem.W.subIn K (.ref (He.ga K x)) (.type "BaseException") = some true) && decide (PySem.W.typeIn K (.ref (He.ga K x)) = some (.type "type"))))
theorem exfB_ok {K : PySem.W.Frag} (h : exfB x K = true) : ExcF K x := by
  obtain ⟨h1, h⟩ := He.ba h
  obtain ⟨h2, h⟩ := He.ba h
  obtain ⟨h3, h4⟩ := He.ba h
  exact ⟨h1, h2, of_decide_eq_true h3, of_decide_eq_true h4⟩
end
end DL

/-! Words for plain laws: comprehensions, tests, equal texts. -/
namespace DL
open PySem PySem.Spec L2
open PyProof.Rows hiding St
abbrev stepQ (tg : TDG) (tt : TDB) (te : TDX) (vs : List Nat) (d : D) (δ : Env) (Q : Option D → Env → Prop) : Prop :=
  tg d δ fun δ1 => tt (fun _ => False) δ1 fun b δ2 => if b = true then te (fun _ => False) δ2 fun y δ3 => Q (some y) (wipeD δ3 vs) else Q none (wipeD δ2 vs)
/-- a comprehension over l.map it: what each item gives -/
theorem q_comp {α : Type} {it : α → D} {tg : TDG} {tt : TDB} {te : TDX} {vs : List Nat} {P : List D → Env → Prop} {f : α → Option D} {δ0 : Env} : ∀ (l : List α) (acc : List D), acc.length + l.length < 16777216 →
    (∀ a ∈ l, ∀ Q : Option D → Env → Prop, Q (f a) δ0 → stepQ tg tt te vs (it a) δ0 Q) → P (acc ++ l.filterMap f) δ0 → dCompL tg tt te vs P (l.map it) acc δ0
  | [], acc, _, _, h => by
    show P acc δ0
    simpa using h
  | a :: l, acc, hl, hs, h => by
    rw [List.length_cons] at hl
    refine hs a List.mem_cons_self (fun o δ => match o with
      | some y => acc.length < sizeLine ∧ dCompL tg tt te vs P (l.map it) (acc ++ [y]) δ
      | none => dCompL tg tt te vs P (l.map it) acc δ) ?_
    cases e : f a with
    | none =>
      refine q_comp l acc (by omega) (fun b hb => hs b (List.mem_cons_of_mem _ hb)) ?_
      rw [List.filterMap_cons, e] at h
      exact h
    | some y =>
      refine ⟨Nat.lt_of_lt_of_le (show acc.length < 16777216 by omega) (by decide), q_comp l (acc ++ [y]) (by rw [List.length_append]; simp; omega) (fun b hb => hs b (List.mem_cons_of_mem _ hb)) ?_⟩
      rw [List.filterMap_cons, e] at h
      rw [List.append_assoc]
      exact h
theorem fm_all {α β : Type} (g : α → β) : ∀ l : List α, l.filterMap (fun a => some (g a)) = l.map g
  | [] => rfl
  | a :: l => by rw [List.filterMap_cons, List.map_cons, fm_all g l]
/-- .. where each item gives one -/
theorem q_compM {α : Type} {it : α → D} {tg : TDG} {tt : TDB} {te : TDX} {vs : List Nat} {P : List D → Env → Prop} {f : α → D} {δ0 : Env} (l : List α) (hl : l.length < 16777216)
    (hs : ∀ a ∈ l, ∀ Q : Option D → Env → Prop, Q (some (f a)) δ0 → stepQ tg tt te vs (it a) δ0 Q) (h : P (l.map f) δ0) : dCompL tg tt te vs P (l.map it) [] δ0 := by
  refine q_comp (f := fun a => some (f a)) l [] (by simpa using hl) hs ?_
  rw [List.nil_append, fm_all f l]
  exact h
theorem asB_map {α : Type} (g : α → Bool) : ∀ l : List α, asBls (l.map fun a => D.bl (g a)) = some (l.map g)
  | [] => rfl
  | a :: l => by
    have := asB_map g l
    simp only [List.map_cons, asBls, this, Option.map_some]
theorem seqQ {t u : TDS} {rx : D → Prop} {DD : DEnds} {δ : Env} (h : t rx { nx := fun δ' => u rx DD δ', rt := DD.rt, bk := DD.bk, ct := DD.ct } δ) : dSeq t u rx DD δ := h
theorem toPDs_ofInts : ∀ l : List Int, toPDs (l.map D.int) = some (l.map PyData.int)
  | [] => rfl
  | a :: l => by
    show (match toPD (D.int a), toPDs (l.map D.int) with
      | some p, some ps => some (p :: ps)
      | _, _ => none) = _
    rw [toPDs_ofInts l]; rfl
theorem toPDs_ofBls : ∀ l : List Bool, toPDs (l.map D.bl) = some (l.map PyData.bool)
  | [] => rfl
  | a :: l => by
    show (match toPD (D.bl a), toPDs (l.map D.bl) with
      | some p, some ps => some (p :: ps)
      | _, _ => none) = _
    rw [toPDs_ofBls l]; rfl
theorem lay_bls : ∀ l : List Bool, PyData.canLayAll0 (l.map PyData.bool) = true ∧ PyData.depthAll (l.map PyData.bool) = 0
  | [] => ⟨rfl, rfl⟩
  | a :: l => by
    obtain ⟨h1, h2⟩ := lay_bls l
    refine ⟨?_, ?_⟩
    · show (PyData.canLay0 (.bool a) && PyData.canLayAll0 (l.map PyData.bool)) = true
      rw [h1]; rfl
    · show max (PyData.depth (.bool a)) (PyData.depthAll (l.map PyData.bool)) = 0
      rw [h2]; rfl
theorem eqv_bls : ∀ l m : List Bool, PyData.eqvAll (l.map PyData.bool) (m.map PyData.bool) = decide (l = m)
  | [], [] => by simp [PyData.eqvAll]
  | [], _ :: _ => by simp [PyData.eqvAll]
  | _ :: _, [] => by simp [PyData.eqvAll]
  | a :: l, b :: m => by
    rw [List.map_cons, List.map_cons, PyData.eqvAll, eqv_bls l m]
    have : PyData.eqv (.bool a) (.bool b) = decide (a = b) := by cases a <;> cases b <;> simp [PyData.eqv]
    rw [this]
    by_cases h : a = b <;> by_cases h2 : l = m <;> simp [h, h2]
theorem shaped_bls (l : List Bool) : SeqAt.shaped (.list (l.map PyData.bool)) = true := by
  obtain ⟨h1, h2⟩ := lay_bls l
  exact shaped_of h1 (by omega)
theorem q_neBs {l m : List Bool} {P : D → Prop} (h : P (.bl (!decide (l = m)))) : neD (.lst (l.map D.bl)) (.lst (m.map D.bl)) P := by
  refine ⟨.list (l.map PyData.bool), .list (m.map PyData.bool), ?_, ?_, shaped_bls l, shaped_bls m, ?_⟩
  · simp only [toPD, toPDs_ofBls, Option.map_some]
  · simp only [toPD, toPDs_ofBls, Option.map_some]
  · rw [PyData.eqv, eqv_bls]; exact h
end DL

/-! enumerate(tuple). -/
namespace DL
open PySem PySem.Spec L2
open PyProof.Rows hiding St
def ItB (b : Bool) (h : Heap) (it a : Addr) (i : Nat) : Prop := match b with
  | false => h.IsListIter it a i
  | true => h.IsTupleIter it a i
def HoB (b : Bool) (h : Heap) (a : Addr) (its : Array Value) : Prop := match b with
  | false => h.IsList a its
  | true => h.IsTuple a its
def SqB (K : PySem.W.Frag) (b : Bool) (H : Hp) (a : Addr) (xs : List V) : Prop := match b with
  | false => SqL K H a xs
  | true => SqT K H a xs
theorem ItB.live {b : Bool} {h : Heap} {it a : Addr} {i : Nat} (x : ItB b h it a i) : ∃ o, h.get? it = some o ∧ ∀ v, o.data ≠ .cell v := by
  cases b with
  | false =>
    obtain ⟨o, e, _, d⟩ := x
    exact ⟨o, e, fun v z => by rw [d] at z; cases z⟩
  | true =>
    obtain ⟨o, e, _, d⟩ := x
    exact ⟨o, e, fun v z => by rw [d] at z; cases z⟩
theorem ItB.move {b : Bool} {h h' : Heap} {it a : Addr} {i : Nat} (x : ItB b h it a i) (k : ∀ o, h.get? it = some o → h'.get? it = some o) : ItB b h' it a i := by
  cases b with
  | false => exact Heap.IsListIter.at x k
  | true => exact Heap.IsTupleIter.at x k
theorem SqB.inj {X : Cx} {pins : List (Addr × Obj)} {σ : L2.St} {H : Hp} {s : Shared} (I : Inv X pins σ H s) {b : Bool} {a : Addr} {xs ys : List V} (p : SqB X.K b H a xs) (q : SqB X.K b H a ys) : xs = ys := by
  cases b with
  | false => exact I.list_inj p q
  | true => exact I.tuple_inj p q
/-- what stands at a now, drawn through it -/
theorem drawsB {X : Cx} {pins : List (Addr × Obj)} {σ : L2.St} {H : Hp} {s : Shared} (I : Inv X pins σ H s) (hc : X.calm = true) {b : Bool} {a it : Addr} {xs : List V} (p : SqB X.K b H a xs) (ne : a ≠ it) :
    ∃ its : List Value, Vals xs its ∧ HoB b s.heap a its.toArray ∧ Draws X.prog X.w X.A.in1 it [it, a] its.toArray.size (fun i v => its.toArray[i]? = some v) (fun i h => ItB b h it a i ∧ HoB b h a its.toArray) := by
  have hh : X.A.handled = none := I.ok.hd hc
  cases b with
  | false =>
    obtain ⟨its, rv, q, _⟩ := I.list p
    exact ⟨its, rv, q.isList, Draws.list (A := X.A.in1) hh it a ne its.toArray⟩
  | true =>
    obtain ⟨its, rv, q, _⟩ := I.tuple p
    exact ⟨its, rv, q, Draws.tuple (A := X.A.in1) hh it a ne its.toArray⟩
/-- an iterator that is at its end -/
theorem drawsEnd {X : Cx} {pins : List (Addr × Obj)} {σ : L2.St} {H : Hp} {s : Shared} (I : Inv X pins σ H s) (hc : X.calm = true) {b : Bool} {a it : Addr} {xs : List V} {i : Nat} (p : SqB X.K b H a xs) (ne : a ≠ it) (le : xs.length ≤ i) :
    ∃ its : List Value, HoB b s.heap a its.toArray ∧ Draws X.prog X.w X.A.in1 it [it, a] i (fun _ _ => True) (fun j h => j = i ∧ ItB b h it a i ∧ HoB b h a its.toArray) := by
  obtain ⟨its, rv, holds, D⟩ := drawsB I hc p ne
  have hh : X.A.in1.handled = none := I.ok.hd hc
  have l := rv.length
  have none_at : its.toArray[i]? = none := by simp; omega
  refine ⟨its, holds, ⟨fun j h st => let ⟨o, e, _⟩ := st.2.1.live; ⟨o, e⟩, fun j h h' st k => ⟨st.1, st.2.1.move fun o q => k it (by simp) o q, ?_⟩, fun j s' Q E lt st => absurd st.1 (Nat.ne_of_lt lt), fun s' Q E st k => ?_⟩⟩
  · cases b with
    | false => exact Heap.IsList.at st.2.2 fun o q => k a (by simp) o q
    | true => exact Heap.IsTuple.at st.2.2 fun o q => k a (by simp) o q
  · cases b with
    | false => exact wpAny_nextOf_list_end hh st.2.1 st.2.2 none_at k
    | true => exact wpAny_nextOf_tuple_end hh st.2.1 st.2.2 none_at k
/-- what stands at a at each turn, each item in a new pair -/
def IteB (K : PySem.W.Frag) (b : Bool) (a : Addr) : It :=
  ⟨fun i H => ∃ (xs : List V) (x : V), SqB K b H a xs ∧ xs[i]? = some x, fun i H v H' => ∃ T x, v = .ref T ∧ H T = none ∧ H' = upd H T (.tup [.int (i : Nat), x]) ∧ ∀ xs, SqB K b H a xs → xs[i]? = some x, fun i H => ∃ xs : List V, SqB K b H a xs ∧ xs.length ≤ i⟩
theorem turn_enumB {P : Program} {w : World} {K : PySem.W.Frag} {elts : List Expr} {kk : Nat} {tpos : Pos} {b : Bool} {a e it : Addr} (n1 : e ≠ it) (n2 : e ≠ a) (n3 : a ≠ it) :
    Turn P w K (.Tuple elts kk tpos) (IteB K b a) [e, it] e (fun i h => (∃ old, IsEnum h e it ((i : Nat) : Int) old) ∧ ItB b h it a i) where
  mem := List.mem_cons_self
  obj := fun i h sta c hcm => by
    obtain ⟨⟨old, isE⟩, isI⟩ := sta
    rcases (by simpa using hcm : c = e ∨ c = it) with z | z
    · subst z; exact ⟨_, isE, fun v q => nomatch q⟩
    · rw [z]; exact isI.live
  keep := fun i h h2 sta kp => ⟨let ⟨old, isE⟩ := sta.1; ⟨old, kp e List.mem_cons_self _ isE⟩, sta.2.move fun o q => kp it (by simp) o q⟩
  item := by
    intro X pX pw pK calm i pins s σ H E I free sta go
    subst pX pw pK
    obtain ⟨⟨old, isE⟩, isI⟩ := sta
    obtain ⟨xs, x, sq, at_⟩ := go
    obtain ⟨its, vals, holds, D⟩ := drawsB I calm sq n3
    obtain ⟨u, atu, rel⟩ := vals.get at_
    have small : i < its.toArray.size := by
      have := (List.getElem?_eq_some_iff.mp atu).1
      simpa using this
    have le : e < s.heap.objs.size := Heap.lt_size isE
    have li : it < s.heap.objs.size := by
      obtain ⟨o, q, _⟩ := isI.live
      exact Heap.lt_size q
    have apart : e ∉ [it, a] := by simp [n1, n2]
    refine wpAny_pyNext_enum_itemC D isE ⟨isI, holds⟩ small n1 apart fun y h1 tk atY out st1 tup size1 keep1 => ?_
    have ey : y = u := by
      have z : its.toArray[i]? = some u := by simpa using atu
      exact Option.some.inj (atY.symm.trans z)
    subst ey
    refine ⟨_, rfl, wpAny_letOwnedTupleGo_enum (s := { s with heap := h1, toks := tk + 1 }) out fun h2 isE2 same2 => ?_⟩
    have tup2 : h2.get? s.heap.objs.size = some { cls := .type "tuple", data := .seq #[.int i tk, y] } := (same2.2 _ (Nat.ne_of_gt le)).trans tup
    have made : ObjOk X.prog X.w (upd H s.heap.objs.size (.tup [.int (i : Nat), x])) h2 s.heap.objs.size (.tup [.int (i : Nat), x]) :=
      ⟨(by decide : 2 ≤ sizeLine), [.int i tk, y], .cons ⟨_, rfl⟩ (.cons rel .nil), ⟨_, tup2, rfl, _, rfl⟩⟩
    have I2 : Inv X pins σ (upd H s.heap.objs.size (.tup [.int (i : Nat), x])) { s with heap := h2, toks := tk + 1 } :=
      I.turnedNew (ch := [e, it]) (fun c o nc q => (same2.2 c (fun z => nc (by simp [z]))).trans (keep1 c o (fun z => nc (by simp [z])) (fun z => nc (by simp [z])) q)) free (Nat.le_refl _) made
    refine ⟨.ref s.heap.objs.size, _, I2, rfl, ⟨_, x, rfl, I.hok.fresh (Nat.le_refl _), rfl, fun ys hy => by rw [SqB.inj I hy sq]; exact at_⟩, ⟨⟨y, ?_⟩, st1.1.move fun o q => (same2.2 it (Ne.symm n1)).trans q⟩, fun c hcm => ?_⟩
    · have up : ((i + 1 : Nat) : Int) = (i : Int) + 1 := rfl
      rw [up]; exact isE2
    · have lc : c < s.heap.objs.size := by
        rcases (by simpa using hcm : c = e ∨ c = it) with z | z
        · rw [z]; exact le
        · rw [z]; exact li
      rw [upd_ne (Nat.ne_of_lt lc)]
      exact (free c hcm).1
  done := by
    intro X pX pw pK calm i pins s σ H E I free sta stop
    subst pX pw pK
    obtain ⟨⟨old, isE⟩, isI⟩ := sta
    obtain ⟨xs, sq, len⟩ := stop
    obtain ⟨its, holds, D⟩ := drawsEnd I calm sq n3 len
    obtain ⟨f0, f1, f2, f3, f4, f5⟩ := free it (by simp)
    exact wpAny_pyNext_enum_endD D isE ⟨rfl, isI, holds⟩ fun h1 ext => ⟨rfl, I.turned (t' := s.toks) (fun c o nc q => ext c o nc q) f0 f1 f3 f4 f5⟩
  self := fun A i s Q E sta q => let ⟨⟨_, isE⟩, _⟩ := sta; wpAny_pyIter_enum isE q
theorem meets_enum1 {v : Value} {o : Obj} {H : Heap → Prop} (B : Begins v o H) :
    Meets (Builtin.«enumerate.__new__» ⟨[.type "enumerate", v], []⟩) (fun _ R s => H s.heap ∧
      R (.ok (.ret (.ref (s.heap.push o).objs.size))) { s with heap := (s.heap.push o).push { cls := .type "enumerate", data := .fields #[.none, .bool false, .ref s.heap.objs.size, rawInt 0, .none, .none] } }) :=
  .of_wp fun prog w A R s h => by
    obtain ⟨hp, g, d, tk, os⟩ := s
    obtain ⟨begun, h⟩ := h
    have hsub := sub_enumerate
    have it0 : ∀ {A' : Around} {E : Value → Shared → Prop} {Q : Value → Shared → Prop}, Q (.ref hp.objs.size) ⟨hp.push o, g, d, tk, os⟩ → wpAny (model prog w) A' (pyIter v) Q E ⟨hp, g, d, tk, os⟩ :=
      fun q => B.iter prog w _ _ ⟨hp, g, d, tk, os⟩ _ begun q
    wp_walk using it0
    refine wpAny_stack_any fun st0 => wpAny_pure ?_
    split
    · rename_i c0 _ _ _ _ _
      cases (c0 == Value.type "enumerate")
      · wp_walk using it0
        exact ⟨_, rfl, h⟩
      · wp_walk using it0
        exact ⟨_, rfl, h⟩
    · wp_walk using it0
      exact ⟨_, rfl, h⟩
theorem call_enum1 {prog : Program} {w : World} {A : Around} {E : Value → Shared → Prop} {s : Shared} {v : Value} {o : Obj} {H : Heap → Prop} {Q : Value → Shared → Prop} (B : Begins v o H) (begun : H s.heap)
    (h : ∀ h', IsEnum h' (s.heap.objs.size + 1) s.heap.objs.size 0 .none → h'.get? s.heap.objs.size = some o → (∀ b o, s.heap.get? b = some o → h'.get? b = some o) → Q (.ref (s.heap.objs.size + 1)) { s with heap := h' }) :
    wpAny (model prog w) A (call (.type "enumerate") [v]) Q E s := by
  refine callType_new F.called_enumerate (by decide) (F.typeCall_enumerate_1 _) (F.newCall_enumerate_1 _) (fun obj => F.args_object_init_2 obj _) F.entry_enumerate_new
    (meets_enum1 B) ⟨begun, ?_⟩
  have size1 : (s.heap.push o).objs.size = s.heap.objs.size + 1 := Heap.size_push ..
  show _ ∧ _
  rw [size1]
  have isE : IsEnum ((s.heap.push o).push { cls := .type "enumerate", data := .fields #[.none, .bool false, .ref s.heap.objs.size, rawInt 0, .none, .none] }) (s.heap.objs.size + 1) s.heap.objs.size 0 .none := by
    have z := Heap.get?_push_size (s.heap.push o) (o := { cls := .type "enumerate", data := .fields #[.none, .bool false, .ref s.heap.objs.size, rawInt 0, .none, .none] }) rfl
    rw [size1] at z; exact z
  exact ⟨⟨_, isE, rfl⟩, h _ isE (Heap.get?_push_of_some _ (Heap.get?_push_size _ B.free)) fun b o x => Heap.get?_push_of_some _ (Heap.get?_push_of_some _ x)⟩
section
variable {X : Cx} {B : Base} {K : PySem.W.Frag} {n : Nat} {e : Expr} {te : TDX} {ta : TA} {p pos tpos : Pos} {elts : List Expr} {kk : Nat}
def iEnumB (K : PySem.W.Frag) (ta : TA) : TI := fun σ H R => ta σ H fun vs H1 => ∃ a xs b, vs = [.ref a] ∧ SqB K b H1 a xs ∧ R (IteB K b a) H1
theorem pi_enumB (hg : Gl X "enumerate") (hm : X.mg "enumerate" = none) (ha : PA X [e] ta) (hs : starEach [e] X.env = [(false, eval e X.env)] := by rfl) :
    PI X (.Tuple elts kk tpos) (.Call (.Name "enumerate" p) [e] [] pos) (iEnumB X.K ta) := by
  refine ⟨fun pins s σ H R I h => ?_⟩
  refine Call_ (ld_blt I hg hm boot_enumerate (PyProof.Rows.callWith_type1 (thn (ha.run pos pins s σ H _ I h) fun us s1 ⟨vs, H1, I1, r1, q1⟩ => ?_) hs rfl))
  obtain ⟨a, xs, b, ex, sq, q⟩ := q1
  subst ex
  cases r1 with
  | cons r rr =>
    cases rr
    cases r
    have fin : ∀ (o : Obj) (Hh : Heap → Prop), Begins (.ref a) o Hh → Hh s1.heap → (∀ h', h'.get? s1.heap.objs.size = some o → ItB b h' s1.heap.objs.size a 0) → a < s1.heap.objs.size →
        wpAny (model X.prog X.w) X.A (call (.type "enumerate") [.ref a]) (fun v s2 => wpAny (model X.prog X.w) X.A (pyIter v) (PIE X pins σ (.Tuple elts kk tpos) R) X.xe s2) X.xe s1 := fun o Hh Bg hh mk lt => by
      refine call_enum1 Bg hh fun h' isE got keep => wpAny_pyIter_enum isE ?_
      have I2 : Inv X pins σ H1 { s1 with heap := h' } := I1.kept (t' := s1.toks) keep
      refine ⟨s1.heap.objs.size + 1, [s1.heap.objs.size + 1, s1.heap.objs.size], _, _, H1, rfl, I2, turn_enumB (Nat.succ_ne_self _) (Nat.ne_of_gt (Nat.lt_succ_of_lt lt)) (Nat.ne_of_lt lt), ⟨⟨.none, isE⟩, mk _ got⟩, fun c hc => ?_, q⟩
      have le : s1.heap.objs.size ≤ c := by
        rcases (by simpa using hc : c = s1.heap.objs.size + 1 ∨ c = s1.heap.objs.size) with z | z
        · rw [z]; exact Nat.le_succ _
        · rw [z]; exact Nat.le_refl _
      exact I1.fpOk le (I1.hok.fresh le)
    cases b with
    | false =>
      obtain ⟨its, rv, pl, _⟩ := I1.list sq
      exact fin _ _ (begins_list a its.toArray) pl.isList (fun h' g => ⟨_, g, rfl, rfl⟩) (by obtain ⟨o, z, _⟩ := pl.isList; exact Heap.lt_size z)
    | true =>
      obtain ⟨its, rv, pl, _⟩ := I1.tuple sq
      exact fin _ _ (begins_tuple a its.toArray) pl (fun h' g => ⟨_, g, rfl, rfl⟩) (by obtain ⟨o, z, _⟩ := pl; exact Heap.lt_size z)
theorem SqB.up {K : PySem.W.Frag} {b : Bool} {F F' : Hp} {a : Addr} {xs : List V} (h : Up F F') (r : SqB K b F a xs) : SqB K b F' a xs := by
  cases b with
  | false => exact SqL.up h r
  | true => exact SqT.up h r
theorem iter_enumB {b : Bool} {a : Addr} {xs : List V} {ds : List D} {g1 : Gs} {H1 : Hp} (h : SqB K b g1.F a xs) (r : Dens K g1.W g1.F xs ds) : IterD K B n (IteB K b a) (enumD ds) g1 H1 := fun i g H σ δ st S =>
  ⟨fun d q => by
    obtain ⟨x0, e0, rfl⟩ := enumD_get q
    obtain ⟨v, e1, r1⟩ := r.get e0
    have hq : SqB K b H a xs := SqB.up S.ret.sub (SqB.up st.up h)
    refine ⟨⟨xs, v, hq, e1⟩, fun u H' z => ?_⟩
    obtain ⟨T, x', rfl, hT, rfl, f1⟩ := z
    have e4 : x' = v := Option.some.inj ((f1 xs hq).symm.trans e1)
    subst e4
    obtain ⟨S2, st2⟩ := S.alloc (n := n) (o := .tup [.int (i : Nat), x']) hT
    exact ⟨_, st2, S2, .tup (.inl (.inl upd_same)) (.cons (.int _) (.cons ((r1.step st).step st2) .nil))⟩, fun hl => ⟨xs, SqB.up S.ret.sub (SqB.up st.up h), by
      unfold enumD at hl
      simp only [List.length_map, List.length_zipIdx] at hl
      rw [r.length]; exact hl⟩⟩
/-- enumerate(list or tuple) -/
def dEnumB (te : TDX) : TDI := fun rx δ P => te rx δ fun d δ1 => match seqOf d with
  | some ds => P (enumD ds) δ1
  | none => False
theorem di_enumB (hg : Gl X "enumerate") (hm : X.mg "enumerate" = none) (he : DE X B e te) (hs : starEach [e] X.env = [(false, eval e X.env)] := by rfl) (hse : starEach (e :: []) X.env = (false, eval e X.env) :: starEach [] X.env := by rfl) :
    DI X B (.Tuple elts kk tpos) (.Call (.Name "enumerate" p) [e] [] pos) (dEnumB te) :=
  ⟨fun rx tk => PI.imp (pi_enumB hg hm ((da_cons he da_nil hse).run rx tk) hs) fun σ H R _ ⟨g, δ, P, S, q, k⟩ => ⟨g, δ, (fun ds δ' => match ds with
      | [d] => (match seqOf d with
        | some xs => P (enumD xs) δ'
        | none => False)
      | _ => False), S, q, fun ds δ1 g1 H1 vs h1 st1 S1 D1 => by
    cases D1 with
    | nil => exact h1.elim
    | cons r1 r2 =>
      cases r2 with
      | cons _ _ => exact h1.elim
      | nil =>
        cases r1 with
        | @lst a xs es h r => exact ⟨a, xs, false, rfl, SqL.of (S1.ret.sub _ _ h), k _ δ1 g1 H1 _ h1 st1 S1 (iter_enumB (b := false) (.inl (.inl h)) r)⟩
        | @kls a xs es h r => exact ⟨a, xs, false, rfl, SqL.up S1.ret.sub h, k _ δ1 g1 H1 _ h1 st1 S1 (iter_enumB (b := false) h r)⟩
        | @tup a xs es h r => exact ⟨a, xs, true, rfl, SqT.up S1.ret.sub h, k _ δ1 g1 H1 _ h1 st1 S1 (iter_enumB (b := true) h r)⟩
        | _ => exact h1.elim⟩⟩
end
end DL

/-! a loop over a written list of things to call -/
namespace DL
open PySem PySem.Spec L2
open PyProof.Rows hiding St
section
open LamX
variable {X : Cx} {pins : List (Addr × Obj)} {σ : L2.St} {H : Hp} {s : Shared}
/-- a lambda is made; its address is new -/
theorem lam_new2 {T : List (Addr × Str)} {c P : Addr} {params : Arguments} {body : Expr} {scope : Scope} {pos : Pos} {E : Value → Shared → Prop} {Q : Value → Shared → Prop} (I : Inv X pins σ H s) (TB : TabB X.base X.mg c P) (hcode : X.env.code = .ref c)
    (hm : (P, X.env.qual ++ "<lambda>") ∈ T) (hu : ∀ p ∈ T, p.1 = P → p.2 = X.env.qual ++ "<lambda>") (hT : Tabs T H) (hdef : defaultsOf params X.env = ([], [])) (hfree : ∀ y ∈ scope.names, y.2 = .free → ∃ c, X.env.cells.lookup y.1 = some c)
    (h : ∀ (f c' : Addr) (pm ctv : Value) (H1 : Hp) (s' : Shared), Inv X pins σ H1 s' → ExtN H H1 → (∀ a, H a ≠ none → H1 a ≠ none) → Tabs T H1 → s.heap.objs.size ≤ f →
      s'.heap.get? f = some (PySem.W.kla_obj "<lambda>" (X.env.qual ++ "<lambda>") params body scope (cloFrom X.env.cells scope.names []) pm c' ctv) → H1 f = none → H1 c' = some (CodeO c' (X.env.qual ++ "<lambda>")) → Q (.ref f) s') :
    wpAny (model X.prog X.w) X.A (eval (.Lambda params body scope pos) X.env) Q E s := by
  obtain ⟨ps, hP, ht, ha⟩ := hT _ hm
  refine PySem.W.kla_eval hdef ?_
  have bP : s.heap.BuiltinsAt X.mg P := TB.bm.keeps I.bk
  have hP' : s.heap.get? P = some { cls := .none, data := .fields ps } := I.hok P _ hP
  cases hc : codeAmong pos ps.toList with
  | some cv =>
    obtain ⟨c', e, hco⟩ := ha pos cv hc
    subst e
    refine PySem.W.kla_makeFunctionHit (mg := X.mg) (c := c) (P := P) (ps := ps) (closure_ok hfree) I.ok.glob (I.mod.glob.keeps I.bk) hcode (TB.code.keeps I.bk) hP' ht hc bP fun ctv h' tk hx hsz => ?_
    exact h h'.objs.size c' ((X.mg "__name__").getD .none) ctv H _ (I.kept fun b o e => Heap.get?_push_of_some _ (hx b o e)) (ExtN.refl H) (fun _ z => z) hT hsz (Heap.get?_push_size _ rfl) (I.hok.fresh hsz) hco
  | none =>
    refine PySem.W.kla_makeFunction (mg := X.mg) (c := c) (P := P) (ps := ps) (closure_ok hfree) I.ok.glob (I.mod.glob.keeps I.bk) hcode (TB.code.keeps I.bk) hP' ht hc TB.gP bP fun c' ctv h' tk hx hge hlt hrec htb => ?_
    obtain ⟨c2, oc, vs, t, e2, hoc, hd, hv⟩ := hrec
    cases e2
    have hsz : s.heap.objs.size ≤ h'.objs.size := Nat.le_trans hge (Nat.le_of_lt hlt)
    have nC : H c' = none := I.hok.fresh hge
    have I1 := inv_table (t' := tk) (more := #[rawInt pos.line, rawInt pos.col, .ref c']) (h' := h'.push (PySem.W.kla_obj "<lambda>" (X.env.qual ++ "<lambda>") params body scope (cloFrom X.env.cells scope.names []) ((X.mg "__name__").getD .none) c' ctv)) I hP
      (fun b o hb e => Heap.get?_push_of_some _ (hx b o hb e)) (Heap.get?_push_of_some _ htb) hge ⟨oc, vs, t, Heap.get?_push_of_some _ hoc, hd, hv⟩
    have hE : ExtN H (upd (upd H P (.tbl (ps ++ #[rawInt pos.line, rawInt pos.col, .ref c']))) c' (CodeO c' (X.env.qual ++ "<lambda>"))) := fun b o e n => by
      rw [upd_ne (ne_of_none e nC), upd_ne (fun z => n ps (Option.some.inj (e.symm.trans (by rw [z]; exact hP))))]
      exact e
    have eL : (ps ++ #[rawInt pos.line, rawInt pos.col, .ref c']).toList = ps.toList ++ [rawInt pos.line, rawInt pos.col, .ref c'] := by simp
    refine h h'.objs.size c' ((X.mg "__name__").getD .none) ctv _ _ I1 hE (fun a z => upd_thr a (upd_thr a z)) (fun p hp => ?_) hsz (Heap.get?_push_size _ rfl) ?_ upd_same
    · by_cases hb : p.1 = P
      · rw [hu p hp hb, hb]
        refine ⟨_, by rw [upd_ne (ne_of_none hP nC), upd_same], by rw [eL]; exact PySem.TriplesOk_snoc _ _ _ _ ht, fun p' cv hcv => ?_⟩
        rw [eL] at hcv
        rcases among_app _ ht hcv with z | z
        · obtain ⟨c0, e1, e2⟩ := ha p' cv z
          exact ⟨c0, e1, hE _ _ e2 codeO_ne⟩
        · exact ⟨c', z, upd_same⟩
      · obtain ⟨ps', a1, a2, a3⟩ := hT p hp
        refine ⟨ps', by rw [upd_ne (ne_of_none a1 nC), upd_ne hb]; exact a1, a2, fun p' cv hcv => ?_⟩
        obtain ⟨c0, e1, e2⟩ := a3 p' cv hcv
        exact ⟨c0, e1, hE _ _ e2 codeO_ne⟩
    · rw [upd_ne (Nat.ne_of_gt hlt), upd_ne (Nat.ne_of_gt (Nat.lt_of_lt_of_le (Heap.lt_size hP') hsz))]
      exact I.hok.fresh hsz
end
/-- fl, called from any state of X, does as tb says of that state's slots -/
def CallN (X : Cx) (B : Base) (k : Nat) (fl : Addr) (tb : TDX) : Prop := ∀ (pins : List (Addr × Obj)) (σ : L2.St) (H : Hp) (s : Shared) (g : Gs) (δ : Env), Inv X pins σ H s → Stt X.K B g H σ δ → CallD X.prog X.w X.K X.mg X.base B.T k s g.F H g.W fl (fun P' RX => tb RX (shOnly δ) fun d _ => P' d)
section
variable {X : Cx} {B : Base} {kc k i : Nat} {fl : Addr} {tb : TDX} {wpG : TL → TL} {a x : Str} {p p1 p2 pos : Pos}
/-- g(a), a the loop's name -/
def dPassL (i : Nat) (wpG : TL → TL) (fl : Addr) (tb : TDX) : TDX := fun rx δ P => δ[i]? = some (some (.sh (.adr fl))) ∧ wpG (fun P' RX => tb RX (shOnly δ) fun d _ => P' d) (fun d => P d δ) rx
theorem de_passL (G : FnC X.prog X.w X.K X.mg X.base B.T x kc k wpG) (CN : CallN X B kc fl tb) (hr : Rm k X.A) (hg : Gl X x) (hn : PE X (.Name a p1) (tVar i)) (hs : starEach [.Name a p1] X.env = (false, eval (.Name a p1) X.env) :: starEach [] X.env := by rfl)
    (hdb : (x == ("__debug__" : Str)) = false := by decide) : DE X B (.Call (.Name x p) [.Name a p1] [] pos) (dPassL i wpG fl tb) := by
  obtain ⟨f, fd, a', hm, hk, hb, go⟩ := G.ex
  refine ⟨fun rx tk => ⟨fun pins s σ H Q I h => ?_⟩⟩
  obtain ⟨g, δ, P, S, ⟨e, q⟩, k1⟩ := h
  obtain ⟨v, e1, r⟩ := S.env i _ e
  cases r
  refine wpAny_Call_Name_kw (ld_glob I hg hm ?_ hdb)
  refine PySem.W.callWith_K (h₀ := X.base) I.ok.mod.kin hk ?_ hs (by rfl)
  rw [hs]
  show wpAny _ _ (spliced ((false, eval (.Name a p1) X.env) :: backTo pos (starEach [] X.env))) _ _ s
  refine Calls.spliced_cons (thn (hn.run pins s σ H (fun v H1 => v = .ref fl ∧ H1 = H) I ⟨_, e1, rfl, rfl⟩) fun u s1 ⟨v, H1, I1, r1, q1⟩ => Calls.spliced_nil ⟨I1.kIn, ?_⟩)
  obtain ⟨rfl, rfl⟩ := q1
  obtain rfl : u = Value.ref fl := r1
  have CL := CN _ _ _ _ g δ I1 S
  refine wpAny_call (codeAny_mono (go X.A X.stack s1 g.F H1 g.W (.ref fl) fl _ Q (liftX X.K B rx) _ rx rfl hr I1.env0 S.ret.gd (hb s1 _) CL q (fun d v F' W' H' hp rt dn => ?_) fun cls dd H' hx => liftX.trans S.ret hx) fun r s2 hq => ?_)
  · obtain ⟨S2, st2⟩ := S.after (n := X.N.length) rt
    exact k1 d δ _ H' v hp st2 S2 dn
  · have z := after_call I1 (passes_lift tk) hq
    rcases r with e | fl
    · exact z
    · cases fl <;> exact z
end
section
open LamX
/-- a written lambda, and what its body says -/
structure LamOk (X : Cx) (T : List (Addr × Str)) (kc : Nat) (e : Expr) (tb : TDX) : Prop where
  ex : ∃ (params : Arguments) (body : Expr) (scope : Scope) (pos : Pos), e = .Lambda params body scope pos ∧ LamS X.env.scope scope ∧ defaultsOf params X.env = ([], []) ∧ (∀ (q : Str) (cl : List (Str × Addr)) (pm cv ctv : Value), bindArgs (PySem.W.kla_fn "<lambda>" q params body scope cl pm cv ctv) ⟨[], []⟩ = pure []) ∧
    ∀ (f c' : Addr) (A : Around) (outer : List PySem.Env) (s1 : Shared) (H1 : Hp) (E : XK) (B' : Base), B'.T = T → Rm kc (A.deeper (lamEnv X scope s1.heap.objs.size f c')) → DE (lamCx X A outer s1 H1 E scope f c') B' body tb
inductive LamsOk (X : Cx) (T : List (Addr × Str)) (kc : Nat) : List Expr → List TDX → Prop
  | nil : LamsOk X T kc [] []
  | cons {e : Expr} {es : List Expr} {tb : TDX} {tbs : List TDX} : LamOk X T kc e tb → starEach (e :: es) X.env = (false, eval e X.env) :: starEach es X.env → LamsOk X T kc es tbs → LamsOk X T kc (e :: es) (tb :: tbs)
/-- the lambda's object f is pinned, its code is held -/
def LamAt (X : Cx) (T : List (Addr × Str)) (kc : Nat) (pn : List (Addr × Obj)) (H : Hp) (f : Addr) (tb : TDX) : Prop := ∃ (params : Arguments) (body : Expr) (scope : Scope) (c' : Addr) (pm ctv : Value),
  (f, PySem.W.kla_obj "<lambda>" (X.env.qual ++ "<lambda>") params body scope (cloFrom X.env.cells scope.names []) pm c' ctv) ∈ pn ∧ H c' = some (CodeO c' (X.env.qual ++ "<lambda>")) ∧ LamS X.env.scope scope ∧
    (∀ (q : Str) (cl : List (Str × Addr)) (pm cv ctv : Value), bindArgs (PySem.W.kla_fn "<lambda>" q params body scope cl pm cv ctv) ⟨[], []⟩ = pure []) ∧
    ∀ (A : Around) (outer : List PySem.Env) (s1 : Shared) (H1 : Hp) (E : XK) (B' : Base), B'.T = T → Rm kc (A.deeper (lamEnv X scope s1.heap.objs.size f c')) → DE (lamCx X A outer s1 H1 E scope f c') B' body tb
inductive LamsAt (X : Cx) (T : List (Addr × Str)) (kc : Nat) (pn : List (Addr × Obj)) (H : Hp) : List Addr → List TDX → Prop
  | nil : LamsAt X T kc pn H [] []
  | cons {f : Addr} {fs : List Addr} {tb : TDX} {tbs : List TDX} : LamAt X T kc pn H f tb → LamsAt X T kc pn H fs tbs → LamsAt X T kc pn H (f :: fs) (tb :: tbs)
theorem LamAt.ext {X : Cx} {T : List (Addr × Str)} {kc : Nat} {pn pn' : List (Addr × Obj)} {H H' : Hp} {f : Addr} {tb : TDX} (h : LamAt X T kc pn H f tb) (hp : ∀ q ∈ pn, q ∈ pn') (hH : ExtN H H') : LamAt X T kc pn' H' f tb := by
  obtain ⟨a, b, c, d, e, u, h1, h2, h3⟩ := h
  exact ⟨a, b, c, d, e, u, hp _ h1, hH _ _ h2 codeO_ne, h3⟩
theorem LamsAt.ext {X : Cx} {T : List (Addr × Str)} {kc : Nat} {pn pn' : List (Addr × Obj)} {H H' : Hp} {fs : List Addr} {tbs : List TDX} (h : LamsAt X T kc pn H fs tbs) (hp : ∀ q ∈ pn, q ∈ pn') (hH : ExtN H H') : LamsAt X T kc pn' H' fs tbs := by
  induction h with
  | nil => exact .nil
  | cons a _ ih => exact .cons (a.ext hp hH) ih
theorem LamsAt.len {X : Cx} {T : List (Addr × Str)} {kc : Nat} {pn : List (Addr × Obj)} {H : Hp} {fs : List Addr} {tbs : List TDX} (h : LamsAt X T kc pn H fs tbs) : fs.length = tbs.length := by
  induction h with
  | nil => rfl
  | cons _ _ ih => simp [ih]
theorem LamsAt.get {X : Cx} {T : List (Addr × Str)} {kc : Nat} {pn : List (Addr × Obj)} {H : Hp} {fs : List Addr} {tbs : List TDX} (h : LamsAt X T kc pn H fs tbs) : ∀ {i : Nat} {f : Addr}, fs[i]? = some f → ∃ tb, tbs[i]? = some tb ∧ LamAt X T kc pn H f tb := by
  induction h with
  | nil => intro i f e; simp at e
  | cons a _ ih =>
    intro i f e
    cases i with
    | zero => simp at e; subst e; exact ⟨_, rfl, a⟩
    | succ i => exact ih (by simpa using e)
section
variable {X : Cx} {B : Base} {kc : Nat} {c Pt : Addr} {n : Nat}
theorem lams_new (TB : TabB X.base X.mg c Pt) (hcode : X.env.code = .ref c) (hmT : (Pt, X.env.qual ++ "<lambda>") ∈ B.T) (hu : ∀ p ∈ B.T, p.1 = Pt → p.2 = X.env.qual ++ "<lambda>") {g : Gs} {δ : Env} {σ : L2.St} {E : Value → Shared → Prop} {p : Pos} {es : List Expr} {tbs : List TDX} (h : LamsOk X B.T kc es tbs) :
    ∀ (pins : List (Addr × Obj)) (s : Shared) (H : Hp) (Q : List Value → Shared → Prop), Inv X pins σ H s → Stt X.K B g H σ δ →
      (∀ (fs : List Addr) (more : List (Addr × Obj)) (H1 : Hp) (s1 : Shared), Inv X (pins ++ more) σ H1 s1 → Stt X.K B g H1 σ δ → ExtN H H1 → Step n g H g H1 → LamsAt X B.T kc (pins ++ more) H1 fs tbs → Q (fs.map Value.ref) s1) →
      wpAny (model X.prog X.w) X.A (spliced (backTo p (starEach es X.env))) Q E s := by
  induction h with
  | nil =>
    intro pins s H Q I S k
    exact Calls.spliced_nil (k [] [] H s (by simpa using I) S (ExtN.refl H) (Step.refl _ _ _) .nil)
  | @cons e es tb tbs l hs _ ih =>
    intro pins s H Q I S k
    obtain ⟨params, body, scope, pos, rfl, L, hdef, hbind, hbody⟩ := l.ex
    rw [hs]
    show wpAny _ _ (spliced ((false, eval (.Lambda params body scope pos) X.env) :: backTo p (starEach es X.env))) _ _ s
    refine Calls.spliced_cons (lam_new2 I TB hcode hmT hu S.ret.tab hdef (L.has I.ok) fun f c' pm ctv H1 s1 I1 eN th T1 hge hf hfn hco => ?_)
    obtain ⟨S1, st1⟩ := S.extN (n := n) eN th T1
    have I2 : Inv X (pins ++ [(f, PySem.W.kla_obj "<lambda>" (X.env.qual ++ "<lambda>") params body scope (cloFrom X.env.cells scope.names []) pm c' ctv)]) σ H1 s1 := I1.pins_of fun q hq => by
      rcases List.mem_append.mp hq with z | z
      · exact I1.pin q (List.mem_append_right _ z)
      · obtain rfl : q = _ := List.mem_singleton.mp z
        exact ⟨hf, hfn, Nat.ne_of_gt (Nat.lt_of_lt_of_le I.lt hge), I.nofs hge, fun v z => by cases z⟩
    refine ih _ s1 H1 _ I2 S1 fun fs more H2 s2 I3 S3 eN2 st2 hl => ?_
    rw [List.append_assoc] at I3 hl
    refine k (f :: fs) _ H2 s2 I3 S3 (fun b o e ne => eN2 b o (eN b o e ne) ne) (st1.trans st2) (.cons ⟨params, body, scope, c', pm, ctv, by simp, eN2 _ _ hco codeO_ne, L, hbind, fun A outer s1 H1 E B' => hbody f c' A outer s1 H1 E B'⟩ hl)
/-- at any later state it may be called -/
theorem callN_of {pn0 pn : List (Addr × Obj)} {H : Hp} {g : Gs} {σ : L2.St} {δ : Env} {f : Addr} {tb : TDX} (h : LamAt X B.T kc pn0 H f tb) (hp : ∀ q ∈ pn0, q ∈ pn) (S : Stt X.K B g H σ δ) : CallN (X.tr pn X.xe) ⟨g.F, H, g.W, B.T⟩ (kc + 1) f tb := by
  obtain ⟨params, body, scope, c', pm, ctv, h1, h2, L, hbind, hbody⟩ := h
  intro pins σ0 H0 s0 g0 δ0 I0 S0
  obtain ⟨q1, q2, _⟩ := I0.pin _ (List.mem_append_left _ (hp _ h1))
  have hc : H0 c' = some (CodeO c' (X.env.qual ++ "<lambda>")) := S0.ret.old c' _ h2 (fun w => by
    by_cases q : has g.W c'
    · obtain ⟨o, e, po⟩ := has_plain S.ret.drw q
      rw [h2] at e; cases e; exact po
    · have z := S0.ret.dnew c' w q
      rw [show (Base.mk g.F H g.W B.T).H c' = H c' from rfl, h2] at z; cases z) fun ps z => codeO_ne ps z
  exact callD_lam (X := X.tr pn X.xe) I0 S0 L q1 q2 hc (hbind _ _ _ _ _) fun A o s1 H1 E B' e hr => hbody A o s1 H1 E B' e hr
end
end
/-! ### the loop: for a in [lambda: .., ..]: if test: return False -/
def dLamsN (i : Nat) (tt : Addr → TDX → TDB) (rx : D → Prop) (DE : DEnds) (δ0 : Env) : List TDX → Prop
  | [] => DE.nx (δ0.set i none)
  | tb :: r => ∀ fl, tt fl tb rx ((shOnly δ0).set i (some (.sh (.adr fl)))) fun b _ => if b = true then DE.rt (.bl false) else dLamsN i tt rx DE δ0 r
def dLams (i : Nat) (tt : Addr → TDX → TDB) (tbs : List TDX) : TDS := fun rx DE δ => dLamsN i tt rx DE δ tbs
theorem takes_tr {X : Cx} {W W' : WX} {pins : List (Addr × Obj)} (ok : X.Ok) (tk : Takes X W) (h : ∀ c d σ H, W' c d σ H → W c d σ H) : Takes (X.tr (X.pn ++ pins) X.xe) W' := fun u s' ⟨a, Bh, sI, pn, σ, H, cls, d, e, I, nb, up, sky, na, os, ag, w⟩ =>
  tk u s' ⟨a, Bh, sI, pins, σ, H, cls, d, e, I.ofTry ok, nb, up, sky, na, os, ag, h _ _ _ _ w⟩
section
open LamX
variable {X : Cx} {B : Base} {kc i : Nat} {c Pt : Addr} {a : Str} {p p1 p2 p3 p4 p5 pos : Pos} {es : List Expr} {tbs : List TDX} {tt : Addr → TDX → TDB} {test : Expr} {j0 : Nat}
theorem stt_sig {K : PySem.W.Frag} {g : Gs} {H : Hp} {σ : L2.St} {δ : Env} {x : Option V} (S : Stt K B g H σ δ) : Stt K B g H (σ.set i x) (δ.set i none) := ⟨S.ret, S.own, by simpa using S.len, fun j t e => by
  rcases getSet e with ⟨_, e2, _⟩ | ⟨e1, e2⟩
  · cases e2
  · rw [List.getElem?_set_ne (Ne.symm e1)]; exact S.env j t e2⟩
theorem stt_in {K : PySem.W.Frag} {g : Gs} {H HL H' F' : Hp} {W' : DW} {σ σ' : L2.St} {δ : Env} {T : List (Addr × Str)} {fl : Addr} (S : Stt K B g H σ δ) (hl : i < σ.length) (r : Ret ⟨g.F, HL, g.W, T⟩ F' H' W') (hσ : ∀ j, j ≠ i → σ'[j]? = σ[j]?) (hlen : σ'.length = σ.length) :
    Stt K ⟨g.F, HL, g.W, T⟩ ⟨F', fun _ => none, W'⟩ H' (σ'.set i (some (.ref fl))) ((shOnly δ).set i (some (.sh (.adr fl)))) := ⟨r, fun b k e => (nomatch e), by simp [shOnly, S.len, hlen], fun j t e => by
  rcases getSet e with ⟨e1, e2, _⟩ | ⟨e1, e2⟩
  · subst e1
    cases e2
    exact ⟨_, List.getElem?_set_self (by omega), .adr fl⟩
  · obtain ⟨d, rfl, e3⟩ := shOnly_get e2
    obtain ⟨v, e4, rv⟩ := S.env j _ e3
    exact ⟨v, by rw [List.getElem?_set_ne (Ne.symm e1), hσ j e1, e4], rv.up r.up r.wle⟩⟩
theorem ds_lams (hp : PassesOwn (model X.prog X.w) X.A X.env X.xe) (hcalm : X.calm = true) (TB : TabB X.base X.mg c Pt) (hcode : X.env.code = .ref c) (hmT : (Pt, X.env.qual ++ "<lambda>") ∈ B.T) (hu : ∀ p ∈ B.T, p.1 = Pt → p.2 = X.env.qual ++ "<lambda>")
    (hN : X.N.Nodup) (hi : X.N[i]? = some a) (hx : Loc X.env.scope a) (ls : LamsOk X B.T kc es tbs) (hsz : tbs.length ≤ sizeLine)
    (ht : ∀ (fl : Addr) (tb : TDX) (pn : List (Addr × Obj)) (B' : Base), B'.T = B.T → CallN (X.tr pn X.xe) B' (kc + 1) fl tb → DT (X.tr pn X.xe) B' test (tt fl tb))
    (hf : X.fn a = true ∨ X.env.scope.names.lookup a = some .local := by first | exact .inl rfl | exact .inr rfl | assumption) (hs : ∀ x, foldedSetIterable (.List es p2) X.env x = pure x := by intro _; rfl) :
    DS X B (.For (.Name a p1) (.List es p2) [.If test [.Return (some (.Constant (.bool false) j0 p3)) p4] [] p5] [] pos) (dLams i tt tbs) := by
  refine ⟨fun rx tk => ⟨fun pins s σ H D I h => ?_⟩⟩
  obtain ⟨g, δ, DE, S, q, k1, k2, k3, k4⟩ := h
  have hil : i < σ.length := by rw [I.len]; exact (List.getElem?_eq_some_iff.mp hi).1
  refine wpAny_For (wpAny_List_spliced (lams_new (n := X.N.length) TB hcode hmT hu ls pins s H _ I S fun fs more H1 s1 I1 S1 eN1 st1 hl => ⟨by rw [List.length_map, hl.len]; exact hsz, ?_⟩)) hs
  have fr : H1 s1.heap.objs.size = none := I1.hok.fresh (Nat.le_refl _)
  have uH := up_upd (o := HO.lst (fs.map V.ref)) fr
  have vals : ∀ l : List Addr, Vals (l.map V.ref) (l.map Value.ref) := fun l => by
    induction l with
    | nil => exact .nil
    | cons z l ih => exact .cons rfl ih
  have I2 : Inv X (pins ++ more) σ (upd H1 s1.heap.objs.size (.lst (fs.map V.ref))) { s1 with heap := s1.heap.push { cls := .type "list", data := .seq (fs.map Value.ref).toArray } } :=
    I1.laid (t' := s1.toks) (fun b u e => Heap.get?_push_of_some _ e) (Nat.le_refl _) ⟨by rw [List.length_map, hl.len]; exact hsz, _, 0, vals fs, Heap.get?_push_size _ rfl⟩
  have S2 : Stt X.K B g (upd H1 s1.heap.objs.size (.lst (fs.map V.ref))) σ δ := S1.grow (F' := g.F) uH (Up.refl _) (S1.ret.sub.trans uH) (fun _ _ => rfl) S1.ret.fnt
  have st2 : Step X.N.length g H g (upd H1 s1.heap.objs.size (.lst (fs.map V.ref))) := st1.trans (S1.growStep (F' := g.F) uH (Up.refl _))
  have hl2 := hl.ext (H' := upd H1 s1.heap.objs.size (.lst (fs.map V.ref))) (fun _ z => z) fun b o e _ => uH b o e
  have hq : SqL X.K (upd H1 s1.heap.objs.size (.lst (fs.map V.ref))) s1.heap.objs.size (fs.map V.ref) := SqL.of upd_same
  have nA : ¬ has g.W s1.heap.objs.size := fun h => by
    obtain ⟨o, e, _⟩ := has_plain S1.ret.drw h
    rw [fr] at e; cases e
  have atA : (upd H1 s1.heap.objs.size (.lst (fs.map V.ref))) s1.heap.objs.size = some (.lst (fs.map V.ref)) := upd_same
  generalize s1.heap.objs.size = la at I2 S2 st2 hl2 hq nA atA ⊢
  generalize upd H1 la (.lst (fs.map V.ref)) = HL at I2 S2 st2 hl2 hq nA atA ⊢
  clear uH fr
  generalize { s1 with heap := s1.heap.push { cls := .type "list", data := .seq (fs.map Value.ref).toArray } } = s2 at I2 ⊢
  obtain ⟨its, rv, pl, hz⟩ := I2.list hq
  refine wpAny_pyIter_list pl.isList ?_
  have I3 : Inv X (pins ++ more) σ HL { s2 with heap := s2.heap.push { cls := .type "list_iterator", data := .fields #[.ref la, .int 0 0] } } := I2.kept (t' := s2.toks) fun b o e => Heap.get?_push_of_some _ e
  have f3 : ∀ b ∈ [s2.heap.objs.size], FpOk X (pins ++ more) HL b := fun b hb => by
    obtain rfl : b = _ := List.mem_singleton.mp hb
    exact I2.fpOk (Nat.le_refl _) (I2.hok.fresh (Nat.le_refl _))
  have t3 : Heap.IsListIter ({ s2 with heap := s2.heap.push { cls := .type "list_iterator", data := .fields #[.ref la, .int 0 0] } } : Shared).heap s2.heap.objs.size la 0 := ⟨_, Heap.get?_push_size _ rfl, rfl, rfl⟩
  generalize s2.heap.objs.size = it at f3 t3 ⊢
  generalize { s2 with heap := s2.heap.push { cls := .type "list_iterator", data := .fields #[.ref la, .int 0 0] } } = s3 at I3 t3 ⊢
  have T := turn_list (P := X.prog) (w := X.w) (K := X.K) (tg := .Name a p1) la it
  have stat : ∀ {H' : Hp}, H' it = none → ∀ b ∈ [it], FpOk X (pins ++ more) H' b := fun hn b hb => by
    obtain rfl : b = it := List.mem_singleton.mp hb
    exact ⟨hn, (f3 b hb).2⟩
  refine codeAny_forLoop_any (fun m s' => ∃ (j : Nat) (σ' : L2.St) (F' H' : Hp) (W' : DW), Inv X (pins ++ more) σ' H' s' ∧ s'.heap.IsListIter it la j ∧ H' it = none ∧ Ret ⟨g.F, HL, g.W, B.T⟩ F' H' W' ∧ ((∀ j, j ≠ i → σ'[j]? = σ[j]?) ∧ σ'.length = σ.length) ∧ m = tbs.length - j ∧ j ≤ tbs.length ∧ dLamsN i tt rx DE δ (tbs.drop j)) ?_ tbs.length
    ⟨0, σ, g.F, HL, g.W, I3, t3, (f3 it (by simp)).1, Ret.refl S2.ret.gd, ⟨fun _ _ => rfl, rfl⟩, rfl, Nat.zero_le _, by rw [List.drop_zero]; exact q⟩
  rintro m s4 ⟨j, σ4, F4, H4, W4, I4, t4, n4, r4, ⟨e4, l4⟩, rfl, hj, q4⟩
  have hq4 : SqL X.K H4 la (fs.map V.ref) := SqL.of (r4.old la _ atA (fun w => by
    have z := r4.dnew la w nA
    rw [show (Base.mk g.F HL g.W B.T).H la = HL la from rfl, atA] at z; cases z) fun ps z => by cases z)
  have hfl := hl2.len
  by_cases hlt : j < tbs.length
  · have hjf : j < fs.length := by omega
    have go : (Itl X.K la).go j H4 := ⟨fs.map V.ref, .ref fs[j], hq4, by simp [hjf]⟩
    refine wpAny_passesOwn hp (thn (T.item X rfl rfl rfl hcalm j (pins ++ more) s4 σ4 H4 X.xe I4 (stat n4) t4 go) fun r s5 ⟨u, hr, h5⟩ => ?_)
    subst hr
    refine wpAny_passesOwn hp (thn h5 fun _ s6 ⟨x, H6, I6, r6, y6, t6, n6⟩ => ?_)
    obtain ⟨rfl, y6⟩ := y6
    have y7 := y6 _ hq4
    rw [List.getElem?_map, List.getElem?_eq_getElem hjf] at y7
    obtain rfl : V.ref fs[j] = x := Option.some.inj y7
    obtain ⟨tb, etb, la8⟩ := hl2.get (List.getElem?_eq_getElem hjf)
    have I6' := I6.pinned (stat (n6 it (by simp))) (T.obj _ _ t6)
    refine wpAny_passesOwn hp (thn ((pg_name (pos := p1) hN hi hx hf).run _ s6 σ4 H6 (V.ref fs[j]) u (fun σ' H' => σ' = σ4.set i (some (V.ref fs[j])) ∧ H' = H6) I6' r6 ⟨rfl, rfl⟩) fun _ s7 ⟨σ7, H7, I7, q7⟩ => ?_)
    obtain ⟨rfl, rfl⟩ := q7
    have I8 := I7.toTry X.xe
    have CN := callN_of (pn := X.pn ++ (pins ++ more ++ pinsAt [it] s6.heap)) la8 (fun z hz => List.mem_append_right _ (List.mem_append_left _ hz)) S2
    have tc := (ht fs[j] tb _ ⟨g.F, HL, g.W, B.T⟩ rfl CN).run rx (takes_tr (W' := XW (liftX X.K ⟨g.F, HL, g.W, B.T⟩ rx)) I.ok tk fun cl d _ H' hx => liftX.trans S2.ret hx)
    have body := pss_one (ps_if (pos := p5) tc (pss_one (ps_ret (pos := p4) (pe_bl (b := false) (j := j0) (pos := p3)))) pss_nil)
    have hd : tbs.drop j = tb :: tbs.drop (j + 1) := by
      rw [List.drop_eq_getElem_cons hlt]
      rw [List.getElem?_eq_getElem hlt] at etb
      rw [Option.some.inj etb]
    rw [hd] at q4
    refine wpAny_passesOwn hp (thn (body.run [] s7 _ H7 { nx := fun σ' H' => σ' = σ4.set i (some (V.ref fs[j])) ∧ ∃ (F' : Hp) (W' : DW), Ret ⟨g.F, HL, g.W, B.T⟩ F' H' W' ∧ dLamsN i tt rx DE δ (tbs.drop (j + 1)), rt := D.rt } I8
      ⟨⟨F4, fun _ => none, W4⟩, _, _, stt_in S2 hil r4 e4 l4, q4 fs[j], fun b δ' g' H' hp st S' => ?_⟩) fun f s8 q8 => ?_)
    · cases b with
      | true => exact k2 _ _ _ _ _ hp (S2.ret.trans S'.ret) (.bl false)
      | false => exact ⟨rfl, g'.F, g'.W, S'.ret, hp⟩
    · cases f with
      | next =>
        obtain ⟨σ8, H8, I8, rfl, F8, W8, r8, q8⟩ := q8
        refine ⟨tbs.length - (j + 1), by omega, j + 1, _, F8, H8, W8, (I8.ofTry I.ok).unpinned, ?_, ?_, r8, ⟨fun j' hj' => by rw [List.getElem?_set_ne (Ne.symm hj')]; exact e4 j' hj', by simpa using l4⟩, rfl, hlt, q8⟩
        · exact T.keep _ _ _ t6 fun b hb o e => ((I8.ofTry I.ok).pin (b, o) (List.mem_append_right _ (List.mem_append_right _ (mem_pinsAt hb e)))).1
        · obtain ⟨o, e, d⟩ := T.obj _ _ t6 it (by simp)
          exact ((I8.ofTry I.ok).pin (it, o) (List.mem_append_right _ (List.mem_append_right _ (mem_pinsAt (by simp) e)))).2.1
      | cont => obtain ⟨σ8, H8, I8, q8⟩ := q8; exact q8.elim
      | brk => obtain ⟨σ8, H8, I8, q8⟩ := q8; exact q8.elim
      | ret v => obtain ⟨x8, σ8, H8, I8, r8, q8⟩ := q8; exact ⟨x8, σ8, H8, (I8.ofTry I.ok).unpinned.unpinned, r8, q8⟩
  · have hjl : j = tbs.length := by omega
    subst hjl
    rw [List.drop_length] at q4
    refine wpAny_passesOwn hp (thn (T.done X rfl rfl rfl hcalm _ (pins ++ more) s4 σ4 H4 X.xe I4 (stat n4) t4 ⟨_, hq4, by simp [hfl]⟩) fun r s5 ⟨hr, I5⟩ => ?_)
    subst hr
    obtain ⟨S5, st5⟩ := S2.after (n := X.N.length) r4
    have S6 := stt_sig (i := i) (x := σ4[i]?.getD none) S5
    have e5 : σ.set i (σ4[i]?.getD none) = σ4 := by
      refine List.ext_getElem? fun k => ?_
      by_cases hk : k = i
      · subst hk
        rw [List.getElem?_set_self hil, List.getElem?_eq_getElem (by omega)]; rfl
      · rw [List.getElem?_set_ne (Ne.symm hk), e4 k hk]
    rw [e5] at S6
    exact wpAny_execs_nil ⟨σ4, H4, I5.unpinned, k1 _ _ _ _ q4 (st2.trans st5) S6⟩
end
end DL

/-! tuple * int for every int; products, quotients, remainders of great ints; range with a step; three names at once -/
namespace DL
open PySem PySem.Spec L2
open PyProof.Rows hiding St
theorem tup_mul_none (tp : Addr) (its : Array Value) (m : Nat) (od : Option Addr) (slt : Array (Option Value)) (k : Int) (tk : Tok) (d0 : (decide (k < -(2 ^ 63)) || decide (k ≥ 2 ^ 63)) = false) (d1 : (its.isEmpty || k == 1) = false) (d2 : (decide (k ≤ 0) || its.isEmpty) = true) :
    Meets (Builtin.«tuple.__mul__» ⟨[.ref tp, .int k tk], []⟩) (fun _ R z => z.heap.get? tp = some { cls := .type "tuple", dict := od, data := .seq its m, slots := slt } ∧
      R (.ok (.ret (Value.ref z.heap.objs.size))) { z with heap := z.heap.push { cls := Value.type "tuple", data := Data.seq #[] }, toks := z.toks }) :=
  .of_wp fun prog w A R z hz => by
    obtain ⟨hh, gg, dr, tt, oo⟩ := z
    obtain ⟨hl, hz⟩ := hz
    have fx := AutoSeq1.idx_int
    wp_walk using wpAny_loadPart' hl
    repeat (first
      | (refine wpAny_ite_false (decide_eq_false (by rw [d0]; exact Bool.false_ne_true)) ?_; wp_walk using wpAny_loadPart' hl)
      | (refine wpAny_ite_false (decide_eq_false (by rw [d1]; exact Bool.false_ne_true)) ?_; wp_walk using wpAny_loadPart' hl)
      | (refine wpAny_ite_true (decide_eq_true d2) ?_; wp_walk using wpAny_loadPart' hl)
      | (refine wpAny_ite_false (decide_eq_false (by decide)) ?_; wp_walk using wpAny_loadPart' hl))
    exact ⟨_, rfl, hz⟩
theorem tup_mul_one (tp : Addr) (its : Array Value) (m : Nat) (od : Option Addr) (slt : Array (Option Value)) (tk : Tok) :
    Meets (Builtin.«tuple.__mul__» ⟨[.ref tp, .int 1 tk], []⟩) (fun _ R z => z.heap.get? tp = some { cls := .type "tuple", dict := od, data := .seq its m, slots := slt } ∧
      R (.ok (.ret (Value.ref tp))) z) :=
  .of_wp fun prog w A R z hz => by
    obtain ⟨hh, gg, dr, tt, oo⟩ := z
    obtain ⟨hl, hz⟩ := hz
    have fx := AutoSeq1.idx_int
    have d1 : (its.isEmpty || (1 : Int) == 1) = true := by simp
    wp_walk using wpAny_loadPart' hl
    repeat (first
      | (refine wpAny_ite_true (decide_eq_true d1) ?_; wp_walk using wpAny_loadPart' hl))
    exact ⟨_, rfl, hz⟩
/-- tuple * int -/
def rRepG (K : PySem.W.Frag) : R2 := fun x y H Q => ∃ l k xs, x = .ref l ∧ y = .int k ∧ SqT K H l xs ∧ xs ≠ [] ∧ (-(2 ^ 63) ≤ k ∧ k < 2 ^ 63 ∧ xs.length * k.toNat ≤ 1000000) ∧ (k = 1 → Q (.ref l) H) ∧ (k ≠ 1 → ∀ p, H p = none → Q (.ref p) (upd H p (.tup (List.replicate k.toNat xs).flatten)))
theorem op_repG {X : Cx} : OpR X (binaryOp .Mult) (rRepG X.K) := by
  intro pins s σ H x y v u Q I rx ry h
  obtain ⟨l, k, xs, rfl, rfl, hT, hne, ⟨b1, b2, b3⟩, q1, q2⟩ := h
  cases rx
  obtain ⟨t, rfl⟩ := ry
  obtain ⟨its, r, ⟨⟨cls, dd, data, sl⟩, ho, hc, n, hd⟩, hs⟩ := I.tuple hT
  simp only at hc hd
  subst hc hd
  have len : its.length = xs.length := r.length.symm
  have full : its.toArray.isEmpty = false := by
    cases its with
    | nil => exact absurd (List.eq_nil_of_length_eq_zero len.symm) hne
    | cons _ _ => rfl
  have d0 : (decide (k < -(2 ^ 63)) || decide (k ≥ 2 ^ 63)) = false := by
    rw [decide_eq_false (by omega), decide_eq_false (by omega)] <;> rfl
  have big : (sizeLine : Int) ≥ 1000000 := by rw [sizeLine_eq]; decide
  have flat : (List.replicate k.toNat its).flatten.length = k.toNat * xs.length := by rw [PyProof.Rows.lm_len_rep_flat, len]
  by_cases k1 : k = 1
  · subst k1
    refine wpAny_binaryOp_repeat_ref (T := "tuple") (U := "int") (by decide) ⟨_, ho, rfl⟩ (fun s' => typeIs_int s' 1 t) noFill_tuple_mul F.fills_int_mul F.slot_int_rmul repeat_tuple F.slot_int_index.lookup
      (call_meets F.slot_int_rmul (typeIs_int s 1 t) F.entry_int_rmul (F.args_int_rmul_2 _ _) (int_rmul_tuple 1 t l its.toArray n dd sl)
        ⟨ho, rfl, ⟨_, ho, rfl⟩, call_meets F.slot_tuple_mul ⟨_, ho, rfl⟩ F.entry_tuple_mul (F.args_tuple_mul_2 _ _) (tup_mul_one l its.toArray n dd sl t) ⟨ho, ⟨.ref l, H, I, rfl, q1 rfl⟩⟩⟩)
  · have d1 : (its.toArray.isEmpty || k == 1) = false := by
      rw [full, Bool.false_or]; exact beq_eq_false_iff_ne.mpr k1
    have fin : ∀ arr : Array Value, arr = (List.replicate k.toNat its).flatten.toArray → EP X pins σ Q (Value.ref s.heap.objs.size) { s with heap := s.heap.push { cls := Value.type "tuple", data := Data.seq arr } } := fun arr e => by
      subst e
      refine ⟨.ref s.heap.objs.size, _, I.laid (t' := s.toks) (o := .tup (List.replicate k.toNat xs).flatten) (fun b ob z => Heap.get?_push_of_some _ z) (Nat.le_refl _) ?_, rfl, q2 k1 _ (I.hok.fresh (Nat.le_refl _))⟩
      exact ⟨by rw [PyProof.Rows.lm_len_rep_flat, Nat.mul_comm]; omega, _, r.rep k.toNat, IsTup.new _ _⟩
    by_cases k0 : k ≤ 0
    · refine wpAny_binaryOp_repeat_ref (T := "tuple") (U := "int") (by decide) ⟨_, ho, rfl⟩ (fun s' => typeIs_int s' k t) noFill_tuple_mul F.fills_int_mul F.slot_int_rmul repeat_tuple F.slot_int_index.lookup
        (call_meets F.slot_int_rmul (typeIs_int s k t) F.entry_int_rmul (F.args_int_rmul_2 _ _) (int_rmul_tuple k t l its.toArray n dd sl)
          ⟨ho, rfl, ⟨_, ho, rfl⟩, call_meets F.slot_tuple_mul ⟨_, ho, rfl⟩ F.entry_tuple_mul (F.args_tuple_mul_2 _ _) (tup_mul_none l its.toArray n dd sl k t d0 d1 (by rw [decide_eq_true k0]; rfl)) ⟨ho, fin _ ?_⟩⟩)
      rw [show k.toNat = 0 by omega]; rfl
    · have sz : its.toArray.size = xs.length := by rw [List.size_toArray, len]
      have pr : ((its.toArray.size : Nat) : Int) * k ≤ 1000000 := by
        rw [sz]
        have e : k = (k.toNat : Int) := by omega
        rw [e, ← Int.natCast_mul]; omega
      refine wpAny_binaryOp_repeat_ref (T := "tuple") (U := "int") (by decide) ⟨_, ho, rfl⟩ (fun s' => typeIs_int s' k t) noFill_tuple_mul F.fills_int_mul F.slot_int_rmul repeat_tuple F.slot_int_index.lookup
        (call_meets F.slot_int_rmul (typeIs_int s k t) F.entry_int_rmul (F.args_int_rmul_2 _ _) (int_rmul_tuple k t l its.toArray n dd sl)
          ⟨ho, rfl, ⟨_, ho, rfl⟩, call_meets F.slot_tuple_mul ⟨_, ho, rfl⟩ F.entry_tuple_mul (F.args_tuple_mul_2 _ _) (tuple_mulW l its.toArray n dd sl k t d0 d1 (by rw [decide_eq_false k0, full]; rfl) (by omega) (by
            unfold Builtin.Tuple.tupleTooMany
            exact decide_eq_false (by omega)) (by rw [size_rep, List.size_toArray, flat, Nat.mul_comm]; omega)) ⟨ho, fin _ (size_rep its k.toNat)⟩⟩)
section
variable {K : PySem.W.Frag} {B : Base} {X : Cx} {e a b c : Expr} {ta tb : TDX} {pos : Pos}
/-- a * b: ints of any size, lists and tuples so many times -/
def mulG (x y : D) (P : Sl → Prop) : Prop := match x, y with
  | .int i, .int j => CMulX i j ∧ P (.sh (.int (i * j)))
  | .lst xs, .int k => (-(2 ^ 63) ≤ k ∧ k < 2 ^ 63 ∧ xs.length * k.toNat ≤ sizeLine) ∧ P (.ol (List.replicate k.toNat xs).flatten)
  | .tup xs, .int k => (xs ≠ [] ∧ -(2 ^ 63) ≤ k ∧ k < 2 ^ 63 ∧ xs.length * k.toNat ≤ 1000000) ∧ P (.sh (.tup (List.replicate k.toNat xs).flatten))
  | _, _ => False
theorem lf_mulG : LiftF2 K (fun x y H Q => rI CMulX (fun i j => .int (i * j)) x y H Q ∨ rRep x y H Q ∨ rRepG K x y H Q) mulG := fun B n g0 H0 δ0 g H σ δ x y d1 d2 P Q S0 st S r1 r2 q k => by
  cases r1 with
  | int i =>
    cases r2 with
    | int j => exact .inl ⟨i, j, rfl, rfl, q.1, k _ g H _ q.2 st S (.int _)⟩
    | _ => exact q.elim
  | @lst a xs ds h rs =>
    cases r2 with
    | int j =>
      obtain ⟨⟨b1, b2, b3⟩, q⟩ := q
      refine .inr (.inl ⟨a, j, xs, rfl, rfl, S.ret.sub _ _ h, b1, b2, by rw [rs.length]; exact b3, fun p hp => ?_⟩)
      obtain ⟨g2, st2, S2, it⟩ := S.newL st S0 hp (rs.flat j.toNat)
      exact k _ g2 _ _ q st2 S2 it
    | _ => exact q.elim
  | @tup a xs ds h rs =>
    cases r2 with
    | int j =>
      obtain ⟨⟨b0, b1, b2, b3⟩, q⟩ := q
      refine .inr (.inr ⟨a, j, xs, rfl, rfl, SqT.up S.ret.sub h, fun z => b0 ((nil_of rs).mp z), ⟨b1, b2, by rw [rs.length]; exact b3⟩, fun e => ?_, fun _ p hp => ?_⟩)
      · subst e
        refine k _ g H _ q st S (.tup h ?_)
        simpa using rs
      · obtain ⟨S2, st2⟩ := S.alloc (n := n) (o := .tup (List.replicate j.toNat xs).flatten) hp
        exact k _ _ _ _ q (st.trans st2) S2 (.tup (.inl (.inl upd_same)) ((rs.flat j.toNat).step st2))
    | _ => exact q.elim
  | _ => cases r2 <;> exact q.elim
theorem df_mulG (ha : DE X B a ta) (hb : DE X B b tb) : DF X B (.BinOp a .Mult b pos) (f2 mulG ta tb) := df_op (op_mulX.or (op_rep.or op_repG)) lf_mulG ha hb
/-- // and % by any divisor -/
def CDivG (i j : Int) : Prop := j ≠ 0 ∧ Builtin.divisionGoesByPylong i j = false
theorem op_fdivG : OpR X (binaryOp .FloorDiv) (rI CDivG fun i j => .int (i.fdiv j)) := opI fun _ _ _ _ _ _ _ hc q => floordiv_int hc.1 q (.inl hc.2)
def fdivG := i2 CDivG fun i j => .int (i.fdiv j)
def modG := i2 (fun _ j => j ≠ 0) fun i j => .int (i.fmod j)
theorem de_fdivG (ha : DE X B a ta) (hb : DE X B b tb) : DE X B (.BinOp a .FloorDiv b pos) (d2 fdivG ta tb) := de_op op_fdivG (l_i2 fun _ _ _ _ => .int _) ha hb
theorem de_modG (ha : DE X B a ta) (hb : DE X B b tb) : DE X B (.BinOp a .Mod b pos) (d2 modG ta tb) := de_op op_modN (l_i2 fun _ _ _ _ => .int _) ha hb
/-- range(i, j, c) -/
theorem iter_rangeC {g1 : Gs} {H1 : Hp} {lo c : Int} {m n : Nat} : IterD K B n (Itc lo c m) ((List.range m).map fun (i : Nat) => D.int (lo + i * c)) g1 H1 := fun i g H σ δ st S => by
  refine ⟨fun d e => ?_, fun hl => ?_⟩
  · rw [List.getElem?_map] at e
    by_cases h : i < m
    · rw [List.getElem?_range h] at e
      cases e
      exact ⟨h, fun x H' ⟨e2, e3⟩ => by
        subst e2 e3
        exact ⟨g, Step.refl _ _ _, S, .int _⟩⟩
    · rw [List.getElem?_eq_none (by simpa using h)] at e; cases e
  · have : m ≤ i := by simpa using hl
    exact this
/-- i, i - 1, .. above j -/
def downD (i j : Int) : List D := (List.range (i - j).toNat).map fun (k : Nat) => D.int (i + k * (-1))
def dRange3 (t : TDA) : TDI := fun rx δ P => t rx δ fun ds δ1 => match ds with
  | [.int i, .int j, .int c] => c = -1 ∧ (bnd i ∧ bnd j) ∧ P (downD i j) δ1
  | _ => False
theorem di_range3 {tg : Expr} {t : TDA} {p : Pos} (hg : Gl X "range") (hm : X.mg "range" = none) (ha : DA X B [a, b, c] t) (hs : starEach [a, b, c] X.env = (false, eval a X.env) :: starEach [b, c] X.env := by rfl) (hpl : (backTo pos (starEach [b, c] X.env)).any (·.1) = false := by rfl) :
    DI X B tg (.Call (.Name "range" p) [a, b, c] [] pos) (dRange3 t) :=
  ⟨fun rx tk => PI.imp (pi_range3 hg hm (ha.run rx tk) hs hpl) fun σ H R _ ⟨g, δ, P, S, q, k⟩ => ⟨g, δ, _, S, q, fun ds δ1 g1 H1 vs h1 st1 S1 D1 => by
    match ds, vs, D1, h1 with
    | [.int i, .int j, .int c], _, .cons (.int _) (.cons (.int _) (.cons (.int _) .nil)), h1 =>
      obtain ⟨rfl, ⟨⟨b1, b2⟩, b3, b4⟩, h1⟩ := h1
      exact ⟨i, j, -1, _, rfl, RgC.neg b1 b2 b3 b4, k _ δ1 g1 H1 _ h1 st1 S1 iter_rangeC⟩⟩⟩
end
end DL

/-! three names at once; a module's tuple of ints -/
namespace DL
open PySem PySem.Spec L2
open PyProof.Rows hiding St
section
variable {B : Base} {X : Cx} {e a b c : Expr} {ta tb : TDX} {pos : Pos}
def dPar3 (i j l : Nat) (t : TDA) : TDS := fun rx DE δ => t rx δ fun ds δ1 => match ds with
  | [u, v, w] => DE.nx (((δ1.set i (some (.sh u))).set j (some (.sh v))).set l (some (.sh w)))
  | _ => False
theorem ds_par3 {i j l : Nat} {x y z : Str} {t : TDA} {px py pz pt : Pos} {kt k2 pt2} (hc : X.calm = true) (hN : X.N.Nodup) (hi : X.N[i]? = some x) (hj : X.N[j]? = some y) (hl : X.N[l]? = some z) (hij : i ≠ j) (hil : i ≠ l) (hjl : j ≠ l)
    (hx : X.env.scope.names.lookup x = some .local) (hy : X.env.scope.names.lookup y = some .local) (hz : X.env.scope.names.lookup z = some .local) (ha : DA X B [a, b, c] t)
    (hw : swappedStores [.Tuple [.Name x px, .Name y py, .Name z pz] kt pt] (.Tuple [a, b, c] k2 pt2) X.env = pure (some [x, y, z]))
    (hs : swapsWithSole [.Tuple [.Name x px, .Name y py, .Name z pz] kt pt] (.Tuple [a, b, c] k2 pt2) pos.line X.env = pure false := by rfl) :
    DS X B (.Assign [.Tuple [.Name x px, .Name y py, .Name z pz] kt pt] (.Tuple [a, b, c] k2 pt2) pos) (dPar3 i j l t) :=
  ⟨fun rx tk => PS.imp (ps_par3 hc hN hi hj hl hij hil hjl hx hy hz (ha.run rx tk) hw hs) fun DD σ H _ ⟨g, δ, DE, S, q, k1, k2, k3, k4⟩ => ⟨g, δ, _, S, q, fun ds δ1 g1 H1 vs h1 st1 S1 D1 => by
    match ds, vs, D1, h1 with
    | [d1, d2, d3], [v1, v2, v3], .cons r1 (.cons r2 (.cons r3 .nil)), h1 =>
      obtain ⟨g2, S2, st2⟩ := S1.put r1 (List.getElem?_eq_some_iff.mp hi).1
      obtain ⟨g3, S3, st3⟩ := S2.put (r2.step st2) (List.getElem?_eq_some_iff.mp hj).1
      obtain ⟨g4, S4, st4⟩ := S3.put ((r3.step st2).step st3) (List.getElem?_eq_some_iff.mp hl).1
      exact ⟨v1, v2, v3, rfl, k1 _ _ g4 H1 h1 (((st1.trans st2).trans st3).trans st4) S4⟩⟩⟩
end
/-! ### a tuple of ints at module level -/
def intsB : List Value → List Int → Bool
  | [], [] => true
  | .int i _ :: vs, n :: ns => decide (i = n) && intsB vs ns
  | _, _ => false
theorem intsB_ok : ∀ {vs : List Value} {ns : List Int}, intsB vs ns = true → Vals (ns.map V.int) vs
  | [], [], _ => .nil
  | [], _ :: _, h => by cases h
  | v :: vs, [], h => by cases v <;> cases h
  | v :: vs, n :: ns, h => by
    cases v with
    | int i t =>
      obtain ⟨h1, h2⟩ := He.ba h
      obtain rfl := of_decide_eq_true h1
      exact .cons ⟨t, rfl⟩ (intsB_ok h2)
    | _ => cases h
def tupB (x : Str) (ns : List Int) (K : PySem.W.Frag) : Bool := match K.lookup (He.ga K x) with
  | some ⟨.type t, _, .seq its _, _⟩ => decide (t = "tuple") && decide (its.size ≤ sizeLine) && intsB its.toList ns
  | _ => false
def TupK (K : PySem.W.Frag) (x : Str) (ns : List Int) : Prop := ∀ F : Hp, SqT K F (He.ga K x) (ns.map V.int)
theorem tupB_ok {K : PySem.W.Frag} {x : Str} {ns : List Int} (h : tupB x ns K = true) : TupK K x ns := fun F => by
  unfold tupB at h
  cases e : K.lookup (He.ga K x) with
  | none => rw [e] at h; cases h
  | some o =>
    obtain ⟨oc, od, dt, sl⟩ := o
    rw [e] at h
    cases oc with
    | type t =>
      cases dt with
      | seq its n =>
        obtain ⟨h1, h2⟩ := He.ba h
        obtain ⟨h0, h1⟩ := He.ba h1
        obtain rfl := of_decide_eq_true h0
        exact .inr ⟨_, its, n, e, rfl, rfl, of_decide_eq_true h1, intsB_ok h2⟩
      | _ => cases h
    | _ => cases h
theorem dens_intsT {K : PySem.W.Frag} {W : DW} {F : Hp} : ∀ ns : List Int, Dens K W F (ns.map V.int) (ns.map D.int)
  | [] => .nil
  | n :: ns => .cons (.int n) (dens_intsT ns)
section
variable {B : Base} {X : Cx} {e a b c : Expr} {ta tb : TDX} {pos : Pos} {x : Str}
theorem de_gtup {ns : List Int} (q : TupK X.K x ns) (hg : Gl X x) (hm : X.mg x = some (.ref (He.ga X.K x))) (hdb : (x == ("__debug__" : Str)) = false := by decide) : DE X B (.Name x pos) (dC (.tup (ns.map D.int))) :=
  de_c (v := .ref (He.ga X.K x)) (pe_glob hg hm rfl hdb) fun _ _ => .tup (q _) (dens_intsT ns)
/-- an int in a tuple of ints -/
def inT (f : Bool → Bool) (x y : D) (P : D → Prop) : Prop := match x, y with
  | .int i, .tup ds => ∃ ns : List Int, ds = ns.map D.int ∧ P (.bl (f (decide (i ∈ ns))))
  | _, _ => False
theorem ints_ofT {K : PySem.W.Frag} {W : DW} {F : Hp} : ∀ {vs : List V} {ns : List Int}, Dens K W F vs (ns.map D.int) → vs = ns.map V.int
  | [], [], _ => rfl
  | _, n :: ns, .cons r t => by
    cases r
    rw [ints_ofT t]; rfl
theorem inV_ints {i : Int} : ∀ ns : List Int, inV (.int i) (ns.map V.int) = decide (i ∈ ns)
  | [] => rfl
  | n :: ns => by
    show (eqV (.int n) (.int i) || inV (.int i) (ns.map V.int)) = _
    rw [inV_ints ns]
    show ((n == i) || _) = _
    by_cases h : n = i
    · subst h; simp
    · have : i ≠ n := Ne.symm h
      simp [h, this]
theorem l_inT {K : PySem.W.Frag} : Lift2 K (rIn K false) (inT fun b => b) := fun B n g H σ δ x y d1 d2 P Q S r1 r2 q k => by
  cases r1 with
  | int i =>
    cases r2 with
    | @tup a xs ds h rs =>
      obtain ⟨ns, rfl, q⟩ := q
      obtain rfl := ints_ofT rs
      refine ⟨a, _, rfl, .inr (SqT.up S.ret.sub h), rfl, by simp [flatV], ?_⟩
      rw [if_neg Bool.false_ne_true, inV_ints]
      exact k _ g H _ q (Step.refl _ _ _) S (.bl _)
    | _ => exact q.elim
  | _ => cases r2 <;> exact q.elim
end
end DL

/-! zip of lists and tuples in any mixture. -/
namespace DL
open PySem PySem.Spec L2
open PyProof.Rows hiding St
def SqZ (k : Bool) (K : PySem.W.Frag) (H : Hp) (a : Addr) (xs : List V) : Prop := if k = true then SqL K H a xs else SqT K H a xs
def IterZ (k : Bool) (h : Heap) (it l : Addr) (i : Nat) : Prop := if k = true then h.IsListIter it l i else h.IsTupleIter it l i
def SeqZ (k : Bool) (h : Heap) (l : Addr) (xs : Array Value) : Prop := if k = true then h.IsList l xs else h.IsTuple l xs
theorem drawsZ {prog : Program} {w : World} {A : Around} (hh : A.handled = none) (k : Bool) (it l : Addr) (hne : l ≠ it) (items : Array Value) :
    Draws prog w A it [it, l] items.size (fun i v => items[i]? = some v) (fun i h => IterZ k h it l i ∧ SeqZ k h l items) := by
  cases k with
  | true => exact Draws.list hh it l hne items
  | false => exact Draws.tuple hh it l hne items
theorem iterZ_at {k : Bool} {h h' : Heap} {it l : Addr} {i : Nat} (z : IterZ k h it l i) (e : ∀ o, h.get? it = some o → h'.get? it = some o) : IterZ k h' it l i := by
  cases k with
  | true => exact Heap.IsListIter.at (h := h) z e
  | false => exact Heap.IsTupleIter.at (h := h) z e
theorem iterZ_obj {k : Bool} {h : Heap} {it l : Addr} {i : Nat} (z : IterZ k h it l i) : ∃ o, h.get? it = some o ∧ ∃ xs, o.data = .fields xs := by
  cases k with
  | true => obtain ⟨o, e, _, d⟩ := z; exact ⟨o, e, _, d⟩
  | false => obtain ⟨o, e, _, d⟩ := z; exact ⟨o, e, _, d⟩
theorem inv_seqB {X : Cx} {pins : List (Addr × Obj)} {σ : L2.St} {H : Hp} {s : Shared} {k : Bool} {a : Addr} {xs : List V} (I : Inv X pins σ H s) (q : SqZ k X.K H a xs) : ∃ its, Vals xs its ∧ SeqZ k s.heap a its.toArray ∧ a < s.heap.objs.size := by
  cases k with
  | true => obtain ⟨its, rv, p, _⟩ := I.list q; exact ⟨its, rv, p.isList, p.lt⟩
  | false =>
    obtain ⟨its, rv, p, _⟩ := I.tuple q
    obtain ⟨o, e, _⟩ := id p
    exact ⟨its, rv, p, Heap.lt_size e⟩
def ItzB (K : PySem.W.Frag) (k1 k2 : Bool) (a b : Addr) (xs ys : List V) : It :=
  ⟨fun i H => ∃ (x y : V), SqZ k1 K H a xs ∧ SqZ k2 K H b ys ∧ xs[i]? = some x ∧ ys[i]? = some y,
    fun i H v H' => ∃ T x y, v = .ref T ∧ H T = none ∧ H' = upd H T (.tup [x, y]) ∧ xs[i]? = some x ∧ ys[i]? = some y,
    fun i H => SqZ k1 K H a xs ∧ SqZ k2 K H b ys ∧ (xs.length ≤ i ∨ ys.length ≤ i)⟩
theorem sepZ {z TI TO i1 i2 a b : Addr} (D : ZipApart z TI TO i1 i2 a b) : ZipSep2 z TI TO i1 i2 [i1, a] [i2, b] where
  TIz := D.TIz
  TOz := D.TOz
  TITO := D.TITO
  TIi1 := D.TIi1
  mem1 := by simp
  zf1 := by simp only [List.mem_cons, List.not_mem_nil, or_false, not_or]; exact ⟨D.i1z.symm, D.l1z.symm⟩
  Tf1 := by simp only [List.mem_cons, List.not_mem_nil, or_false, not_or]; exact ⟨D.TOi1, D.l1TO.symm⟩
  TIi2 := D.TIi2
  mem2 := by simp
  zf2 := by simp only [List.mem_cons, List.not_mem_nil, or_false, not_or]; exact ⟨D.i2z.symm, D.l2z.symm⟩
  Tf2 := by simp only [List.mem_cons, List.not_mem_nil, or_false, not_or]; exact ⟨D.TOi2, D.l2TO.symm⟩
  sep1_2 := by simp only [List.mem_cons, List.not_mem_nil, or_false, not_or]; exact ⟨D.i12, D.l2i1.symm⟩
  sep2_1 := by simp only [List.mem_cons, List.not_mem_nil, or_false, not_or]; exact ⟨D.i12.symm, D.l1i2.symm⟩
theorem turn_zipB {P : Program} {w : World} {K : PySem.W.Frag} {elts : List Expr} {kk : Nat} {tpos : Pos} {k1 k2 : Bool} {xs ys : List V} {a b z TI TO i1 i2 : Addr} (D : ZipApart z TI TO i1 i2 a b) :
    Turn P w K (.Tuple elts kk tpos) (ItzB K k1 k2 a b xs ys) [z, TI, TO, i1, i2] z (fun i h => IsZip h z TI TO .none ∧ IsPair h TI (.ref i1) (.ref i2) ∧ (∃ x y, IsPair h TO x y) ∧ IterZ k1 h i1 a i ∧ IterZ k2 h i2 b i ∧ i ≤ xs.length ∧ i ≤ ys.length) where
  mem := by simp
  obj := fun i h st c hc => by
    obtain ⟨hz, hTI, ⟨x, y, hTO⟩, h1, h2, _⟩ := st
    simp only [List.mem_cons, List.not_mem_nil, or_false] at hc
    rcases hc with rfl | rfl | rfl | rfl | rfl
    · exact ⟨_, hz, fun v q => nomatch q⟩
    · exact ⟨_, hTI, fun v q => nomatch q⟩
    · exact ⟨_, hTO, fun v q => nomatch q⟩
    · obtain ⟨o, e, _, d⟩ := iterZ_obj h1; exact ⟨o, e, fun v q => by rw [d] at q; cases q⟩
    · obtain ⟨o, e, _, d⟩ := iterZ_obj h2; exact ⟨o, e, fun v q => by rw [d] at q; cases q⟩
  keep := fun i h h' st k => by
    obtain ⟨hz, hTI, ⟨x, y, hTO⟩, h1, h2, l⟩ := st
    exact ⟨k z (by simp) _ hz, k TI (by simp) _ hTI, ⟨x, y, k TO (by simp) _ hTO⟩, iterZ_at h1 fun o q => k i1 (by simp) o q, iterZ_at h2 fun o q => k i2 (by simp) o q, l⟩
  item := by
    intro X hP hw hK hc i pins s σ H E I hf st hg
    subst hP hw hK
    obtain ⟨hz, hTI, ⟨x0, y0, hTO⟩, h1, h2, l1, l2⟩ := st
    obtain ⟨x, y, hqx, hqy, hx, hy⟩ := hg
    obtain ⟨its, rv, p, _⟩ := inv_seqB I hqx
    obtain ⟨its2, rv2, p2, _⟩ := inv_seqB I hqy
    have n1 := rv.length
    have n2 := rv2.length
    have g1 : i < xs.length := (List.getElem?_eq_some_iff.mp hx).1
    have g2 : i < ys.length := (List.getElem?_eq_some_iff.mp hy).1
    obtain ⟨u, hu, ru⟩ := rv.get hx
    obtain ⟨u2, hu2, ru2⟩ := rv2.get hy
    have hh := I.ok.hd hc
    have hzl : z < s.heap.objs.size := Heap.lt_size hz
    refine wpAny_pyNext_zipD2_item (sepZ D) (drawsZ (A := X.A.in1) hh k1 i1 a D.l1i1 its.toArray) (drawsZ (A := X.A.in1) hh k2 i2 b D.l2i2 its2.toArray) hz hTI hTO ⟨h1, p⟩ ⟨h2, p2⟩ (by simp; omega) (by simp; omega) fun x1 x2 h' tk e1 e2 z' TO' s1' s2' hT hsz hk => ?_
    obtain rfl : u = x1 := by rw [List.getElem?_toArray, hu] at e1; exact Option.some.inj e1
    obtain rfl : u2 = x2 := by rw [List.getElem?_toArray, hu2] at e2; exact Option.some.inj e2
    refine ⟨_, rfl, wpAny_letOwnedTupleGo_zip (s := { s with heap := h', toks := tk }) z' fun h'' z'' sb => ?_⟩
    have hT2 : h''.get? s.heap.objs.size = some { cls := .type "tuple", data := .seq #[u, u2] } := (sb.2 _ (Nat.ne_of_gt hzl)).trans hT
    have new : ObjOk X.prog X.w (upd H s.heap.objs.size (.tup [x, y])) h'' s.heap.objs.size (.tup [x, y]) :=
      ⟨by show 2 ≤ sizeLine; decide, [u, u2], .cons ru (.cons ru2 .nil), ⟨_, hT2, rfl, _, rfl⟩⟩
    have I1 : Inv X pins σ (upd H s.heap.objs.size (.tup [x, y])) { s with heap := h'', toks := tk } :=
      I.turnedNew (t' := tk) (ch := [z, TI, TO, i1, i2]) (fun c o hb q => (sb.2 c (fun q' => hb (by simp [q']))).trans (hk c o (fun q' => hb (by simp [q'])) (fun q' => hb (by simp [q'])) (fun q' => hb (by simp [q'])) (fun q' => hb (by simp [q'])) q)) hf (Nat.le_refl _) new
    refine ⟨.ref s.heap.objs.size, _, I1, rfl, ⟨_, x, y, rfl, I.hok.fresh (Nat.le_refl _), rfl, hx, hy⟩, ⟨z'', ?_, ⟨u, u2, ?_⟩, ?_, ?_, g1, g2⟩, fun c hcm => ?_⟩
    · exact (sb.2 _ D.TIz).trans (hk _ _ D.TIz D.TITO D.TIi1 D.TIi2 hTI)
    · exact (sb.2 _ D.TOz).trans TO'
    · exact iterZ_at s1'.1 fun o q => (sb.2 _ D.i1z).trans q
    · exact iterZ_at s2'.1 fun o q => (sb.2 _ D.i2z).trans q
    · have hlt : c < s.heap.objs.size := by
        simp only [List.mem_cons, List.not_mem_nil, or_false] at hcm
        rcases hcm with rfl | rfl | rfl | rfl | rfl
        · exact hzl
        · exact Heap.lt_size hTI
        · exact Heap.lt_size hTO
        · obtain ⟨_, e, _⟩ := iterZ_obj h1; exact Heap.lt_size e
        · obtain ⟨_, e, _⟩ := iterZ_obj h2; exact Heap.lt_size e
      rw [upd_ne (Nat.ne_of_lt hlt)]
      exact (hf c hcm).1
  done := by
    intro X hP hw hK hc i pins s σ H E I hf st hg
    subst hP hw hK
    obtain ⟨hz, hTI, ⟨x0, y0, hTO⟩, h1, h2, l1, l2⟩ := st
    obtain ⟨hqx, hqy, hend⟩ := hg
    obtain ⟨its, rv, p, _⟩ := inv_seqB I hqx
    obtain ⟨its2, rv2, p2, _⟩ := inv_seqB I hqy
    have n1 := rv.length
    have n2 := rv2.length
    have hh := I.ok.hd hc
    refine wpAny_pyNext_zipD2_end (sepZ D) (drawsZ (A := X.A.in1) hh k1 i1 a D.l1i1 its.toArray) (drawsZ (A := X.A.in1) hh k2 i2 b D.l2i2 its2.toArray) hz hTI hTO ⟨h1, p⟩ ⟨h2, p2⟩ (by simp; omega) (by simp; omega) (by simp; omega) fun h' tk hk => ⟨rfl, ?_⟩
    exact I.turnedL (t' := tk) (ch := [z, TI, TO, i1, i2]) (fun c o hb q => hk c o (fun q' => hb (by simp [q'])) (fun q' => hb (by simp [q'])) (fun q' => hb (by simp [q'])) (fun q' => hb (by simp [q'])) q) hf
  self := fun A i s Q E st h => wpAny_pyIter_zip st.1 h
def startZ0 (k : Bool) (l : Addr) : Obj := if k = true then { cls := .type "list_iterator", data := .fields #[.ref l, .int 0 0] } else { cls := .type "tuple_iterator", data := .fields #[.ref l, .int 0 0] }
theorem beginsZ (k : Bool) (l : Addr) (xs : Array Value) : Begins (.ref l) (startZ0 k l) fun h => SeqZ k h l xs := by
  cases k with
  | true => exact begins_list l xs
  | false => exact begins_tuple l xs
theorem startZ {k : Bool} {h : Heap} {it l : Addr} (e : h.get? it = some (startZ0 k l)) : IterZ k h it l 0 := by
  cases k with
  | true => exact ⟨_, e, rfl, rfl⟩
  | false => exact ⟨_, e, rfl, rfl⟩
def iZipB (K : PySem.W.Frag) (ta : TA) : TI := fun σ H R => ta σ H fun vs H1 => ∃ a b xs ys k1 k2, vs = [.ref a, .ref b] ∧ SqZ k1 K H1 a xs ∧ SqZ k2 K H1 b ys ∧ R (ItzB K k1 k2 a b xs ys) H1
theorem pi_zipB {X : Cx} {e e2 : Expr} {ta : TA} {p pos tpos : Pos} {elts : List Expr} {kk : Nat} (hg : Gl X "zip") (hm : X.mg "zip" = none) (ha : PA X [e, e2] ta)
    (hs : starEach [e, e2] X.env = (false, eval e X.env) :: starEach [e2] X.env := by rfl) (hpl : (backTo pos (starEach [e2] X.env)).any (·.1) = false := by rfl) :
    PI X (.Tuple elts kk tpos) (.Call (.Name "zip" p) [e, e2] [] pos) (iZipB X.K ta) := by
  refine ⟨fun pins s σ H R I h => ?_⟩
  refine Call_ (ld_blt I hg hm PyProof.Rows.boot_zip (PyProof.Rows.callWith_type1 (thn (ha.run pos pins s σ H _ I h) fun us s1 ⟨vs, H1, I1, r1, q1⟩ => ?_) hs hpl))
  obtain ⟨a, b, xs, ys, k1, k2, rfl, hqx, hqy, q⟩ := q1
  cases r1 with
  | cons r rr =>
    cases rr with
    | cons r' rr =>
      cases rr
      cases r
      cases r'
      have fresh5 : ∀ c, c ∈ [s1.heap.objs.size + 4, s1.heap.objs.size + 2, s1.heap.objs.size + 3, s1.heap.objs.size, s1.heap.objs.size + 1] → FpOk X pins H1 c := fun c hcm => by
        have hle : s1.heap.objs.size ≤ c := by
          simp only [List.mem_cons, List.not_mem_nil, or_false] at hcm
          omega
        exact I1.fpOk hle (I1.hok.fresh hle)
      obtain ⟨its, rv, p1, t1⟩ := inv_seqB I1 hqx
      obtain ⟨its2, rv2, p2, t2⟩ := inv_seqB I1 hqy
      refine zip_begins2 (beginsZ k1 a its.toArray) (beginsZ k2 b its2.toArray) p1 p2 fun h' hz hTI hTO h1 h2 hsz hk => wpAny_pyIter_zip hz ?_
      have I2 : Inv X pins σ H1 { s1 with heap := h' } := I1.kept (t' := s1.toks) hk
      exact ⟨s1.heap.objs.size + 4, [s1.heap.objs.size + 4, s1.heap.objs.size + 2, s1.heap.objs.size + 3, s1.heap.objs.size, s1.heap.objs.size + 1], _, _, H1, rfl, I2, turn_zipB (PySem.W.ktu_apart s1.heap.objs.size a b t1 t2), ⟨hz, hTI, ⟨_, _, hTO⟩, startZ h1, startZ h2, Nat.zero_le _, Nat.zero_le _⟩, fresh5, q⟩
section
variable {X : Cx} {B : Base} {K : PySem.W.Frag} {n : Nat} {e e2 : Expr} {te : TDX} {ta : TDA} {p pos tpos : Pos} {elts : List Expr} {kk : Nat}
theorem sqZ_up {k : Bool} {F H : Hp} {a : Addr} {xs : List V} (u : Up F H) (h : SqZ k K F a xs) : SqZ k K H a xs := by
  cases k with
  | true => exact SqL.up u h
  | false => exact SqT.up u h
theorem iter_zipB {k1 k2 : Bool} {a b : Addr} {xs ys : List V} {ds es : List D} {g1 : Gs} {H1 : Hp} (h1 : SqZ k1 K g1.F a xs) (r1 : Dens K g1.W g1.F xs ds) (h2 : SqZ k2 K g1.F b ys) (r2 : Dens K g1.W g1.F ys es) : IterD K B n (ItzB K k1 k2 a b xs ys) (zipD ds es) g1 H1 := fun i g H σ δ st S => by
  have q1 : SqZ k1 K H a xs := sqZ_up S.ret.sub (sqZ_up st.up h1)
  have q2 : SqZ k2 K H b ys := sqZ_up S.ret.sub (sqZ_up st.up h2)
  refine ⟨fun d q => ?_, fun hl => ⟨q1, q2, ?_⟩⟩
  · obtain ⟨x0, y0, e1, e2, rfl⟩ := zipD_get q
    obtain ⟨u, f1, s1⟩ := r1.get e1
    obtain ⟨v, f2, s2⟩ := r2.get e2
    refine ⟨⟨u, v, q1, q2, f1, f2⟩, fun w H' z => ?_⟩
    obtain ⟨T, x', y', rfl, hT, rfl, g1', g2'⟩ := z
    obtain rfl : x' = u := Option.some.inj (g1'.symm.trans f1)
    obtain rfl : y' = v := Option.some.inj (g2'.symm.trans f2)
    obtain ⟨S2, st2⟩ := S.alloc (n := n) (o := .tup [x', y']) hT
    exact ⟨_, st2, S2, .tup (.inl (.inl upd_same)) (.cons ((s1.step st).step st2) (.cons ((s2.step st).step st2) .nil))⟩
  · rw [zipD_len] at hl
    rw [r1.length, r2.length]
    omega
/-- zip of lists and tuples -/
def dZipB (t : TDA) : TDI := fun rx δ P => t rx δ fun ds δ1 => match ds with
  | [.lst xs, .lst ys] => P (zipD xs ys) δ1
  | [.tup xs, .tup ys] => P (zipD xs ys) δ1
  | [.lst xs, .tup ys] => P (zipD xs ys) δ1
  | [.tup xs, .lst ys] => P (zipD xs ys) δ1
  | _ => False
theorem di_zipB {t : TDA} (hg : Gl X "zip") (hm : X.mg "zip" = none) (ha : DA X B [e, e2] t) (hs : starEach [e, e2] X.env = (false, eval e X.env) :: starEach [e2] X.env := by rfl) (hpl : (backTo pos (starEach [e2] X.env)).any (·.1) = false := by rfl) :
    DI X B (.Tuple elts kk tpos) (.Call (.Name "zip" p) [e, e2] [] pos) (dZipB t) :=
  ⟨fun rx tk => PI.imp (pi_zipB hg hm (ha.run rx tk) hs hpl) fun σ H R _ ⟨g, δ, P, S, q, k⟩ => ⟨g, δ, _, S, q, fun ds δ1 g1 H1 vs h1 st1 S1 D1 => by
    cases D1 with
    | nil => exact h1.elim
    | cons r1 r2 =>
      cases r2 with
      | nil => cases r1 <;> exact h1.elim
      | cons r2 r3 =>
        cases r3 with
        | cons _ _ => cases r1 <;> cases r2 <;> exact h1.elim
        | nil =>
          cases r1 with
          | @lst a xs es h r =>
            cases r2 with
            | @lst b ys fs h' r' => exact ⟨a, b, xs, ys, true, true, rfl, SqL.of (S1.ret.sub _ _ h), SqL.of (S1.ret.sub _ _ h'), k _ δ1 g1 H1 _ h1 st1 S1 (iter_zipB (k1 := true) (k2 := true) (.inl (.inl h)) r (.inl (.inl h')) r')⟩
            | @tup b ys fs h' r' => exact ⟨a, b, xs, ys, true, false, rfl, SqL.of (S1.ret.sub _ _ h), SqT.up S1.ret.sub h', k _ δ1 g1 H1 _ h1 st1 S1 (iter_zipB (k1 := true) (k2 := false) (.inl (.inl h)) r h' r')⟩
            | _ => exact h1.elim
          | @tup a xs es h r =>
            cases r2 with
            | @lst b ys fs h' r' => exact ⟨a, b, xs, ys, false, true, rfl, SqT.up S1.ret.sub h, SqL.of (S1.ret.sub _ _ h'), k _ δ1 g1 H1 _ h1 st1 S1 (iter_zipB (k1 := false) (k2 := true) h r (.inl (.inl h')) r')⟩
            | @tup b ys fs h' r' => exact ⟨a, b, xs, ys, false, false, rfl, SqT.up S1.ret.sub h, SqT.up S1.ret.sub h', k _ δ1 g1 H1 _ h1 st1 S1 (iter_zipB (k1 := false) (k2 := false) h r h' r')⟩
            | _ => exact h1.elim
          | _ => cases r2 <;> exact h1.elim⟩⟩
end
end DL

/-! comprehensions of two clauses: [e for x in xs for y in ys]. -/
namespace DL
open PySem PySem.Spec L2 PySem.Calls
open PyProof.Rows hiding St
section
variable {X : Cx}
/-- the second clause's turns: Nx what holds behind them -/
def tIn2 (J : It) (D : Addr) (g : TG) (te : TE) (vs : List Nat) (σ : L2.St) (H : Hp) (Nx : Hp → Prop) : Prop := ∃ W : Nat → Nat → Hp → Prop, (∃ m, W 0 m H) ∧ ∀ i m H, W i m H →
  (J.stop i H ∧ Nx H) ∨ (J.go i H ∧ ∃ N2 : Hp → Prop, (∀ H', N2 H' → ∃ m', m' < m ∧ W (i + 1) m' H') ∧ ∀ x H', J.yld i H x H' → g x σ H' fun σ2 H2 => wipe σ2 vs = σ ∧
    te σ2 H2 fun y H4 => ∃ acc, H4 D = some (.lst acc) ∧ acc.length < sizeLine ∧ N2 (upd H4 D (.lst (acc ++ [y]))))
/-- [elt for x in .. for y in ..] -/
def tLc2 (wi : TI) (g1 : TG) (wj : TI) (g2 : TG) (te : TE) (v1 v2 : List Nat) : TE := fun σ H Q => wi σ H fun J H1 => ∀ D, H1 D = none → ∃ W : Nat → Nat → Hp → Prop, (∃ m, W 0 m (upd H1 D (.lst []))) ∧ ∀ i m H, W i m H →
  (J.stop i H ∧ Q (.ref D) H) ∨ (J.go i H ∧ ∃ Nx : Hp → Prop, (∀ H', Nx H' → ∃ m', m' < m ∧ W (i + 1) m' H') ∧ ∀ x H', J.yld i H x H' → g1 x (wipe σ (v1 ++ v2)) H' fun σ2 H2 => wipe σ2 (v1 ++ v2) = wipe σ (v1 ++ v2) ∧ wipe σ2 v2 = σ2 ∧
    wj σ2 H2 fun J2 H3 => tIn2 J2 D g2 te v2 σ2 H3 Nx)
theorem go_name {M : Model} {A : Around} {E : Value → Shared → Prop} {s : Shared} {x : Str} {p : Pos} {it v : Value} {Q : Unit → Shared → Prop} {t : Sem Unit} (h : wpAny M A (letOwnedTupleGo (.Name x p) it v) (fun _ s' => wpAny M A t Q E s') E s) : wpAny M A t Q E s := wpAny_bind (m := letOwnedTupleGo (.Name x p) it v) (f := fun _ => t) h
theorem lc2_core {pins : List (Addr × Obj)} {s : Shared} {σ : L2.St} {H : Hp} {Q : VK} {elt i0 i1 : Expr} {x0 x1 : Str} {p0 p1 : Pos} {scope : Scope} {own : List (Str × Nat)} {v1 v2 : List Nat} {pos pos' : Pos} {wi wj : TI} {g1 g2 : TG} {te : TE} {use : Option (Value → Sem Unit)} {Qf : Value → Shared → Prop}
    (hc : X.calm = true) (hN : X.N.Nodup) (I : Inv X pins σ H s) (hi : PI X (.Name x0 p0) i0 wi) (ok : BlkOk X.N X.env.scope scope own) (hv : own.map (·.2) = v1 ++ v2)
    (hg1 : ∀ (s : Shared) (H : Hp) (C : Addr) (cl : List (Str × Addr)) (fp : List Addr), PG (X.blk s H scope (compEnvC scope cl C X.env) fp) (.Name x0 p0) g1)
    (hj : ∀ (s : Shared) (H : Hp) (C : Addr) (cl : List (Str × Addr)) (fp : List Addr), PI (X.blk s H scope (compEnvC scope cl C X.env) fp) (.Name x1 p1) i1 wj)
    (hg2 : ∀ (s : Shared) (H : Hp) (C : Addr) (cl : List (Str × Addr)) (fp : List Addr), PG (X.blk s H scope (compEnvC scope cl C X.env) fp) (.Name x1 p1) g2)
    (he : ∀ (s : Shared) (H : Hp) (C : Addr) (cl : List (Str × Addr)) (fp : List Addr), PE (X.blk s H scope (compEnvC scope cl C X.env) fp) elt te) (hs : ∀ x, foldedSetIterable i0 X.env x = pure x) (hs1 : ∀ env x, foldedSetIterable i1 env x = pure x)
    (h : tLc2 wi g1 wj g2 te v1 v2 σ H Q)
    (hRR : ∀ D C s' m H', Inv X pins σ H' s' → Q (.ref D) H' → s'.heap.Ns C m → FpOk X pins H' C → compPost (model X.prog X.w) X.A X.xe use Qf (.ref D) C (.ok .next) s') :
    wpAny (model X.prog X.w) X.A (comprehension (.ListComp elt [⟨.Name x0 p0, i0, [], 0⟩, ⟨.Name x1 p1, i1, [], 0⟩] scope pos) scope X.env pos' (newList []) false (eval i0 X.env) use) Qf X.xe s := by
  have hfree : ∀ y ∈ scope.names, y.2 = .free → ∃ c, X.env.cells.lookup y.1 = some c := fun y hy e => by
    rcases ok.free y hy e with k | k
    · exact I.ok.has _ (.inl k)
    · exact I.ok.has _ (.inr k)
  refine wpAny_comprehension_free (use := use) rfl hs (closure_ok hfree) ok.kind (fun y hy e => by rw [ok.uniq y hy, e])
    (thn (hi.run pins s σ H _ I h) fun xv s1 hx => thn hx fun itv s2 h2 => ?_)
  obtain ⟨it, fp, tn, J, H2, e, I2, T, st2, f2, q⟩ := h2
  subst e
  refine wpAny_newObj_type (newEnv_comp ?_) (by show 0 ≤ sizeLine; decide)
  generalize hD : s2.heap.objs.size = D
  have hDn : H2 D = none := I2.hok.fresh (Nat.le_of_eq hD)
  obtain ⟨W, ⟨m0, w0⟩, turn⟩ := q D hDn
  generalize hs3 : ({ s2 with heap := s2.heap.push { cls := .type "list", data := .seq ([] : List Value).toArray } } : Shared) = s3
  have I3 : Inv X pins σ (upd H2 D (.lst [])) s3 := by
    rw [← hs3]
    refine I2.laid (t' := s2.toks) (fun b o e => Heap.get?_push_of_some _ e) (Nat.le_of_eq hD) ⟨Nat.zero_le _, [], 0, .nil, ?_⟩
    rw [← hD]
    exact Heap.get?_push_size _ rfl
  have h3 : s3.heap = s2.heap.push { cls := .type "list", data := .seq ([] : List Value).toArray } := by rw [← hs3]
  have f3 : ∀ b ∈ fp, FpOk X pins (upd H2 D (.lst [])) b ∧ b < s3.heap.objs.size := fun b hb => by
    obtain ⟨o, e, _⟩ := T.obj _ _ st2 b hb
    have hlt := Heap.lt_size e
    refine ⟨⟨?_, (f2 b hb).2⟩, by rw [h3, Heap.size_push]; exact Nat.lt_succ_of_lt hlt⟩
    rw [upd_ne (by rw [← hD]; exact Nat.ne_of_lt hlt)]
    exact (f2 b hb).1
  have st3 : tn 0 s3.heap := T.keep _ _ _ st2 fun b _ o e => by rw [h3]; exact Heap.get?_push_of_some _ e
  have I4 := block_start I3 ok hN f3
  rw [hv] at I4
  have pg1 := hg1 s3 (upd H2 D (.lst [])) s3.heap.objs.size (cellsFrom (s3.heap.objs.size + 1) scope.names (cloFrom X.env.cells scope.names [])) fp
  have pj := hj s3 (upd H2 D (.lst [])) s3.heap.objs.size (cellsFrom (s3.heap.objs.size + 1) scope.names (cloFrom X.env.cells scope.names [])) fp
  have pg2 := hg2 s3 (upd H2 D (.lst [])) s3.heap.objs.size (cellsFrom (s3.heap.objs.size + 1) scope.names (cloFrom X.env.cells scope.names [])) fp
  have pe := he s3 (upd H2 D (.lst [])) s3.heap.objs.size (cellsFrom (s3.heap.objs.size + 1) scope.names (cloFrom X.env.cells scope.names [])) fp
  show codeAny _ _ (.compStart (.ListComp elt [⟨.Name x0 p0, i0, [], 0⟩, ⟨.Name x1 p1, i1, [], 0⟩] scope pos) 0 (.ref it) (.ref D) (compEnvC scope (cellsFrom (s3.heap.objs.size + 1) scope.names (cloFrom X.env.cells scope.names [])) s3.heap.objs.size X.env)) (compPost (model X.prog X.w) X.A X.xe use Qf (.ref D) s3.heap.objs.size) { s3 with heap := pushCells (s3.heap.push { cls := .type "dict", data := .dict #[] }) scope.names }
  have nfp : ∀ b ∈ fp, (upd H2 D (.lst [])) b = none := fun b hb => (f3 b hb).1.1
  generalize hce : compEnvC scope (cellsFrom (s3.heap.objs.size + 1) scope.names (cloFrom X.env.cells scope.names [])) s3.heap.objs.size X.env = ce at I4 pg1 pj pg2 pe ⊢
  have cL : ce.locals = s3.heap.objs.size := by subst hce; rfl
  generalize hH3 : upd H2 D (.lst []) = H3 at I3 I4 pg1 pj pg2 pe w0 nfp f3
  generalize hs4 : ({ s3 with heap := pushCells (s3.heap.push { cls := .type "dict", data := .dict #[] }) scope.names } : Shared) = s4 at I4 ⊢
  have st4 : tn 0 s4.heap := T.keep _ _ _ st3 fun b _ o e => by rw [← hs4]; exact pushCells_keeps _ _ _ _ (Heap.get?_push_of_some _ e)
  have stat : ∀ {σ' : L2.St} {H' : Hp} {s' : Shared}, Inv (X.blk s3 H3 scope ce fp) [] σ' H' s' → (∀ b ∈ fp, H' b = none) → ∀ b ∈ fp, FpOk (X.blk s3 H3 scope ce fp) [] H' b := fun {σ' H' s'} I' hn b hb =>
    ⟨hn b hb, (I'.ok.exf b hb).1, I'.ok.exfs b hb, .inl hb, fun x c e => (I'.ok.exf b hb).2 x c e, fun p hp => absurd (show p ∈ ([] : List (Addr × Obj)) ++ [] from hp) (by simp)⟩
  have loop : codeAny (model X.prog X.w) X.A (.compLoop (.ListComp elt [⟨.Name x0 p0, i0, [], 0⟩, ⟨.Name x1 p1, i1, [], 0⟩] scope pos) 0 (.ref it) (.ref D) ce) (compPost (model X.prog X.w) X.A X.xe use Qf (.ref D) s3.heap.objs.size) s4 := by
    refine PyProof.Rows.Lc2.loop_out (hs1 ce) (fun n s' => ∃ i H', Inv (X.blk s3 H3 scope ce fp) [] (wipe σ (v1 ++ v2)) H' s' ∧ tn i s'.heap ∧ (∀ b ∈ fp, H' b = none) ∧ W i n H') ?_ m0 ⟨0, H3, I4, st4, nfp, w0⟩
    rintro n s5 ⟨i, H5, I5, st5, n5, w5⟩
    rcases turn i n H5 w5 with ⟨stop, qq⟩ | ⟨go, Nx, hNx, step⟩
    · have td := T.done (X.blk s3 H3 scope ce fp) rfl rfl rfl hc i [] s5 _ H5 (fun _ _ => False) I5 (stat I5 n5) st5 stop
      refine thnF td fun r s6 ⟨hr, I6⟩ => ?_
      subst hr
      have I7 : Inv X pins σ H5 s6 := I3.call' (ch := fp) I6.os I6.base I6.hok I6.bare fun b hb => ⟨(f3 b hb).1.2.2.2.1, (f3 b hb).1.2.1, (f3 b hb).1.2.2.2.2.1, (f3 b hb).1.2.2.2.2.2⟩
      have nC : H5 s3.heap.objs.size = none := by
        have z : H5 ce.locals = none := I6.free
        rw [cL] at z
        exact z
      obtain ⟨m, hn, _⟩ := I6.loc
      have hn : s6.heap.Ns ce.locals m := hn
      rw [cL] at hn
      exact hRR D s3.heap.objs.size s6 m H5 I7 qq hn (I3.fpOk (Nat.le_refl _) nC)
    · have ti := T.item (X.blk s3 H3 scope ce fp) rfl rfl rfl hc i [] s5 _ H5 (fun _ _ => False) I5 (stat I5 n5) st5 go
      refine thnF ti fun r s6 ⟨u, hr, h6⟩ => ?_
      subst hr
      refine go_name (thnF h6 fun _ s7 ⟨x, H7, I7, r7, y7, st7, n7⟩ => ?_)
      have I7' := I7.pinned (stat I7 n7) (T.obj _ _ st7)
      refine thnF (pg1.run _ s7 _ H7 x u _ I7' r7 (step x H7 y7)) fun _ s8 ⟨σ8, H8, I8, hw8, hw8b, q8⟩ => ?_
      show wpAny _ _ (pure true) _ _ s8
      refine wpAny_pure ?_
      rw [if_pos rfl]
      -- the turn's end
      have fin : ∀ {s' : Shared} {H' : Hp}, Inv (X.blk s3 H3 scope ce fp) ([] ++ pinsAt fp s7.heap) σ8 H' s' → Nx H' → ∃ m, m < n ∧ ∃ i H', Inv (X.blk s3 H3 scope ce fp) [] (wipe σ (v1 ++ v2)) H' s' ∧ tn i s'.heap ∧ (∀ b ∈ fp, H' b = none) ∧ W i m H' := fun {s' H'} I' nx => by
        obtain ⟨m', hm, w'⟩ := hNx H' nx
        have pin' : ∀ b ∈ fp, ∀ o, s7.heap.get? b = some o → s'.heap.get? b = some o ∧ H' b = none := fun b hb o e =>
          let z := I'.pin (b, o) (List.mem_append_right _ (List.mem_append_right _ (mem_pinsAt hb e)))
          ⟨z.1, z.2.1⟩
        have hl : (wipe σ (v1 ++ v2)).length = σ8.length := by rw [← hw8, wipe_length]
        refine ⟨m', hm, i + 1, H', (I'.unpinned (pins := [])).weak hl (fun j v e => ?_), T.keep _ _ _ st7 fun b hb o e => (pin' b hb o e).1, fun b hb => ?_, w'⟩
        · rw [← hw8] at e
          exact (wipe_some e).1
        · obtain ⟨o, e, _⟩ := T.obj _ _ st7 b hb
          exact (pin' b hb o e).2
      clear step turn w5 go
      refine thnF (pj.run _ s8 σ8 H8 _ I8 q8) fun xv s9 hx9 => thnF hx9 fun itv s10 h10 => ?_
      obtain ⟨it2, fp2, tn2, J2, H10, rfl, I10, T2, st10, f10, W2, ⟨k0, wk0⟩, turn2⟩ := h10
      have loop2 : codeAny (model X.prog X.w) X.A (.compLoop (.ListComp elt [⟨.Name x0 p0, i0, [], 0⟩, ⟨.Name x1 p1, i1, [], 0⟩] scope pos) 1 (.ref it2) (.ref D) ce) (fun r s' => match r with
          | .ok _ => ∃ m, m < n ∧ ∃ i H', Inv (X.blk s3 H3 scope ce fp) [] (wipe σ (v1 ++ v2)) H' s' ∧ tn i s'.heap ∧ (∀ b ∈ fp, H' b = none) ∧ W i m H'
          | .error _ => False) s10 := by
        refine PyProof.Rows.Lc2.loop_in (fun k s' => ∃ i H', Inv (X.blk s3 H3 scope ce fp) ([] ++ pinsAt fp s7.heap) σ8 H' s' ∧ tn2 i s'.heap ∧ (∀ b ∈ fp2, H' b = none) ∧ W2 i k H') ?_ k0 ⟨0, H10, I10, st10, fun b hb => (f10 b hb).1, wk0⟩
        rintro k t5 ⟨j, G5, K5, u5, v5, w5⟩
        have stat2 : ∀ {H' : Hp}, (∀ b ∈ fp2, H' b = none) → ∀ b ∈ fp2, FpOk (X.blk s3 H3 scope ce fp) ([] ++ pinsAt fp s7.heap) H' b := fun hn b hb => ⟨hn b hb, (f10 b hb).2⟩
        rcases turn2 j k G5 w5 with ⟨stop, qq⟩ | ⟨go, N2, hN2, step⟩
        · refine thnF (T2.done (X.blk s3 H3 scope ce fp) rfl rfl rfl hc j _ t5 _ G5 (fun _ _ => False) K5 (stat2 v5) u5 stop) fun r t6 ⟨hr, K6⟩ => ?_
          subst hr
          exact fin K6 qq
        · refine thnF (T2.item (X.blk s3 H3 scope ce fp) rfl rfl rfl hc j _ t5 _ G5 (fun _ _ => False) K5 (stat2 v5) u5 go) fun r t6 ⟨u', hr, h6'⟩ => ?_
          subst hr
          refine go_name (thnF h6' fun _ t7 ⟨x', G7, K7, r7', y7', u7, n7'⟩ => ?_)
          have K7' := K7.pinned (stat2 n7') (T2.obj _ _ u7)
          refine thnF (pg2.run _ t7 _ G7 x' u' _ K7' r7' (step x' G7 y7')) fun _ t8 ⟨σ9, G8, K8, hw9, q9⟩ => ?_
          show wpAny _ _ (pure true) _ _ t8
          refine wpAny_pure ?_
          rw [if_pos rfl]
          refine thnF (pe.run _ t8 σ9 G8 _ K8 q9) fun z t9 ⟨yv, G9, K9, r9, acc, hD9, hz9, nx⟩ => ?_
          refine app_ok (X := X.blk s3 H3 scope ce fp) K9 hD9 hz9 r9 fun t10 K10 => ?_
          obtain ⟨m', hm, w'⟩ := hN2 _ nx
          have pin' : ∀ b ∈ fp2, ∀ o, t7.heap.get? b = some o → t10.heap.get? b = some o ∧ (upd G9 D (.lst (acc ++ [yv]))) b = none := fun b hb o e =>
            let z := K10.pin (b, o) (List.mem_append_right _ (List.mem_append_right _ (mem_pinsAt hb e)))
            ⟨z.1, z.2.1⟩
          have hl : σ8.length = σ9.length := by rw [← hw9, wipe_length]
          refine ⟨m', hm, j + 1, _, (K10.unpinned).weak hl (fun j' v e => ?_), T2.keep _ _ _ u7 fun b hb o e => (pin' b hb o e).1, fun b hb => ?_, w'⟩
          · rw [← hw9] at e
            exact (wipe_some e).1
          · obtain ⟨o, e, _⟩ := T2.obj _ _ u7 b hb
            exact (pin' b hb o e).2
      exact PyProof.Rows.Lc2.start_in loop2 (T2.self X.A 0 _ _ _ st10 loop2)
  exact codeAny_compStart_list loop (T.self X.A 0 _ _ _ st4 loop)
end
end DL

/-! comprehensions of two clauses, told over data. -/
namespace DL
open PySem PySem.Spec L2
open PyProof.Rows hiding St
section
variable {K : PySem.W.Frag} {B : Base} {n : Nat} {σ : L2.St} {H : Hp} {X : Cx}
def IterU (K : PySem.W.Frag) (B : Base) (n : Nat) (J : It) (ds : List D) (g1 : Gs) : Prop := ∀ (i : Nat) (g : Gs) (H : Hp) (σ : L2.St) (δ : Env), Up g1.F g.F → WLe g1.W g.W → Stt K B g H σ δ →
  (∀ d, ds[i]? = some d → J.go i H ∧ ∀ x H', J.yld i H x H' → ∃ g', Step n g H g' H' ∧ Stt K B g' H' σ δ ∧ Den K g'.W g'.F x d) ∧ (ds.length ≤ i → J.stop i H)
theorem iter_lstU {a : Addr} {xs : List V} {ds : List D} {g1 : Gs} (h : SqL K g1.F a xs) (r : Dens K g1.W g1.F xs ds) : IterU K B n (Itl K a) ds g1 := fun i g H σ δ u w S =>
  ⟨fun d e => by
    obtain ⟨v, e1, r1⟩ := r.get e
    have q : SqL K H a xs := SqL.up S.ret.sub (SqL.up u h)
    exact ⟨⟨xs, v, q, e1⟩, fun x H' ⟨e2, e3⟩ => by
      subst e2
      obtain rfl : x = v := Option.some.inj ((e3 xs q).symm.trans e1)
      exact ⟨g, Step.refl _ _ _, S, r1.up u w⟩⟩, fun hl => ⟨xs, SqL.up S.ret.sub (SqL.up u h), by rw [r.length]; exact hl⟩⟩
theorem iter_tupU {a : Addr} {xs : List V} {ds : List D} {g1 : Gs} (h : SqT K g1.F a xs) (r : Dens K g1.W g1.F xs ds) : IterU K B n (Itt K a) ds g1 := fun i g H σ δ u w S =>
  ⟨fun d e => by
    obtain ⟨v, e1, r1⟩ := r.get e
    have q : SqT K H a xs := SqT.up S.ret.sub (SqT.up u h)
    exact ⟨⟨xs, v, q, e1⟩, fun x H' ⟨e2, e3⟩ => by
      subst e2
      obtain rfl : x = v := Option.some.inj ((e3 xs q).symm.trans e1)
      exact ⟨g, Step.refl _ _ _, S, r1.up u w⟩⟩, fun hl => ⟨xs, SqT.up S.ret.sub (SqT.up u h), by rw [r.length]; exact hl⟩⟩
theorem seq_ofU {g1 : Gs} {H1 : Hp} {v : V} {d : D} {ds : List D} {R : It → Hp → Prop} {σ : L2.St} {δ1 : Env} (S : Stt K B g1 H1 σ δ1) (r : Den K g1.W g1.F v d) (e : seqOf d = some ds) (k : ∀ J, IterU K B n J ds g1 → R J H1) :
    ∃ a, v = .ref a ∧ (((∃ xs, SqL K H1 a xs) ∧ R (Itl K a) H1) ∨ ((∃ xs, SqT K H1 a xs) ∧ R (Itt K a) H1)) := by
  cases r with
  | @lst a xs es h r => cases e; exact ⟨a, rfl, .inl ⟨⟨xs, SqL.of (S.ret.sub _ _ h)⟩, k _ (iter_lstU (.inl (.inl h)) r)⟩⟩
  | @kls a xs es h r => cases e; exact ⟨a, rfl, .inl ⟨⟨xs, SqL.up S.ret.sub h⟩, k _ (iter_lstU h r)⟩⟩
  | @tup a xs es h r => cases e; exact ⟨a, rfl, .inr ⟨⟨xs, SqT.up S.ret.sub h⟩, k _ (iter_tupU h r)⟩⟩
  | _ => cases e
def dComp2L (tg1 : TDG) (te1 : TDX) (tg2 : TDG) (te : TDX) (v1 v2 : List Nat) (P : List D → Env → Prop) : List D → List D → Env → Prop
  | [], acc, δ => P acc δ
  | d :: ds, acc, δ => tg1 d δ fun δ1 => te1 (fun _ => False) δ1 fun e δ2 => match seqOf e with
    | some es => dCompL tg2 dYes te v2 (fun acc' δ3 => dComp2L tg1 te1 tg2 te v1 v2 P ds acc' (wipeD δ3 (v1 ++ v2))) es acc (wipeD δ2 v2)
    | none => False
def dComp2 (ti : TDI) (tg1 : TDG) (te1 : TDX) (tg2 : TDG) (te : TDX) (v1 v2 : List Nat) : TDF := fun rx δ P => ti rx δ fun ds δ1 => dComp2L tg1 te1 tg2 te v1 v2 (fun acc δ2 => P (.ol acc) (backD δ1 δ2 (v1 ++ v2))) ds [] (wipeD δ1 (v1 ++ v2))
def At (K : PySem.W.Frag) (B : Base) (n : Nat) (g1 : Gs) (H1 : Hp) (D : Addr) (σ : L2.St) (R : List DL.D → Env → Prop) (H : Hp) : Prop := ∃ g' δ' acc xs, Step n g1 H1 g' H ∧ g'.O D = some (n + D) ∧ H D = some (.lst xs) ∧ Dens K g'.W g'.F xs acc ∧ Stt K B g' H σ δ' ∧ R acc δ'
theorem wipe_wipe (σ : L2.St) (vs : List Nat) : wipe (wipe σ vs) vs = wipe σ vs := by
  apply List.ext_getElem?
  intro j
  by_cases hj : j ∈ vs
  · by_cases hjl : j < σ.length
    · rw [wipe_in hj (by rw [wipe_length]; exact hjl), wipe_in hj hjl]
    · rw [List.getElem?_eq_none (by rw [wipe_length, wipe_length]; omega), List.getElem?_eq_none (by rw [wipe_length]; omega)]
  · rw [wipe_get hj]
theorem yes_of {rx : D → Prop} {δ : Env} {A C : Env → Prop} (h : dYes rx δ fun b δ' => if b = true then A δ' else C δ') : A δ := by
  have h : (if true = true then A δ else C δ) := h
  rwa [if_pos rfl] at h
theorem lift_comp2 {ti : TDI} {tg1 : TDG} {te1 : TDX} {tg2 : TDG} {te : TDX} {v1 v2 : List Nat} {rx : D → Prop} {Q : VK} (hl : σ.length = n) (hd : ∀ j ∈ v2, j ∉ v1) (h : liftF K B n (dComp2 ti tg1 te1 tg2 te v1 v2 rx) σ H Q) :
    tLc2 (liftI K B n (ti rx)) (liftG K B n v1 tg1) (iSeq K (liftE K B n (te1 fun _ => False))) (liftG K B n v2 tg2) (liftE K B n (te fun _ => False)) v1 v2 σ H Q := by
  obtain ⟨g, δ, P, S, q, k⟩ := h
  refine ⟨g, δ, _, S, q, fun ds δ1 g1 H1 J h1 st1 S1 hJ => fun D hD => ?_⟩
  obtain ⟨S2, st2⟩ := S1.allocOwn (n := n) (k := n + D) hD (o := .lst []) trivial
  refine ⟨fun i m H => m = ds.length - i ∧ i ≤ ds.length ∧ At K B n g1 H1 D (L2.wipe σ (v1 ++ v2)) (dComp2L tg1 te1 tg2 te v1 v2 (fun acc δ2 => P (.ol acc) (backD δ1 δ2 (v1 ++ v2))) (ds.drop i)) H,
    ⟨_, rfl, Nat.zero_le _, _, _, [], [], st2, by simp, upd_same, .nil, S2.wiped, by simpa using h1⟩, ?_⟩
  rintro i m H2 ⟨rfl, hi, g2, δ2, acc, xs, st2', oD, eD, rD, S2', q2⟩
  obtain ⟨ja, jb⟩ := hJ i g2 H2 _ δ2 st2' S2'
  have nD : g1.O D = none := own_none S1 hD
  by_cases hlt : i < ds.length
  · have e : ds.drop i = ds[i] :: ds.drop (i + 1) := List.drop_eq_getElem_cons hlt
    rw [e] at q2
    obtain ⟨jgo, jy⟩ := ja ds[i] (List.getElem?_eq_getElem hlt)
    refine .inr ⟨jgo, fun H' => At K B n g1 H1 D (L2.wipe σ (v1 ++ v2)) (dComp2L tg1 te1 tg2 te v1 v2 (fun acc δ2 => P (.ol acc) (backD δ1 δ2 (v1 ++ v2))) (ds.drop (i + 1))) H',
      fun H' h => ⟨ds.length - (i + 1), by omega, rfl, hlt, h⟩, fun x H' y => ?_⟩
    obtain ⟨g3, st3, S3, r3⟩ := jy x H' y
    refine ⟨g3, δ2, ds[i], _, S3, r3, q2, fun σ4 δ4 g4 H4 h4 st4 S4 so => ?_⟩
    have hw : L2.wipe σ4 (v1 ++ v2) = L2.wipe σ (v1 ++ v2) := by
      rw [(so.mono (ws := v1 ++ v2) fun j hj => List.mem_append_left _ hj).wipe, wipe_wipe]
    have l4 : σ4.length = σ.length := by rw [so.1, wipe_length]
    have hw2 : L2.wipe σ4 v2 = σ4 := by
      apply List.ext_getElem?
      intro j
      by_cases hj : j ∈ v2
      · by_cases hjl : j < σ.length
        · rw [wipe_in hj (by omega), so.2 j (hd j hj), wipe_in (List.mem_append_right _ hj) hjl]
        · rw [List.getElem?_eq_none (by rw [wipe_length]; omega), List.getElem?_eq_none (by omega)]
      · rw [wipe_get hj]
    refine ⟨hw, hw2, g4, δ4, _, S4, h4, fun ed δ5 g5 H5 v h5 st5 S5 r5 => ?_⟩
    cases z : seqOf ed with
    | none => simp only [z] at h5
    | some es =>
      simp only [z] at h5
      refine seq_ofU (n := n) (R := fun J2 H3 => tIn2 J2 D (liftG K B n v2 tg2) (liftE K B n (te fun _ => False)) v2 σ4 H3 (fun H' => At K B n g1 H1 D (L2.wipe σ (v1 ++ v2)) (dComp2L tg1 te1 tg2 te v1 v2 (fun acc δ2 => P (.ol acc) (backD δ1 δ2 (v1 ++ v2))) (ds.drop (i + 1))) H')) S5 r5 z fun J2 hJ2 => ?_
      have sAll : Step n g2 H2 g5 H5 := (st3.trans st4).trans st5
      obtain ⟨oD5, eD5⟩ := sAll.ext D _ oD (Nat.le_add_right _ _)
      have eD5 : H5 D = some (.lst xs) := eD5.trans eD
      have S5w := S5.wiped (vs := v2)
      rw [hw2] at S5w
      refine ⟨fun i2 m H => m = es.length - i2 ∧ i2 ≤ es.length ∧ ∃ g' δ' acc xs, Step n g1 H1 g' H ∧ (Up g5.F g'.F ∧ WLe g5.W g'.W) ∧ g'.O D = some (n + D) ∧ H D = some (.lst xs) ∧ Dens K g'.W g'.F xs acc ∧ Stt K B g' H σ4 δ' ∧ dCompL tg2 dYes te v2 (fun acc' δ3 => dComp2L tg1 te1 tg2 te v1 v2 (fun acc δ2 => P (.ol acc) (backD δ1 δ2 (v1 ++ v2))) (ds.drop (i + 1)) acc' (wipeD δ3 (v1 ++ v2))) (es.drop i2) acc δ',
        ⟨_, rfl, Nat.zero_le _, g5, wipeD δ5 v2, acc, xs, st2'.trans sAll, ⟨Up.refl _, (Step.refl n g5 H5).wle⟩, oD5, eD5, rD.step sAll, S5w, h5⟩, ?_⟩
      rintro i2 m2 H6 ⟨rfl, hi2, g6, δ6, acc6, xs6, s6, ⟨u6, w6⟩, o6, e6, r6, S6, q6⟩
      obtain ⟨ja2, jb2⟩ := hJ2 i2 g6 H6 _ δ6 u6 w6 S6
      by_cases hlt2 : i2 < es.length
      · have ee : es.drop i2 = es[i2] :: es.drop (i2 + 1) := List.drop_eq_getElem_cons hlt2
        rw [ee] at q6
        obtain ⟨jgo2, jy2⟩ := ja2 es[i2] (List.getElem?_eq_getElem hlt2)
        refine .inr ⟨jgo2, fun H => ∃ g' δ' acc xs, Step n g1 H1 g' H ∧ (Up g5.F g'.F ∧ WLe g5.W g'.W) ∧ g'.O D = some (n + D) ∧ H D = some (.lst xs) ∧ Dens K g'.W g'.F xs acc ∧ Stt K B g' H σ4 δ' ∧ dCompL tg2 dYes te v2 (fun acc' δ3 => dComp2L tg1 te1 tg2 te v1 v2 (fun acc δ2 => P (.ol acc) (backD δ1 δ2 (v1 ++ v2))) (ds.drop (i + 1)) acc' (wipeD δ3 (v1 ++ v2))) (es.drop (i2 + 1)) acc δ',
          fun H' h => ⟨es.length - (i2 + 1), by omega, rfl, hlt2, h⟩, fun x H' y => ?_⟩
        obtain ⟨g7, st7, S7, r7⟩ := jy2 x H' y
        refine ⟨g7, δ6, es[i2], _, S7, r7, q6, fun σ8 δ8 g8 H8 h8 st8 S8 so8 => ?_⟩
        have hw8 : L2.wipe σ8 v2 = σ4 := by rw [so8.wipe, hw2]
        refine ⟨hw8, g8, δ8, _, S8, yes_of h8, fun yd δ9 g9 H9 yv h9 st9 S9 r9 => ?_⟩
        have sB : Step n g6 H6 g9 H9 := (st7.trans st8).trans st9
        obtain ⟨o9, e9⟩ := sB.ext D _ o6 (Nat.le_add_right _ _)
        have e9 : H9 D = some (.lst xs6) := e9.trans e6
        have r9' := r6.step sB
        refine ⟨xs6, e9, by rw [r6.length]; exact h9.1, ?_⟩
        have hl9 : (L2.wipe σ8 v2).length = n := by rw [hw8, l4]; exact hl
        obtain ⟨S10, k10⟩ := (S9.wiped (vs := v2)).writeX (o' := .lst (xs6 ++ [yv])) hl9 o9 (Nat.le_add_right _ _) e9 trivial trivial
        have s9 : Step n g1 H1 g9 H9 := s6.trans sB
        refine ⟨g9, wipeD δ9 v2, acc6 ++ [yd], xs6 ++ [yv], ⟨s9.up, s9.wle, fun a h => upd_thr a (s9.thr a h), fun a k' z1 z2 => ?_⟩, ⟨Up.trans u6 sB.up, w6.trans sB.wle⟩, o9, upd_same, r9'.append (.cons r9 .nil), by rw [← hw8]; exact S10, h9.2⟩
        obtain ⟨y1, y2⟩ := s9.ext a k' z1 z2
        have na : a ≠ D := fun z => by rw [z, nD] at z1; cases z1
        exact ⟨y1, (k10 a na).trans y2⟩
      · have ee : i2 = es.length := by omega
        subst ee
        rw [List.drop_length] at q6
        have S6w := S6.wiped (vs := v1 ++ v2)
        rw [hw] at S6w
        exact .inl ⟨jb2 (Nat.le_refl _), g6, wipeD δ6 (v1 ++ v2), acc6, xs6, s6, o6, e6, r6, S6w, q6⟩
  · have e : i = ds.length := by omega
    subst e
    rw [List.drop_length] at q2
    refine .inl ⟨jb (Nat.le_refl _), ?_⟩
    have s2 : Step n g H g2 H2 := st1.trans st2'
    have S3 := Stt.back (vs := v1 ++ v2) S1 st2' S2'
    refine k _ _ g2 H2 _ q2 s2 S3 ⟨D, xs, rfl, own_none S ?_, oD, eD, rD⟩
    cases z : H D with
    | none => rfl
    | some o => exact absurd hD (st1.thr D (by rw [z]; simp))
theorem df_comp2 {elt i0 i1 : Expr} {x0 x1 : Str} {p0 p1 pos : Pos} {scope : Scope} {own : List (Str × Nat)} {v1 v2 : List Nat} {ti : TDI} {dg1 dg2 : TDG} {te1 te : TDX} (hc : X.calm = true) (hN : X.N.Nodup) (hi : DI X B (.Name x0 p0) i0 ti) (ok : BlkOk X.N X.env.scope scope own) (hv : own.map (·.2) = v1 ++ v2) (hd : ∀ j ∈ v2, j ∉ v1)
    (hg1 : ∀ (s : Shared) (H : Hp) (C : Addr) (cl : List (Str × Addr)) (fp : List Addr), DG (X.blk s H scope (compEnvC scope cl C X.env) fp) B (.Name x0 p0) v1 dg1)
    (h1 : ∀ (s : Shared) (H : Hp) (C : Addr) (cl : List (Str × Addr)) (fp : List Addr), DE (X.blk s H scope (compEnvC scope cl C X.env) fp) B i1 te1)
    (hg2 : ∀ (s : Shared) (H : Hp) (C : Addr) (cl : List (Str × Addr)) (fp : List Addr), DG (X.blk s H scope (compEnvC scope cl C X.env) fp) B (.Name x1 p1) v2 dg2)
    (he : ∀ (s : Shared) (H : Hp) (C : Addr) (cl : List (Str × Addr)) (fp : List Addr), DE (X.blk s H scope (compEnvC scope cl C X.env) fp) B elt te) (hs : ∀ x, foldedSetIterable i0 X.env x = pure x := by intro _; rfl) (hs1 : ∀ env x, foldedSetIterable i1 env x = pure x := by intro _ _; rfl) :
    DF X B (.ListComp elt [⟨.Name x0 p0, i0, [], 0⟩, ⟨.Name x1 p1, i1, [], 0⟩] scope pos) (dComp2 ti dg1 te1 dg2 te v1 v2) := by
  refine ⟨fun rx tk => ⟨fun pins s σ H Q I h => ?_⟩⟩
  have hl := I.len
  rw [eval_ListComp]
  refine lc2_core hc hN I (hi.run rx tk) ok hv (fun s H C cl fp => (hg1 s H C cl fp).run) (fun s H C cl fp => pi_seq ((h1 s H C cl fp).run (fun _ => False) takes_never)) (fun s H C cl fp => (hg2 s H C cl fp).run) (fun s H C cl fp => (he s H C cl fp).run (fun _ => False) takes_never) hs hs1 (lift_comp2 hl hd h) fun D C s' m H' I' q hn f => ⟨m, hn, fun h'' sb => ?_⟩
  obtain ⟨f0, f1, f2, f3, f4, f5⟩ := f
  exact ⟨.ref D, H', I'.turned (t' := s'.toks) (fun b o hb e => (sb.2 b hb).trans e) f0 f1 f3 f4 f5, rfl, q⟩
theorem ds_comp2 {i : Nat} {y : Str} {py spos : Pos} {elt i0 i1 : Expr} {x0 x1 : Str} {p0 p1 pos : Pos} {scope : Scope} {own : List (Str × Nat)} {v1 v2 : List Nat} {ti : TDI} {dg1 dg2 : TDG} {te1 te : TDX} (hc : X.calm = true) (hN : X.N.Nodup) (hy : X.N[i]? = some y) (hyl : X.env.scope.names.lookup y = some .local)
    (hsw : swapsWith (.ListComp elt [⟨.Name x0 p0, i0, [], 0⟩, ⟨.Name x1 p1, i1, [], 0⟩] scope pos) (some (.Name y py)) spos.line X.env = pure true) (hi : DI X B (.Name x0 p0) i0 ti) (ok : BlkOk X.N X.env.scope scope own) (hv : own.map (·.2) = v1 ++ v2) (hd : ∀ j ∈ v2, j ∉ v1)
    (hg1 : ∀ (s : Shared) (H : Hp) (C : Addr) (cl : List (Str × Addr)) (fp : List Addr), DG (X.blk s H scope (compEnvC scope cl C X.env) fp) B (.Name x0 p0) v1 dg1)
    (h1 : ∀ (s : Shared) (H : Hp) (C : Addr) (cl : List (Str × Addr)) (fp : List Addr), DE (X.blk s H scope (compEnvC scope cl C X.env) fp) B i1 te1)
    (hg2 : ∀ (s : Shared) (H : Hp) (C : Addr) (cl : List (Str × Addr)) (fp : List Addr), DG (X.blk s H scope (compEnvC scope cl C X.env) fp) B (.Name x1 p1) v2 dg2)
    (he : ∀ (s : Shared) (H : Hp) (C : Addr) (cl : List (Str × Addr)) (fp : List Addr), DE (X.blk s H scope (compEnvC scope cl C X.env) fp) B elt te) (hs : ∀ x, foldedSetIterable i0 X.env x = pure x := by intro _; rfl) (hs1 : ∀ env x, foldedSetIterable i1 env x = pure x := by intro _ _; rfl) :
    DS X B (.Assign [.Name y py] (.ListComp elt [⟨.Name x0 p0, i0, [], 0⟩, ⟨.Name x1 p1, i1, [], 0⟩] scope pos) spos) (dSetX i (dComp2 ti dg1 te1 dg2 te v1 v2)) := by
  refine ⟨fun rx tk => ⟨fun pins s σ H DD I h0 => ?_⟩⟩
  have hl := I.len
  have h2 := lift_setX (K := X.K) (B := B) hl (List.getElem?_eq_some_iff.mp hy).1 h0
  have h : tLc2 (liftI X.K B X.N.length (ti rx)) (liftG X.K B X.N.length v1 dg1) (iSeq X.K (liftE X.K B X.N.length (te1 fun _ => False))) (liftG X.K B X.N.length v2 dg2) (liftE X.K B X.N.length (te fun _ => False)) v1 v2 σ H (fun x H1 => gName i x σ H1 DD.nx) := lift_comp2 hl hd h2
  rw [exec_Assign_Name_used _ _ _ _ hsw]
  refine wpAny_bind (wpAny_standAt (wpAny_bind ?_))
  show wpAny _ X.A (do let _ ← comprehension (.ListComp elt [⟨.Name x0 p0, i0, [], 0⟩, ⟨.Name x1 p1, i1, [], 0⟩] scope pos) scope X.env (firstIterPos [⟨.Name x0 p0, i0, [], 0⟩, ⟨.Name x1 p1, i1, [], 0⟩] pos) (newList []) false (eval i0 X.env) (some (assign (.Name y py) X.env))) _ _ s
  refine wpAny_bind (thn (lc2_core (Qf := fun _ s' => SP X pins DD .next s') hc hN I (hi.run rx tk) ok hv (fun s H C cl fp => (hg1 s H C cl fp).run) (fun s H C cl fp => pi_seq ((h1 s H C cl fp).run (fun _ => False) takes_never)) (fun s H C cl fp => (hg2 s H C cl fp).run) (fun s H C cl fp => (he s H C cl fp).run (fun _ => False) takes_never) hs hs1 h fun L C s' m H' I' q hn f => ?_) fun _ s' hq => wpAny_pure (wpAny_pure hq))
  show wpAny _ _ (assign (.Name y py) X.env (.ref L)) _ _ _
  refine wpAny_assign_Name (store_ok2 (v := V.ref L) I' hN hy (.inl hyl) rfl (fun s2 I2 ⟨a, sb, ha⟩ => ?_) (.inr hyl))
  obtain ⟨f0, f1, f2, f3, f4, f5⟩ := f
  have haC : C ≠ a := by
    rcases ha with z | z
    · rw [z]; exact f1
    · exact fun e => f4 y a z e.symm
  refine ⟨m, hn.sameBut sb haC, fun h3 sb3 => ?_⟩
  exact ⟨_, H', I2.turned (t' := s2.toks) (fun b o hb e => (sb3.2 b hb).trans e) f0 f1 f3 f4 f5, q⟩
end
end DL

/-! list(range(..)); the sum of lists. -/
namespace DL
open PySem PySem.Spec L2
open PyProof.Rows hiding St
/-! ### list(range(..)) -/
section
variable {X : Cx} {B : Base} {K : PySem.W.Frag} {a b : Expr} {ta tb : TDX} {p p2 pos pos2 : Pos}
theorem dens_range {W : DW} {F : Hp} (lo : Int) : ∀ l : List Nat, Dens K W F (l.map fun i => V.int (lo + (i : Nat))) (l.map fun (i : Nat) => D.int (lo + i))
  | [] => .nil
  | i :: l => .cons (.int _) (dens_range lo l)
def fListRg2 (ta tb : TDX) : TDF := fun rx δ P => ta rx δ fun x δ1 => tb rx δ1 fun y δ2 => match x, y with
  | .int i, .int j => RgOk i j ∧ P (.ol (rangeD i j)) δ2
  | _, _ => False
def fListRg1 (ta : TDX) : TDF := fun rx δ P => ta rx δ fun x δ1 => match x with
  | .int j => RgOk 0 j ∧ P (.ol (rangeD 0 j)) δ1
  | _ => False
theorem df_listRg2 (hc : X.calm = true) (hg : Gl X "list") (hm : X.mg "list" = none) (hg2 : Gl X "range") (hm2 : X.mg "range" = none) (ha : DE X B a ta) (hb : DE X B b tb) (na : starEach [a, b] X.env = (false, eval a X.env) :: starEach [b] X.env := by rfl) (nb : starEach [b] X.env = (false, eval b X.env) :: starEach [] X.env := by rfl) (hp : (backTo pos2 (starEach [b] X.env)).any (·.1) = false := by rfl)
    (nc : starEach [Expr.Call (.Name "range" p2) [a, b] [] pos2] X.env = (false, eval (Expr.Call (.Name "range" p2) [a, b] [] pos2) X.env) :: starEach [] X.env := by rfl) :
    DF X B (.Call (.Name "list" p) [.Call (.Name "range" p2) [a, b] [] pos2] [] pos) (fListRg2 ta tb) :=
  ⟨fun rx tk => PE.imp (pe_listRg hc hg hm (prg_2 hg2 hm2 (ha.run rx tk) (hb.run rx tk) na nb hp) nc) fun σ H Q hl ⟨g, δ, P, S, q, k⟩ =>
    ⟨g, δ, _, S, q, fun x δ1 g1 H1 v h1 st1 S1 D1 => ⟨g1, δ1, _, S1, h1, fun y δ2 g2 H2 v2 h2 st2 S2 D2 => by
      cases D1 with
      | int i =>
        cases D2 with
        | int j =>
          refine ⟨i, j, rfl, rfl, h2.1, fun q hq => ?_⟩
          obtain ⟨g3, st3, S3, it⟩ := S2.newL (st1.trans st2) S hq (dens_range i (List.range (j - i).toNat))
          exact k _ δ2 g3 _ _ h2.2 st3 S3 it
        | _ => exact h2.elim
      | _ => cases D2 <;> exact h2.elim⟩⟩⟩
theorem df_listRg1 (hc : X.calm = true) (hg : Gl X "list") (hm : X.mg "list" = none) (hg2 : Gl X "range") (hm2 : X.mg "range" = none) (ha : DE X B a ta) (na : starEach [a] X.env = (false, eval a X.env) :: starEach [] X.env := by rfl)
    (nc : starEach [Expr.Call (.Name "range" p2) [a] [] pos2] X.env = (false, eval (Expr.Call (.Name "range" p2) [a] [] pos2) X.env) :: starEach [] X.env := by rfl) :
    DF X B (.Call (.Name "list" p) [.Call (.Name "range" p2) [a] [] pos2] [] pos) (fListRg1 ta) :=
  ⟨fun rx tk => PE.imp (pe_listRg hc hg hm (prg_1 hg2 hm2 (ha.run rx tk) na) nc) fun σ H Q hl ⟨g, δ, P, S, q, k⟩ =>
    ⟨g, δ, _, S, q, fun x δ1 g1 H1 v h1 st1 S1 D1 => by
      cases D1 with
      | int j =>
        refine ⟨j, rfl, h1.1, fun q hq => ?_⟩
        obtain ⟨g3, st3, S3, it⟩ := S1.newL st1 S hq (dens_range 0 (List.range (j - 0).toNat))
        exact k _ δ1 g3 _ _ h1.2 st3 S3 it
      | _ => exact h1.elim⟩⟩
end
/-! ### sum(lists, list) -/
def preC (b0 : Array Value) (f : Nat → Array Value) : Nat → Array Value
  | 0 => b0
  | i + 1 => preC b0 f i ++ f i
section
variable {prog : Program} {w : World} {A : Around} {R : Result → Shared → Prop} {I a S : Addr} {us b0 : Array Value} {f : Nat → Array Value}
theorem sum_lists_loop (hh : A.handled = none) (hSI : S ≠ I) (haI : a ≠ I) (haS : a ≠ S) (hz : ∀ i, i ≤ us.size → (preC b0 f i).size ≤ sizeLine) :
    ∀ (k i : Nat) (s : Shared) (c : Nat) (t : Addr) (n : Nat), us.size - i = k → i ≤ us.size → s.heap.IsListIter I a i → s.heap.IsList a us → (∀ j v, us[j]? = some v → ∃ x n, v = Value.ref x ∧ IsL s.heap x (f j) n ∧ x ≠ S ∧ x ≠ I) → IsL s.heap S #[Value.ref t] c → IsL s.heap t (preC b0 f i) n → t ≠ S → t ≠ I →
      (∀ h' t' n', IsL h' t' (preC b0 f us.size) n' → (∀ b o, b ≠ I → b ≠ S → s.heap.get? b = some o → h'.get? b = some o) → (t' = t ∨ s.heap.objs.size ≤ t') → (0 < k → t' ≠ t) → t' ≠ I → t' ≠ S → R (.ok (.ret (Value.ref t'))) { s with heap := h' }) →
      codeAny (model prog w) A (.builtin "sum.loop" ⟨[Value.ref I, Value.ref S, rawInt 2, rawInt 0], []⟩) R s := by
  intro k
  induction k with
  | zero =>
    intro i s c t n hk hi hI ha hx hS ht hts hti hR
    have e : i = us.size := by omega
    subst e
    refine codeAny_builtin F.entry_sum_loop ?_
    rw [Around.under_plainId F.plain_sum_loop _]
    show wpAny _ A.in1 (seqItems? (.ref S) >>= _) _ _ s
    refine wpAny_bind (wpAny_seqItems hS rfl ?_)
    show wpAny _ A.in1 (tryCatch (pyNext (.ref I)) _ >>= _) _ _ s
    refine wpAny_bind (wpAny_tryCatch (wpAny_pyNext_list_end (A := A.in1) hh hI ha (by simp) fun h' eb => ?_))
    exact wpAny_pure (hR h' t n (eb _ _ hti ht) (fun b o b1 b2 e => eb _ _ b1 e) (.inl rfl) (fun z => absurd z (by decide)) hti hts)
  | succ k ih =>
    intro i s c t n hk hi hI ha hx hS ht hts hti hR
    have hlt : i < us.size := by omega
    have hu : us[i]? = some us[i] := Array.getElem?_eq_getElem hlt
    obtain ⟨x, nx, ex, hxl, hxS, hxI⟩ := hx i _ hu
    refine codeAny_builtin F.entry_sum_loop ?_
    rw [Around.under_plainId F.plain_sum_loop _]
    show wpAny _ A.in1 (seqItems? (.ref S) >>= _) _ _ s
    refine wpAny_bind (wpAny_seqItems hS rfl ?_)
    show wpAny _ A.in1 (tryCatch (pyNext (.ref I)) _ >>= _) _ _ s
    refine wpAny_bind (wpAny_tryCatch (wpAny_pyNext_list_item hI ha (hu.trans (congrArg some ex)) fun h1 hI1 sb1 => ?_))
    have hS1 : IsL h1 S #[Value.ref t] c := sb1.extBut _ _ hSI hS
    have ht1 : IsL h1 t (preC b0 f i) n := sb1.extBut _ _ hti ht
    have hx1 : IsL h1 x (f i) nx := sb1.extBut _ _ hxI hxl
    show wpAny _ A.in1 ((holding [Value.ref x] (binaryOp .Add (Value.ref t) (Value.ref x))).attempt >>= _) _ _ _
    have hsz : (preC b0 f i).size + (f i).size ≤ sizeLine := by
      have := hz (i + 1) hlt
      rwa [preC, Array.size_append] at this
    refine wpAny_bind (wpAny_attempt (wpAny_holding (P.add_list ht1 hx1 ?_ hsz)))
    show wpAny _ A.in1 (updateSeq S (fun _ => #[Value.ref h1.objs.size]) >>= _) _ _ _
    have hS2 : IsL (h1.push { cls := .type "list", data := .seq (preC b0 f i ++ f i) }) S #[Value.ref t] c := Heap.get?_push_of_some _ hS1
    have hr2 : IsL (h1.push { cls := .type "list", data := .seq (preC b0 f i ++ f i) }) h1.objs.size (preC b0 f i ++ f i) 0 := Heap.get?_push_size _ rfl
    have up2 : ∀ b o, b ≠ I → s.heap.get? b = some o → (h1.push { cls := .type "list", data := .seq (preC b0 f i ++ f i) }).get? b = some o := fun b o b1 e => Heap.get?_push_of_some _ (sb1.extBut _ _ b1 e)
    have hI2 : (h1.push { cls := .type "list", data := .seq (preC b0 f i ++ f i) }).IsListIter I a (i + 1) := hI1.at fun o e => Heap.get?_push_of_some _ e
    have lS : S < h1.objs.size := Heap.lt_size hS1
    have lI : I < h1.objs.size := by obtain ⟨_, e, _⟩ := hI1; exact Heap.lt_size e
    have lt : t < h1.objs.size := Heap.lt_size ht1
    have sz1 : h1.objs.size = s.heap.objs.size := sb1.1
    have sz2 : h1.objs.size ≤ (h1.push { cls := .type "list", data := .seq (preC b0 f i ++ f i) }).objs.size := by rw [Heap.size_push]; exact Nat.le_succ _
    generalize h1.push { cls := .type "list", data := .seq (preC b0 f i ++ f i) } = h2 at hS2 hr2 up2 hI2 sz2 ⊢
    refine wpAny_bind (wpAny_updateSeq (s := { s with heap := h2 }) hS2 rfl ?_)
    have hS3 := Heap.get?_update_self (Obj.mapSeq fun _ => #[Value.ref h1.objs.size]) hS2 rfl
    refine wpAny_bind (wpAny_letGo ?_)
    refine wpAny_bind (wpAny_updateSeq hS3 rfl (wpAny_pure ⟨plainId_quiet F.plain_sum_loop _, ?_⟩))
    have hS4 := Heap.get?_update_self (Obj.mapSeq fun _ => #[Value.ref h1.objs.size]) hS3 rfl
    have up4 : ∀ b o, b ≠ S → h2.get? b = some o → ((h2.update S (Obj.mapSeq fun _ => #[Value.ref h1.objs.size])).update S (Obj.mapSeq fun _ => #[Value.ref h1.objs.size])).get? b = some o := fun b o b1 e => (Heap.get?_update_other _ _ (Ne.symm b1)).trans ((Heap.get?_update_other _ _ (Ne.symm b1)).trans e)
    have oth : ∀ b o, b ≠ I → b ≠ S → s.heap.get? b = some o → ((h2.update S (Obj.mapSeq fun _ => #[Value.ref h1.objs.size])).update S (Obj.mapSeq fun _ => #[Value.ref h1.objs.size])).get? b = some o := fun b o b1 b2 e => up4 b o b2 (up2 b o b1 e)
    refine ih (i + 1) _ _ h1.objs.size 0 (by omega) hlt (hI2.at fun o e => up4 _ o (Ne.symm hSI) e) (ha.at fun o e => oth _ o haI haS e) (fun j v e => ?_) hS4 (up4 _ _ (Nat.ne_of_gt lS) hr2) (Nat.ne_of_gt lS) (Nat.ne_of_gt lI) fun h' t' n' q1 q2 q3 q4 q5 q6 => ?_
    · obtain ⟨x', n', e', z1, z2, z3⟩ := hx j v e
      exact ⟨x', n', e', oth _ _ z3 z2 z1, z2, z3⟩
    · have sz4 : ((h2.update S (Obj.mapSeq fun _ => #[Value.ref h1.objs.size])).update S (Obj.mapSeq fun _ => #[Value.ref h1.objs.size])).objs.size = h2.objs.size := (Heap.SameBut.update ..).1.trans (Heap.SameBut.update ..).1
      have q3 : t' = h1.objs.size ∨ ((h2.update S (Obj.mapSeq fun _ => #[Value.ref h1.objs.size])).update S (Obj.mapSeq fun _ => #[Value.ref h1.objs.size])).objs.size ≤ t' := q3
      rw [sz4] at q3
      have hle : s.heap.objs.size ≤ t' := by
        rcases q3 with e | e
        · rw [e]; exact Nat.le_of_eq sz1.symm
        · exact Nat.le_trans (Nat.le_trans (Nat.le_of_eq sz1.symm) sz2) e
      exact hR h' t' n' q1 (fun b o b1 b2 e => q2 b o b1 b2 (oth b o b1 b2 e)) (.inr hle) (fun _ e => Nat.lt_irrefl _ (Nat.lt_of_lt_of_le (by rw [e, ← sz1]; exact lt) hle)) q5 q6
theorem _root_.PySem.F.args_sum2 (a b : Value) : argsOk "sum" ⟨[a, b], []⟩ := by unfold argsOk; kernel_rfl
theorem call_sum_lists {E : Value → Shared → Prop} {s : Shared} {b : Addr} {nb : Nat} {Q : Value → Shared → Prop} (hh : A.handled = none) (ha : s.heap.IsList a us) (hb : IsL s.heap b b0 nb) (hz : ∀ i, i ≤ us.size → (preC b0 f i).size ≤ sizeLine) (hn : 0 < us.size)
    (hx : ∀ j v, us[j]? = some v → ∃ x n, v = Value.ref x ∧ IsL s.heap x (f j) n)
    (h : ∀ h' t n, IsL h' t (preC b0 f us.size) n → (∀ b o, s.heap.get? b = some o → h'.get? b = some o) → s.heap.objs.size ≤ t → Q (Value.ref t) { s with heap := h' }) :
    wpAny (model prog w) A (call (.builtin "sum") [Value.ref a, Value.ref b]) Q E s := by
  refine call_function_tree F.kind_sum F.plain_sum F.entry_sum (F.args_sum2 _ _) ?_
  unfold Builtin.«sum»
  simp only [List.length_cons, List.length_nil]
  rw [if_neg (by decide)]
  refine wpAny_bind (wpAny_of_eq (show Builtin.Builtins.bindParams "sum" ["start"] 0 ⟨[Value.ref b], []⟩ = pure [some (Value.ref b)] from rfl) ?_)
  refine wpAny_bind (wpAny_pyIter_list ha ?_)
  refine wpAny_bind (wpAny_pure ?_)
  simp only [List.forIn_cons, List.forIn_nil]
  have pA : ∀ c o, s.heap.get? c = some o → (s.heap.push { cls := .type "list_iterator", data := .fields #[Value.ref a, .int 0 0] }).get? c = some o := fun c o e => Heap.get?_push_of_some _ e
  have zA : (s.heap.push { cls := .type "list_iterator", data := .fields #[Value.ref a, .int 0 0] }).objs.size = s.heap.objs.size + 1 := Heap.size_push ..
  have iA : (s.heap.push { cls := .type "list_iterator", data := .fields #[Value.ref a, .int 0 0] }).IsListIter s.heap.objs.size a 0 := ⟨_, Heap.get?_push_size _ rfl, rfl, rfl⟩
  have la : a < s.heap.objs.size := by obtain ⟨_, e, _⟩ := ha; exact Heap.lt_size e
  have lb : b < s.heap.objs.size := Heap.lt_size hb
  generalize s.heap.push { cls := .type "list_iterator", data := .fields #[Value.ref a, .int 0 0] } = hA at pA zA iA ⊢
  have hT : ({ s with heap := hA } : Shared).TypeIs (Value.ref b) "list" := ⟨_, pA _ _ hb, rfl⟩
  refine wpAny_bind (wpAny_bind (wpAny_bind (wpAny_isInstance (T := "list") (b := false) hT F.sub_list_str ?_)))
  simp only [Bool.false_eq_true, if_false]
  refine wpAny_pure (wpAny_bind (wpAny_bind (wpAny_isInstance (T := "list") (b := false) hT F.sub_list_bytes ?_)))
  simp only [Bool.false_eq_true, if_false]
  refine wpAny_pure (wpAny_bind (wpAny_bind (wpAny_isInstance (T := "list") (b := false) hT F.sub_list_bytearray ?_)))
  simp only [Bool.false_eq_true, if_false]
  refine wpAny_pure (wpAny_pure ?_)
  refine wpAny_bind (wpAny_newObj_type ?_)
  have pB : ∀ c o, hA.get? c = some o → (hA.push { cls := .type "list", data := .seq #[Value.ref b] }).get? c = some o := fun c o e => Heap.get?_push_of_some _ e
  have zB : (hA.push { cls := .type "list", data := .seq #[Value.ref b] }).objs.size = hA.objs.size + 1 := Heap.size_push ..
  have sB : IsL (hA.push { cls := .type "list", data := .seq #[Value.ref b] }) hA.objs.size #[Value.ref b] 0 := Heap.get?_push_size _ rfl
  refine wpAny_pure ⟨plainId_quiet F.plain_sum_loop _, ?_⟩
  show codeAny (model prog w) A (.builtin "sum.loop" ⟨[Value.ref s.heap.objs.size, Value.ref hA.objs.size, rawInt 2, rawInt 0], []⟩) _ { s with heap := hA.push { cls := .type "list", data := .seq #[Value.ref b] } }
  generalize hA.push { cls := .type "list", data := .seq #[Value.ref b] } = hB at pB zB sB ⊢
  have nI : ∀ c, c < s.heap.objs.size → c ≠ s.heap.objs.size := fun c h => Nat.ne_of_lt h
  have nS : ∀ c, c < s.heap.objs.size → c ≠ hA.objs.size := fun c h => Nat.ne_of_lt (by omega)
  have pAB : ∀ c o, s.heap.get? c = some o → hB.get? c = some o := fun c o e => pB c o (pA c o e)
  refine sum_lists_loop (f := f) (b0 := b0) (us := us) hh (by rw [zA]; exact Nat.succ_ne_self _) (nI _ la) (nS _ la) hz us.size 0 _ 0 b nb (Nat.sub_zero _) (Nat.zero_le _) (iA.at fun o e => pB _ o e) (ha.at fun o e => pAB _ o e) (fun j v e => ?_) sB (pAB _ _ hb) (nS _ lb) (nI _ lb) fun h' t' n' q1 q2 q3 q4 _ _ => ?_
  · obtain ⟨x, n, e', z⟩ := hx j v e
    exact ⟨x, n, e', pAB _ _ z, nS _ (Heap.lt_size z), nI _ (Heap.lt_size z)⟩
  · refine h h' t' n' q1 (fun c o e => q2 c o (nI _ (Heap.lt_size e)) (nS _ (Heap.lt_size e)) (pAB _ _ e)) ?_
    rcases q3 with e | e
    · exact absurd e (q4 hn)
    · have e : hB.objs.size ≤ t' := e
      exact Nat.le_trans (by omega) e
end
end DL

/-! sum(lists, list), told over data. -/
namespace DL
open PySem PySem.Spec L2
open PyProof.Rows hiding St
def itemsAt (h : Heap) (x : Addr) : Array Value := match h.get? x with
  | some o => (match o.data with
    | .seq its _ => its
    | _ => #[])
  | none => #[]
theorem itemsAt_of {h : Heap} {x : Addr} {its : Array Value} {n : Nat} (e : IsL h x its n) : itemsAt h x = its := by
  unfold itemsAt
  rw [show h.get? x = _ from e]
theorem vals_append : ∀ {xs ys : List V} {us ws : List Value}, Vals xs us → Vals ys ws → Vals (xs ++ ys) (us ++ ws)
  | [], _, _, _, .nil, h => h
  | _ :: _, _, _, _, .cons r rr, h => .cons r (vals_append rr h)
theorem vals_preC {b0 : Array Value} {f : Nat → Array Value} {bs : List V} (hb : Vals bs b0.toList) : ∀ (ls : List (List V)) (i : Nat), i ≤ ls.length → (∀ j l, ls[j]? = some l → Vals l (f j).toList) → Vals (bs ++ (ls.take i).flatten) (preC b0 f i).toList
  | ls, 0, _, _ => by simpa [preC] using hb
  | ls, i + 1, hi, h => by
    have ih := vals_preC (f := f) hb ls i (by omega) h
    have e : ls[i]? = some ls[i] := List.getElem?_eq_getElem hi
    have e2 : ls.take (i + 1) = ls.take i ++ [ls[i]] := by rw [List.take_add_one, e]; rfl
    rw [e2, List.flatten_append, ← List.append_assoc, preC, Array.toList_append]
    refine vals_append ih ?_
    simpa using h i _ e
def rSumL : List V → Hp → VK → Prop := fun vs H Q => ∃ (a b : Addr) (as : List Addr) (ls : List (List V)) (bs : List V), vs = [V.ref a, V.ref b] ∧ H a = some (.lst (as.map V.ref)) ∧ H b = some (.lst bs) ∧ ls.length = as.length ∧ (∀ (j : Nat) (x : Addr) (l : List V), as[j]? = some x → ls[j]? = some l → H x = some (.lst l)) ∧ 0 < as.length ∧
  (bs ++ ls.flatten).length ≤ sizeLine ∧ ∀ q, H q = none → Q (.ref q) (upd H q (.lst (bs ++ ls.flatten)))
theorem vals_refsI : ∀ {as : List Addr} {us : List Value}, Vals (as.map V.ref) us → us = as.map Value.ref
  | [], _, .nil => rfl
  | a :: as, _, .cons r rr => by
    have e := vals_refsI rr
    have r : _ = Value.ref a := r
    rw [r, e, List.map_cons]
theorem cr_sumL {X : Cx} (hc : X.calm = true) : CallR X (.builtin "sum") rSumL := by
  intro pins s σ H vs us Q I r h
  obtain ⟨a, b, as, ls, bs, rfl, ea, eb, hl, hx, hn, hz, q⟩ := h
  have eu : us = [Value.ref a, Value.ref b] := by
    cases r with
    | cons r1 rr =>
      cases rr with
      | cons r2 rr =>
        cases rr
        cases r1
        cases r2
        rfl
  subst eu
  obtain ⟨_, ita, na, va, ga⟩ := (show ObjOk X.prog X.w H s.heap a (.lst (as.map V.ref)) from I.hok a _ ea)
  obtain ⟨_, itb, nb, vb, gb⟩ := (show ObjOk X.prog X.w H s.heap b (.lst bs) from I.hok b _ eb)
  have eA := vals_refsI va
  subst eA
  have rows : ∀ (j : Nat) (x : Addr) (l : List V), as[j]? = some x → ls[j]? = some l → ∃ n, IsL s.heap x (itemsAt s.heap x) n ∧ Vals l (itemsAt s.heap x).toList := fun j x l e1 e2 => by
    obtain ⟨_, it, n, v, g⟩ := (show ObjOk X.prog X.w H s.heap x (.lst l) from I.hok x _ (hx j x l e1 e2))
    have e := itemsAt_of (h := s.heap) (x := x) (its := it.toArray) (n := n) g
    rw [e]
    exact ⟨n, g, v⟩
  have sz : (as.map Value.ref).toArray.size = ls.length := by simp [hl]
  have lrow : ∀ j, j < ls.length → ∃ x, as[j]? = some x := fun j hj => ⟨_, List.getElem?_eq_getElem (by omega)⟩
  have pv := fun i hi => vals_preC (b0 := itb.toArray) (f := fun j => itemsAt s.heap ((as[j]?).getD 0)) (bs := bs) (by simpa using vb) ls i hi (fun j l e => by
    obtain ⟨x, ex⟩ := lrow j (List.getElem?_eq_some_iff.mp e).1
    obtain ⟨n, _, v⟩ := rows j x l ex e
    show Vals l (itemsAt s.heap ((as[j]?).getD 0)).toList
    rw [ex]
    exact v)
  refine call_sum_lists (A := X.A) (f := fun j => itemsAt s.heap ((as[j]?).getD 0)) (b0 := itb.toArray) (us := (as.map Value.ref).toArray) (nb := nb) (I.ok.hd hc) ⟨_, ga, rfl, _, rfl⟩ gb (fun i hi => ?_) (by rw [sz]; omega) (fun j v e => ?_) fun h' t n e k lt => ?_
  · rw [sz] at hi
    have l1 := (pv i hi).length
    rw [show (preC itb.toArray (fun j => itemsAt s.heap ((as[j]?).getD 0)) i).size = (bs ++ (ls.take i).flatten).length from by rw [l1, Array.length_toList]]
    refine Nat.le_trans ?_ hz
    rw [List.length_append, List.length_append]
    have : (ls.take i).flatten.length ≤ ls.flatten.length := by
      have e := congrArg List.length (congrArg List.flatten (List.take_append_drop i ls))
      rw [List.flatten_append, List.length_append] at e
      omega
    omega
  · have e : (as.map Value.ref)[j]? = some v := by simpa using e
    rw [List.getElem?_map] at e
    cases ex : as[j]? with
    | none => rw [ex] at e; cases e
    | some x =>
      rw [ex] at e
      obtain rfl : Value.ref x = v := Option.some.inj e
      have hj : j < ls.length := by rw [hl]; exact (List.getElem?_eq_some_iff.mp ex).1
      obtain ⟨n, g, _⟩ := rows j x _ ex (List.getElem?_eq_getElem hj)
      exact ⟨x, n, rfl, g⟩
  · rw [sz] at e
    have pe := pv ls.length (Nat.le_refl _)
    rw [List.take_length] at pe
    refine ⟨.ref t, upd H t (.lst (bs ++ ls.flatten)), I.laid (t' := s.toks) k lt (show ObjOk X.prog X.w _ _ _ (.lst (bs ++ ls.flatten)) from ⟨hz, _, n, pe, ?_⟩), rfl, q _ (I.hok.fresh lt)⟩
    rw [Array.toArray_toList]
    exact e
/-- sum(lists, list) -/
def sumLF (ds : List D) (P : Sl → Prop) : Prop := match ds with
  | [.lst xs, .lst ys] => ∃ ls : List (List D), xs = ls.map D.lst ∧ 0 < ls.length ∧ (ys ++ ls.flatten).length ≤ sizeLine ∧ P (.ol (ys ++ ls.flatten))
  | _ => False
theorem dens_rows {K : PySem.W.Frag} {W : DW} {F : Hp} : ∀ {ls : List (List D)} {vs : List V}, Dens K W F vs (ls.map D.lst) → ∃ (as : List Addr) (ws : List (List V)), vs = as.map V.ref ∧ ws.length = as.length ∧ as.length = ls.length ∧ (∀ (j : Nat) (x : Addr) (l : List V), as[j]? = some x → ws[j]? = some l → F x = some (.lst l)) ∧ Dens K W F ws.flatten ls.flatten
  | [], _, .nil => ⟨[], [], rfl, rfl, rfl, fun j x l e => by simp at e, .nil⟩
  | l :: ls, _, .cons r1 r2 => by
    obtain ⟨as, ws, e, e2, e3, h, d⟩ := dens_rows r2
    cases r1 with
    | @lst a vs _ ha rs =>
      refine ⟨a :: as, vs :: ws, by rw [e]; rfl, by simp [e2], by simp [e3], fun j x l z1 z2 => ?_, ?_⟩
      · cases j with
        | zero =>
          simp at z1 z2
          rw [← z1, ← z2]; exact ha
        | succ j => exact h j x l (by simpa using z1) (by simpa using z2)
      · rw [List.flatten_cons, List.flatten_cons]
        exact rs.append d
theorem lf_sumL {K : PySem.W.Frag} : LiftFC K rSumL sumLF := fun B n g0 H0 δ0 g H σ δ xs ds P Q S0 st S rs q k => by
  cases rs with
  | nil => exact q.elim
  | cons r1 r2 =>
    cases r2 with
    | nil => cases r1 <;> exact q.elim
    | cons r2 r3 =>
      cases r3 with
      | cons _ _ => cases r1 <;> cases r2 <;> exact q.elim
      | nil =>
        cases r1 with
        | @lst a vs es ha rs =>
          cases r2 with
          | @lst b ws fs hb rs2 =>
            obtain ⟨ls, rfl, hn, hz, q⟩ := q
            obtain ⟨as, wss, rfl, e2, e3, hx, d⟩ := dens_rows rs
            have dd := rs2.append d
            refine ⟨a, b, as, wss, ws, rfl, S.ret.sub _ _ ha, S.ret.sub _ _ hb, e2, fun j x l z1 z2 => S.ret.sub _ _ (hx j x l z1 z2), by omega, by rw [dd.length]; exact hz, fun p hp => ?_⟩
            obtain ⟨g2, st2, S2, it⟩ := S.newL st S0 hp dd
            exact k _ g2 _ _ q st2 S2 it
          | _ => exact q.elim
        | _ => cases r2 <;> exact q.elim
end DL

/-! lambdas that are kept in a list: their objects are tracked, the base is extended by them. -/
namespace DL
open PySem PySem.Spec L2
open PyProof.Rows hiding St
/-! ### a base with one object more -/
def Base.add (B : Base) (c : Addr) (o : HO) (fc : Option HO) : Base := ⟨fun a => if a = c then fc else B.F a, fun a => if a = c then some o else B.H a, B.W, B.T⟩
structure AddOk (B : Base) (c : Addr) (o : HO) (fc : Option HO) : Prop where
  h1 : ∀ o', B.F c = some o' → fc = some o'
  h2 : ∀ o', B.H c = some o' → notTbl o' → o' = o
  h3 : B.H c ≠ none → fc = B.F c
  nt : notTbl o
section
variable {K : PySem.W.Frag} {B : Base} {g : Gs} {F H : Hp} {W : DW} {σ : L2.St} {δ : Env} {c : Addr} {o : HO} {fc : Option HO}
theorem add_sameH : (B.add c o fc).H c = some o := if_pos rfl
theorem add_sameF : (B.add c o fc).F c = fc := if_pos rfl
theorem add_neH {a : Addr} (h : a ≠ c) : (B.add c o fc).H a = B.H a := if_neg h
theorem add_neF {a : Addr} (h : a ≠ c) : (B.add c o fc).F a = B.F a := if_neg h
theorem Ret.unadd (A : AddOk B c o fc) (r : Ret (B.add c o fc) F H W) : Ret B F H W where
  sub := r.sub
  up := fun a o' e => by
    by_cases h : a = c
    · subst h; exact r.up a o' (by rw [add_sameF]; exact A.h1 o' e)
    · exact r.up a o' (by rw [add_neF h]; exact e)
  old := fun a o' e nh nt => by
    by_cases h : a = c
    · subst h
      rw [A.h2 o' e nt]
      exact r.old a o add_sameH nh A.nt
    · exact r.old a o' (by rw [add_neH h]; exact e) nh nt
  there := fun a e => by
    by_cases h : a = c
    · subst h; exact r.there a (by rw [add_sameH]; simp)
    · exact r.there a (by rw [add_neH h]; exact e)
  froz := fun a e => by
    by_cases h : a = c
    · subst h
      rw [r.froz a (by rw [add_sameH]; simp), add_sameF]
      exact A.h3 e
    · rw [r.froz a (by rw [add_neH h]; exact e), add_neF h]
  wle := r.wle
  drw := r.drw
  tab := r.tab
  dnew := fun a h1 h2 => by
    have z := r.dnew a h1 h2
    by_cases h : a = c
    · subst h; rw [add_sameH] at z; cases z
    · rw [add_neH h] at z; exact z
  fnt := r.fnt
theorem Stt.unadd (A : AddOk B c o fc) (S : Stt K (B.add c o fc) g H σ δ) : Stt K B g H σ δ := ⟨S.ret.unadd A, fun a k e => by
  obtain ⟨z, r⟩ := S.own a k e
  refine ⟨?_, r⟩
  by_cases h : a = c
  · subst h; rw [add_sameH] at z; cases z
  · rw [add_neH h] at z; exact z, S.len, S.env⟩
theorem Stt.add (S : Stt K B g H σ δ) (h : H c = some o) (np : ¬ plainO o) (nt : notTbl o) : Stt K (B.add c o (g.F c)) g H σ δ ∧ AddOk B c o (g.F c) := by
  have nh : ¬ has g.W c := fun z => by
    obtain ⟨o2, e, p⟩ := has_plain S.ret.drw z
    rw [h] at e; cases e; exact np p
  have no : ∀ a k, g.O a = some k → a ≠ c := fun a k e q => by
    obtain ⟨_, _, ⟨o2, e2, p⟩, _⟩ := S.own a k e
    rw [q, h] at e2; cases e2; exact np p
  refine ⟨⟨⟨S.ret.sub, fun a o' e => ?_, fun a o' e nh' nt' => ?_, fun a e => ?_, fun a e => ?_, S.ret.wle, S.ret.drw, S.ret.tab, fun a h1 h2 => ?_, S.ret.fnt⟩, fun a k e => ?_, S.len, S.env⟩, ⟨fun o' e => S.ret.up c o' e, fun o' e nt' => ?_, fun e => S.ret.froz c e, nt⟩⟩
  · by_cases q : a = c
    · subst q; rw [add_sameF] at e; exact e
    · rw [add_neF q] at e; exact S.ret.up a o' e
  · by_cases q : a = c
    · subst q; rw [add_sameH] at e; cases e; exact h
    · rw [add_neH q] at e; exact S.ret.old a o' e nh' nt'
  · by_cases q : a = c
    · subst q; rw [h]; simp
    · rw [add_neH q] at e; exact S.ret.there a e
  · by_cases q : a = c
    · subst q; rw [add_sameF]
    · rw [add_neH q] at e; rw [add_neF q]; exact S.ret.froz a e
  · rw [add_neH (fun q => nh (by rw [← q]; exact h1))]
    exact S.ret.dnew a h1 h2
  · obtain ⟨z, r⟩ := S.own a k e
    exact ⟨by rw [add_neH (no a k e)]; exact z, r⟩
  · have z := S.ret.old c o' e nh nt'
    rw [h] at z; exact (Option.some.inj z).symm
end
theorem CallN.add {X : Cx} {B : Base} {k : Nat} {fl : Addr} {tb : TDX} {c : Addr} {o : HO} {fc : Option HO} (A : AddOk B c o fc) (h : CallN X B k fl tb) : CallN X (B.add c o fc) k fl tb := fun pins σ H s g δ I S => h pins σ H s g δ I (S.unadd A)
/-! ### a lambda's object, tracked -/
def FunO (f : Addr) (ob : Obj) : HO := .ext fun h => h.get? f = some ob
theorem funO_at {P : Program} {w : World} {H : Hp} {h : Heap} {f : Addr} {ob : Obj} (x : ObjOk P w H h f (FunO f ob)) : h.get? f = some ob := x.1
section
variable {X : Cx} {pins : List (Addr × Obj)} {σ : L2.St} {H : Hp} {s : Shared}
/-- an object that stands there is tracked from now on -/
theorem inv_trackF {f : Addr} {ob : Obj} (I : Inv X pins σ H s) (hf : s.heap.get? f = some ob) (hn : H f = none) (nl : f ≠ X.env.locals) (nc : ∀ x c, X.env.cells.lookup x = some c → c ≠ f) (np : ∀ p ∈ X.pn ++ pins, p.1 ≠ f) (ns : ∀ o, X.s_0.heap.get? f = some o → f ∈ X.ex) : Inv X pins σ (upd H f (FunO f ob)) s := by
  have hu := up_upd (o := FunO f ob) hn
  refine ⟨I.ok, I.os, I.bare, ⟨I.base.keep, I.base.slot, fun b o e n x => ?_, I.base.there, fun b xs e => hu _ _ (I.base.tups b xs e), fun b o u e => hu _ _ (I.base.frzs b o u e), fun b ps e => ?_⟩, I.loc, I.cell, by rw [upd_ne (Ne.symm nl)]; exact I.free, fun x c e => by rw [upd_ne (nc x c e)]; exact I.freeC x c e, fun p hp => ?_, fun b u e => ?_, I.len⟩
  · rw [upd_ne (fun q => x (by rw [q]; exact ns o (by rw [← q]; exact e)))]
    exact I.base.free b o e n x
  · obtain ⟨more, z⟩ := I.base.tbls b ps e
    exact ⟨more, hu _ _ z⟩
  · obtain ⟨a, b, c⟩ := I.pin p hp
    exact ⟨a, by rw [upd_ne (np p hp)]; exact b, c⟩
  · by_cases hb : b = f
    · subst hb
      rw [upd_same] at e; cases e
      exact ⟨hf, ⟨_, hf⟩, fun h1 h2 z k => k _ z⟩
    · rw [upd_ne hb] at e
      exact (I.hok b u e).stay (fun c v _ q => q) (fun c q => hu _ _ q) fun c xs q => hu _ _ q
end
section
open LamX
variable {X : Cx}
/-- what is known of a lambda that was made -/
structure LamH (X : Cx) (H : Hp) (f : Addr) (params : Arguments) (body : Expr) (scope : Scope) : Prop where
  ex : ∃ (c' : Addr) (pm ctv : Value), H f = some (FunO f (PySem.W.kla_obj "<lambda>" (X.env.qual ++ "<lambda>") params body scope (cloFrom X.env.cells scope.names []) pm c' ctv)) ∧ H c' = some (CodeO c' (X.env.qual ++ "<lambda>"))
def tLamT (X : Cx) (T : List (Addr × Str)) (params : Arguments) (body : Expr) (scope : Scope) : TE := fun σ H Q => Tabs T H ∧ ∀ f H1, ExtN H H1 → (∀ a, H a ≠ none → H1 a ≠ none) → Tabs T H1 → LamH X H1 f params body scope → Q (.ref f) H1
theorem pe_lamT {T : List (Addr × Str)} {c P : Addr} {params : Arguments} {body : Expr} {scope : Scope} {pos : Pos} (TB : TabB X.base X.mg c P) (hcode : X.env.code = .ref c) (hm : (P, X.env.qual ++ "<lambda>") ∈ T) (hu : ∀ p ∈ T, p.1 = P → p.2 = X.env.qual ++ "<lambda>")
    (hdef : defaultsOf params X.env = ([], [])) (L : LamS X.env.scope scope) : PE X (.Lambda params body scope pos) (tLamT X T params body scope) := by
  refine ⟨fun pins s σ H Q I ⟨hT, h⟩ => ?_⟩
  refine lam_new2 I TB hcode hm hu hT hdef (L.has I.ok) fun f c' pm ctv H1 s1 I1 eN th T1 hge hf hfn hco => ?_
  obtain ⟨_, f1, f2, f3, f4, f5⟩ := I.fpOk hge (I.hok.fresh hge)
  have I2 := inv_trackF (ob := PySem.W.kla_obj "<lambda>" (X.env.qual ++ "<lambda>") params body scope (cloFrom X.env.cells scope.names []) pm c' ctv) I1 hf hfn f1 f4 f5 (fun o e => by
    rcases f3 with z | z
    · exact z
    · exact absurd (Heap.lt_size e) (Nat.not_lt.mpr z))
  have hu1 := up_upd (o := FunO f (PySem.W.kla_obj "<lambda>" (X.env.qual ++ "<lambda>") params body scope (cloFrom X.env.cells scope.names []) pm c' ctv)) hfn
  refine ⟨.ref f, _, I2, rfl, h f _ (fun b o e n => hu1 _ _ (eN b o e n)) (fun a z => ?_) (T1.ext hu1) ⟨c', pm, ctv, upd_same, hu1 _ _ hco⟩⟩
  exact upd_thr a (th a z)
end
end DL

/-! lambdas kept in a list: the statements. -/
namespace DL
open PySem PySem.Spec L2
open PyProof.Rows hiding St
section
open LamX
variable {X : Cx} {B : Base} {kc k i : Nat} {fl : Addr} {tb : TDX} {wpG : TL → TL} {a x : Str} {p p1 p2 pos : Pos}
theorem funO_ext {f : Addr} {ob : Obj} : ¬ plainO (FunO f ob) ∧ notTbl (FunO f ob) := ⟨fun h => h, fun ps h => by cases h⟩
theorem codeO_ext {c : Addr} {q : Str} : ¬ plainO (CodeO c q) ∧ notTbl (CodeO c q) := ⟨fun h => h, fun ps h => codeO_ne ps h⟩
theorem callN_trk {params : Arguments} {body : Expr} {scope : Scope} {f c' : Addr} {pm ctv : Value} (L : LamS X.env.scope scope)
    (hf : B.H f = some (FunO f (PySem.W.kla_obj "<lambda>" (X.env.qual ++ "<lambda>") params body scope (cloFrom X.env.cells scope.names []) pm c' ctv))) (hc : B.H c' = some (CodeO c' (X.env.qual ++ "<lambda>"))) (nf : ¬ has B.W f) (nc : ¬ has B.W c')
    (hbind : ∀ (q : Str) (cl : List (Str × Addr)) (pm cv ctv : Value), bindArgs (PySem.W.kla_fn "<lambda>" q params body scope cl pm cv ctv) ⟨[], []⟩ = pure [])
    (hbody : ∀ (A : Around) (outer : List PySem.Env) (s1 : Shared) (H1 : Hp) (E : XK) (B' : Base), B'.T = B.T → Rm kc (A.deeper (lamEnv X scope s1.heap.objs.size f c')) → DE (lamCx X A outer s1 H1 E scope f c') B' body tb) : CallN X B (kc + 1) f tb := by
  intro pins σ H s g δ I S A outer s1 F1 H1 W1 Q E P' RX hr e0 lat ret htl k1 k2
  have nB : ∀ {b : Addr} {o : HO}, B.H b = some o → ¬ has B.W b → ¬ has g.W b := fun {b o} e n h => by
    rw [S.ret.dnew b h n] at e; cases e
  have nf1 := nB hf nf
  have nc1 := nB hc nc
  have hf0 : H f = some _ := S.ret.old f _ hf nf1 funO_ext.2
  have hc0 : H c' = some _ := S.ret.old c' _ hc nc1 codeO_ext.2
  have nR : ∀ {b : Addr} {o : HO}, H b = some o → ¬ has g.W b → ¬ has W1 b := fun {b o} e n h => by
    have z := ret.dnew b h n
    rw [show (Base.mk g.F H g.W B.T).H b = H b from rfl, e] at z; cases z
  have hf1 : H1 f = some _ := ret.old f _ hf0 (nR hf0 nf1) funO_ext.2
  have hc1 : H1 c' = some _ := ret.old c' _ hc0 (nR hc0 nc1) codeO_ext.2
  have of1 := funO_at (e0.hok f _ hf1)
  refine ⟨⟨_, _, _, _, of1⟩, ?_⟩
  obtain ⟨⟨oc, vs, t, hoc, hdc, hvc⟩, _, _⟩ := e0.hok c' _ hc1
  refine PySem.W.kla_callFunE hr.room.depth of1 rfl L.co L.gen rfl ⟨c', oc, vs, t, rfl, hoc, hdc, hvc⟩ ?_
  rw [hbind]
  have lim : s1.heap.NoLimit := e0.mod.nolimit.keeps fun b o e => (e0.bs b o e).1
  refine wpAny_pure (wpAny_newFunctionEnv (fun y hy => (L.own y hy).2) (fun y hy => (nomatch hy)) (fun h₁ hns hsb => ⟨lim.fresh _ hsb, ?_⟩) L.kind)
  show codeAny _ _ (.expr body (lamEnv X scope s1.heap.objs.size f c')) _ _
  have kp : ∀ b o, s1.heap.get? b = some o → h₁.get? b = some o := fun b o e => hsb.extBut b o (Nat.ne_of_lt (Heap.lt_size e)) (Heap.get?_push_of_some _ e)
  have J : Inv (lamCx X A outer s1 H1 E scope f c') [] σ H1 { s1 with heap := h₁, toks := s1.toks + ([] : List (Str × Value)).length } := lam_start I L e0 hr.room.hd lat hns kp
  have tk := takes_of (X := lamCx X A outer s1 H1 E scope f c') (E := E) rfl rfl rfl rfl
  have body := (hbody A outer s1 H1 E ⟨F1, H1, W1, B.T⟩ rfl (hr.deeper _)).run RX (tk.imp fun c d σ H' hx => k2 c d H' hx)
  have St : Stt X.K ⟨F1, H1, W1, B.T⟩ ⟨F1, fun _ => none, W1⟩ H1 σ (shOnly δ) := ⟨Ret.refl ret.gd, fun a k e => (nomatch e), by unfold shOnly; rw [List.length_map]; exact S.len, fun i sl e => by
    obtain ⟨d, rfl, e2⟩ := shOnly_get e
    obtain ⟨v, e3, r⟩ := S.env i _ e2
    exact ⟨v, e3, r.up ret.up ret.wle⟩⟩
  refine PySem.W.kla_codeExpr (wpAny_mono (body.run [] _ _ H1 Q J ⟨_, _, _, St, htl, fun d δ' g' H' v hp _ S' r => k1 d v _ _ H' hp S'.ret r⟩) (fun v s' hq => ?_) fun e s' hq => hq)
  obtain ⟨w', H', J', rv, q⟩ := hq
  exact ⟨w', H', J'.os, J'.bare, J'.base, J'.hok, rv, q⟩
/-! ### the statements -/
theorem LamH.mono {H H' : Hp} {f : Addr} {params : Arguments} {body : Expr} {scope : Scope} (h : LamH X H f params body scope) (k : ∀ b o, H b = some o → ¬ plainO o → H' b = some o) : LamH X H' f params body scope := by
  obtain ⟨c', pm, ctv, e1, e2⟩ := h.ex
  exact ⟨c', pm, ctv, k _ _ e1 funO_ext.1, k _ _ e2 codeO_ext.1⟩
/-- what the rest of the statements is to be told in -/
structure Later (X : Cx) (B B2 : Base) (kc : Nat) (f : Addr) (tb : TDX) : Prop where
  tabs : B2.T = B.T
  keep : ∀ {k : Nat} {f0 : Addr} {tb0 : TDX}, CallN X B k f0 tb0 → CallN X B2 k f0 tb0
  call : CallN X B2 (kc + 1) f tb
  un : ∀ {F H : Hp} {W : DW}, Ret B2 F H W → Ret B F H W
  uns : ∀ {g : Gs} {H : Hp} {σ : L2.St} {δ : Env}, Stt X.K B2 g H σ δ → Stt X.K B g H σ δ
theorem later_of {g : Gs} {H : Hp} {σ : L2.St} {δ : Env} {params : Arguments} {body : Expr} {scope : Scope} {f : Addr} (S : Stt X.K B g H σ δ) (L : LamS X.env.scope scope) (lh : LamH X H f params body scope)
    (hbind : ∀ (q : Str) (cl : List (Str × Addr)) (pm cv ctv : Value), bindArgs (PySem.W.kla_fn "<lambda>" q params body scope cl pm cv ctv) ⟨[], []⟩ = pure [])
    (hbody : ∀ (f c' : Addr) (A : Around) (outer : List PySem.Env) (s1 : Shared) (H1 : Hp) (E : XK) (B' : Base), B'.T = B.T → Rm kc (A.deeper (lamEnv X scope s1.heap.objs.size f c')) → DE (lamCx X A outer s1 H1 E scope f c') B' body tb) :
    ∃ B2, Later X B B2 kc f tb ∧ Stt X.K B2 g H σ δ := by
  obtain ⟨c', pm, ctv, hf, hc⟩ := lh.ex
  obtain ⟨S1, A1⟩ := S.add hc codeO_ext.1 codeO_ext.2
  obtain ⟨S2, A2⟩ := S1.add hf funO_ext.1 funO_ext.2
  have nW : ∀ {b : Addr} {o : HO}, H b = some o → ¬ plainO o → ¬ has B.W b := fun {b o} e np h => by
    obtain ⟨w, ew, hw⟩ := h
    have hg : has g.W b := by
      rcases S.ret.wle with z | z
      · rw [z] at ew; cases ew
      · exact ⟨w, by rw [z]; exact ew, hw⟩
    obtain ⟨o2, e2, p2⟩ := has_plain S.ret.drw hg
    rw [e] at e2; cases e2; exact np p2
  refine ⟨_, ?_, S2⟩
  refine ⟨rfl, fun h => (h.add A1).add A2, ?_, fun r => (r.unadd A2).unadd A1, fun S => (S.unadd A2).unadd A1⟩
  refine callN_trk (c' := c') (pm := pm) (ctv := ctv) L add_sameH ?_ (nW hf funO_ext.1) (nW hc codeO_ext.1) hbind (fun A outer s1 H1 E B' => hbody f c' A outer s1 H1 E B')
  by_cases q : c' = f
  · subst q
    rw [add_sameH, ← hf, hc]
  · rw [add_neH q, add_sameH]
def uRest (X : Cx) (B : Base) (kc : Nat) (tb : TDX) (rx : D → Prop) (t : Addr → TDS) : TS := fun DD σ H => ∃ f B2, Later X B B2 kc f tb ∧ liftS X.K B2 X.N.length (t f rx) DD σ H
theorem pss_rest {rest : List Stmt} {t : Addr → TDS} {rx : D → Prop} (tk : Takes X (XW (liftX X.K B rx))) (hr : ∀ f B2, Later X B B2 kc f tb → DSs X B2 rest (t f)) : PSs X rest (uRest X B kc tb rx t) :=
  ⟨fun pins s σ H DD I ⟨f, B2, L, l⟩ => ((hr f B2 L).run rx (tk.imp fun c d σ H' ⟨F, W, e, r, x, y⟩ => ⟨F, W, e, L.un r, x, y⟩)).run pins s σ H DD I l⟩
theorem rest_of {rx : D → Prop} {t : Addr → TDS} {DD : Ends} {DE : DEnds} {g g' : Gs} {H H' : Hp} {σ' : L2.St} {δ : Env} {f : Addr} {B2 : Base} (st : Step X.N.length g H g' H') (L : Later X B B2 kc f tb) (S : Stt X.K B2 g' H' σ' δ) (q : t f rx DE δ)
    (k1 : ∀ σ' δ' g' H', DE.nx δ' → Step X.N.length g H g' H' → Stt X.K B g' H' σ' δ' → DD.nx σ' H') (k2 : ∀ d v F' W' H', DE.rt d → Ret B F' H' W' → Den X.K W' F' v d → DD.rt v H') (k3 : ∀ σ' δ' g' H', DE.bk δ' → Step X.N.length g H g' H' → Stt X.K B g' H' σ' δ' → DD.bk σ' H') (k4 : ∀ σ' δ' g' H', DE.ct δ' → Step X.N.length g H g' H' → Stt X.K B g' H' σ' δ' → DD.ct σ' H') :
    uRest X B kc tb rx t DD σ' H' := ⟨f, B2, L, g', δ, DE, S, q, fun σ' δ' g' H' h s S => k1 σ' δ' g' H' h (st.trans s) (L.uns S), fun d v F' W' H' h r dn => k2 d v F' W' H' h (L.un r) dn, fun σ' δ' g' H' h s S => k3 σ' δ' g' H' h (st.trans s) (L.uns S), fun σ' δ' g' H' h s S => k4 σ' δ' g' H' h (st.trans s) (L.uns S)⟩
def dLamSet (i : Nat) (t : Addr → TDS) : TDS := fun rx DE δ => ∀ f, t f rx DE (δ.set i (some (.ol [.adr f])))
def dLamApp (i : Nat) (t : Addr → TDS) : TDS := fun rx DE δ => ∃ ds, δ[i]? = some (some (.ol ds)) ∧ ds.length < sizeLine ∧ ∀ f, t f rx DE (δ.set i (some (.ol (ds ++ [.adr f]))))
variable {c Pt : Addr} {e : Expr} {y : Str} {p3 : Pos} {rest : List Stmt} {t : Addr → TDS}
theorem dss_lamSet (TB : TabB X.base X.mg c Pt) (hcode : X.env.code = .ref c) (hmT : (Pt, X.env.qual ++ "<lambda>") ∈ B.T) (hu : ∀ p ∈ B.T, p.1 = Pt → p.2 = X.env.qual ++ "<lambda>")
    (hN : X.N.Nodup) (hi : X.N[i]? = some y) (hx : Loc X.env.scope y) (l : LamOk X B.T kc e tb) (hr : ∀ f B2, Later X B B2 kc f tb → DSs X B2 rest (t f))
    (hs : starEach [e] X.env = (false, eval e X.env) :: starEach [] X.env := by rfl) (hsw : swapsWith (.List [e] p2) (some (.Name y p1)) p3.line X.env = pure false := by rfl) (hf : X.fn y = true ∨ X.env.scope.names.lookup y = some .local := by first | exact .inl rfl | exact .inr rfl | assumption) :
    DSs X B (.Assign [.Name y p1] (.List [e] p2) p3 :: rest) (dLamSet i t) := by
  obtain ⟨params, body, scope, pos, rfl, L, hdef, hbind, hbody⟩ := l.ex
  refine ⟨fun rx tk => ⟨fun pins s σ H DD I h => ?_⟩⟩
  have hl := I.len
  have hil := (List.getElem?_eq_some_iff.mp hi).1
  refine (pss_cons (ps_set hN hi hx (pe_lst (pa_cons (pe_lamT TB hcode hmT hu hdef L) pa_nil hs)) hsw hf) (pss_rest tk hr)).run pins s σ H DD I ?_
  obtain ⟨g, δ, DE, S, q, k1, k2, k3, k4⟩ := h
  refine ⟨S.ret.tab, fun f H1 eN th T1 lh => ?_⟩
  obtain ⟨S1, st1⟩ := S.extN (n := X.N.length) eN th T1
  refine ⟨(by decide : 1 ≤ sizeLine), fun p hp => ?_⟩
  obtain ⟨g2, st2, S2, it⟩ := S1.newL st1 S hp (xs := [V.ref f]) (ds := [D.adr f]) (.cons (.adr f) .nil)
  obtain ⟨g3, S3, u, wl, ho⟩ := S2.take hl hil it
  have st3 : Step X.N.length g H g3 (upd H1 p (.lst [V.ref f])) := ⟨st2.up.trans u, st2.wle.trans wl, st2.thr, fun a k e hk => by
    obtain ⟨z1, z2⟩ := st2.ext a k e hk
    exact ⟨ho a k z1 hk (.inl e), z2⟩⟩
  obtain ⟨B2, LB, S4⟩ := later_of (kc := kc) (tb := tb) S3 L (lh.mono fun b o e _ => by rw [upd_ne (ne_of_none e hp)]; exact e) hbind hbody
  show uRest X B kc tb rx t DD _ _
  exact rest_of st3 LB S4 (q f) k1 k2 k3 k4
variable {apos cpos npos p4 : Pos}
theorem dss_lamApp (TB : TabB X.base X.mg c Pt) (hcode : X.env.code = .ref c) (hmT : (Pt, X.env.qual ++ "<lambda>") ∈ B.T) (hu : ∀ p ∈ B.T, p.1 = Pt → p.2 = X.env.qual ++ "<lambda>")
    (ho : PE X (.Name y npos) (tVar i)) (hi : i < X.N.length) (l : LamOk X B.T kc e tb) (hr : ∀ f B2, Later X B B2 kc f tb → DSs X B2 rest (t f))
    (hbase : attributeBase (.Name y npos) "append" X.env (eval (.Name y npos) X.env) = eval (.Name y npos) X.env := by rfl)
    (hfew : ((backTo cpos (starEach [e] X.env)).all (fun x => !x.1) && (backToKw cpos (keywordEach [] X.env)).all (fun x => x.1.isSome) && decide (([e] : List Expr).length + ([] : List Keyword).length + (if ([] : List Keyword).isEmpty then 0 else 1) < 30)) = true := by rfl)
    (hline : (apos.endLine == cpos.line) = true := by rfl) (hs : starEach [e] X.env = (false, eval e X.env) :: starEach [] X.env := by rfl) (hplain : (backTo cpos (starEach [] X.env)).any (·.1) = false := by rfl)
    (hsw : swapsWith (.Call (.Attribute (.Name y npos) "append" apos) [e] [] cpos) none p4.line X.env = pure false := by rfl) :
    DSs X B (.Expr (.Call (.Attribute (.Name y npos) "append" apos) [e] [] cpos) p4 :: rest) (dLamApp i t) := by
  obtain ⟨params, body, scope, pos, rfl, L, hdef, hbind, hbody⟩ := l.ex
  refine ⟨fun rx tk => ⟨fun pins s σ H DD I h => ?_⟩⟩
  have hl := I.len
  refine (pss_cons (ps_expr (pe_bm PySem.F.plainAttrs_list PySem.F.slot_list_append PySem.F.type_list_append mt_append ho (pa_cons (pe_lamT TB hcode hmT hu hdef L) pa_nil hs) hbase hfew hline hs hplain) hsw) (pss_rest tk hr)).run pins s σ H DD I ?_
  obtain ⟨g, δ, DE, S, ⟨ds, e0, hz, q⟩, k1, k2, k3, k4⟩ := h
  obtain ⟨a, xs, a1, a2, a3, a4⟩ := S.env i _ e0
  refine ⟨.ref a, a1, .inl ⟨rfl, xs, SqL.of a3⟩, S.ret.tab, fun f H1 eN th T1 lh => ?_⟩
  obtain ⟨S1, st1⟩ := S.extN (n := X.N.length) eN th T1
  obtain ⟨a', xs', b1, b2, b3, b4⟩ := S1.env i _ e0
  rw [a1] at b1
  cases b1
  refine ⟨a, xs', .ref f, rfl, rfl, b3, by rw [b4.length]; exact hz, ?_⟩
  obtain ⟨S3, st3⟩ := S1.write (n := X.N.length) (s := .ol (ds ++ [.adr f])) (o' := .lst (xs' ++ [.ref f])) b2 hi b3 trivial trivial ⟨a, _, a1, b2, upd_same, b4.append (.cons (.adr f) .nil)⟩
  obtain ⟨B2, LB, S4⟩ := later_of (kc := kc) (tb := tb) S3 L (lh.mono fun b o e np => by
    rw [upd_ne (fun q => np (by rw [q, b3] at e; cases e; trivial))]; exact e) hbind hbody
  show uRest X B kc tb rx t DD _ _
  exact rest_of (st1.trans st3) LB S4 (q f) k1 k2 k3 k4
/-! ### such a thing is called by the def that takes one: g(a), a a name -/
abbrev Reg := List (Addr × TDX)
/-- what is known of the lambdas made so far -/
def RegOk (X : Cx) (B : Base) (k : Nat) (R : Reg) : Prop := ∀ e ∈ R, CallN X B k e.1 e.2
theorem RegOk.cons {B2 : Base} {R : Reg} {f : Addr} (L : Later X B B2 kc f tb) (h : RegOk X B (kc + 1) R) : RegOk X B2 (kc + 1) ((f, tb) :: R) := fun e he => by
  rcases List.mem_cons.mp he with rfl | he
  · exact L.call
  · exact L.keep (h e he)
theorem RegOk.nil : RegOk X B k [] := fun e he => (nomatch he)
def dPassV (i : Nat) (R : Reg) (wpG : TL → TL) : TDX := fun rx δ P => ∃ fl tb, δ[i]? = some (some (.sh (.adr fl))) ∧ (fl, tb) ∈ R ∧ wpG (fun P' RX => tb RX (shOnly δ) fun d _ => P' d) (fun d => P d δ) rx
theorem de_passV {R : Reg} (G : FnC X.prog X.w X.K X.mg X.base B.T x kc k wpG) (RO : RegOk X B kc R) (hr : Rm k X.A) (hg : Gl X x) (hn : PE X (.Name a p1) (tVar i)) (hs : starEach [.Name a p1] X.env = (false, eval (.Name a p1) X.env) :: starEach [] X.env := by rfl)
    (hdb : (x == ("__debug__" : Str)) = false := by decide) : DE X B (.Call (.Name x p) [.Name a p1] [] pos) (dPassV i R wpG) := by
  refine ⟨fun rx tk => ⟨fun pins s σ H Q I h => ?_⟩⟩
  obtain ⟨g, δ, P, S, ⟨fl, tb, e, hm, q⟩, k1⟩ := h
  exact ((de_passL (p := p) (pos := pos) G (RO _ hm) hr hg hn hs hdb).run rx tk).run pins s σ H Q I ⟨g, δ, P, S, ⟨e, q⟩, k1⟩
end
end DL

namespace K01
open PySem PySem.Spec L2 DL
open PyProof.Rows hiding St
def top (i : Nat) : Stmt := PySem.Challenge.pw_boughwebs_k01_tables_put_together.main.body.getD i (.Pass ⟨0, 0, 0, 0⟩)
theorem bt_abs : bootBuiltins "abs" = some (.builtin "abs") := by decide +kernel
theorem bt_all : bootBuiltins "all" = some (.builtin "all") := by decide +kernel
theorem bt_any : bootBuiltins "any" = some (.builtin "any") := by decide +kernel
theorem bt_bool : bootBuiltins "bool" = some (.type "bool") := by decide +kernel
theorem bt_int : bootBuiltins "int" = some (.type "int") := by decide +kernel
theorem bt_isinstance : bootBuiltins "isinstance" = some (.builtin "isinstance") := by decide +kernel
theorem bt_len : bootBuiltins "len" = some (.builtin "len") := by decide +kernel
theorem bt_list : bootBuiltins "list" = some (.type "list") := by decide +kernel
theorem bt_min : bootBuiltins "min" = some (.builtin "min") := by decide +kernel
theorem bt_repr : bootBuiltins "repr" = some (.builtin "repr") := by decide +kernel
theorem bt_sum : bootBuiltins "sum" = some (.builtin "sum") := by decide +kernel
theorem bt_tuple : bootBuiltins "tuple" = some (.type "tuple") := by decide +kernel
abbrev s_BadNumber_init : Stmt := inClass (top 4) 0
abbrev N_BadNumber_init : List Str := ["self", "part"]
abbrev d_BadNumber_init : FnA := ⟨.meth "BadNumber" "__init__", "__init__", "BadNumber.__init__", defArgs s_BadNumber_init, defBody s_BadNumber_init, defScope s_BadNumber_init, ["__class__"]⟩
def b_BadNumber : SuB := ⟨"a number is wrong", "part", "part", 0, ⟨11, 8, 11, 13⟩, ⟨11, 8, 11, 15⟩, ⟨11, 8, 11, 24⟩, ⟨11, 25, 11, 44⟩, ⟨11, 8, 11, 45⟩, ⟨11, 8, 11, 45⟩, ⟨12, 8, 12, 12⟩, ⟨12, 8, 12, 17⟩, ⟨12, 20, 12, 24⟩, ⟨12, 8, 12, 24⟩⟩
abbrev s_is_number : Stmt := top 8
abbrev N_is_number : List Str := ["thing"]
abbrev d_is_number : FnA := ⟨.glo "is_number", "is_number", "is_number", defArgs s_is_number, defBody s_is_number, defScope s_is_number, []⟩
theorem sc_is_number : FnScope N_is_number ["thing"] (defScope s_is_number) := ⟨rfl, rfl, rfl, by decide +kernel, rfl, by decide +kernel, by decide +kernel⟩
abbrev s_is_between : Stmt := top 9
abbrev N_is_between : List Str := ["thing", "low", "high"]
abbrev d_is_between : FnA := ⟨.glo "is_between", "is_between", "is_between", defArgs s_is_between, defBody s_is_between, defScope s_is_between, []⟩
theorem sc_is_between : FnScope N_is_between ["thing", "low", "high"] (defScope s_is_between) := ⟨rfl, rfl, rfl, by decide +kernel, rfl, by decide +kernel, by decide +kernel⟩
abbrev s_is_list : Stmt := top 10
abbrev N_is_list : List Str := ["thing"]
abbrev d_is_list : FnA := ⟨.glo "is_list", "is_list", "is_list", defArgs s_is_list, defBody s_is_list, defScope s_is_list, []⟩
theorem sc_is_list : FnScope N_is_list ["thing"] (defScope s_is_list) := ⟨rfl, rfl, rfl, by decide +kernel, rfl, by decide +kernel, by decide +kernel⟩
abbrev s_is_prime : Stmt := top 11
abbrev N_is_prime : List Str := ["thing"]
abbrev d_is_prime : FnA := ⟨.glo "is_prime", "is_prime", "is_prime", defArgs s_is_prime, defBody s_is_prime, defScope s_is_prime, []⟩
theorem sc_is_prime : FnScope N_is_prime ["thing"] (defScope s_is_prime) := ⟨rfl, rfl, rfl, by decide +kernel, rfl, by decide +kernel, by decide +kernel⟩
abbrev s_need_prime : Stmt := top 12
abbrev N_need_prime : List Str := ["thing"]
abbrev d_need_prime : FnA := ⟨.glo "need_prime", "need_prime", "need_prime", defArgs s_need_prime, defBody s_need_prime, defScope s_need_prime, []⟩
theorem sc_need_prime : FnScope N_need_prime ["thing"] (defScope s_need_prime) := ⟨rfl, rfl, rfl, by decide +kernel, rfl, by decide +kernel, by decide +kernel⟩
abbrev s_are_lines : Stmt := top 13
abbrev N_are_lines : List Str := ["thing", "tall", "wide", "one", "item"]
abbrev d_are_lines : FnA := ⟨.glo "are_lines", "are_lines", "are_lines", defArgs s_are_lines, defBody s_are_lines, defScope s_are_lines, []⟩
theorem sc_are_lines : FnScope N_are_lines ["thing", "tall", "wide"] (defScope s_are_lines) := ⟨rfl, rfl, rfl, by decide +kernel, rfl, by decide +kernel, by decide +kernel⟩
abbrev s_Table_init : Stmt := inClass (top 14) 0
abbrev N_Table_init : List Str := ["self", "prime", "tall", "wide", "lines", "one", "item"]
abbrev d_Table_init : FnA := ⟨.meth "Table" "__init__", "__init__", "Table.__init__", defArgs s_Table_init, defBody s_Table_init, defScope s_Table_init, []⟩
theorem sc_Table_init : FnScope N_Table_init ["self", "prime", "tall", "wide", "lines"] (defScope s_Table_init) := ⟨rfl, rfl, rfl, by decide +kernel, rfl, by decide +kernel, by decide +kernel⟩
abbrev s_Table_prime : Stmt := inClass (top 14) 1
abbrev N_Table_prime : List Str := ["self"]
abbrev d_Table_prime : FnA := ⟨.get "Table" "prime", "prime", "Table.prime", defArgs s_Table_prime, defBody s_Table_prime, defScope s_Table_prime, []⟩
theorem sc_Table_prime : FnScope N_Table_prime ["self"] (defScope s_Table_prime) := ⟨rfl, rfl, rfl, by decide +kernel, rfl, by decide +kernel, by decide +kernel⟩
abbrev s_Table_tall : Stmt := inClass (top 14) 2
abbrev N_Table_tall : List Str := ["self"]
abbrev d_Table_tall : FnA := ⟨.get "Table" "tall", "tall", "Table.tall", defArgs s_Table_tall, defBody s_Table_tall, defScope s_Table_tall, []⟩
theorem sc_Table_tall : FnScope N_Table_tall ["self"] (defScope s_Table_tall) := ⟨rfl, rfl, rfl, by decide +kernel, rfl, by decide +kernel, by decide +kernel⟩
abbrev s_Table_wide : Stmt := inClass (top 14) 3
abbrev N_Table_wide : List Str := ["self"]
abbrev d_Table_wide : FnA := ⟨.get "Table" "wide", "wide", "Table.wide", defArgs s_Table_wide, defBody s_Table_wide, defScope s_Table_wide, []⟩
theorem sc_Table_wide : FnScope N_Table_wide ["self"] (defScope s_Table_wide) := ⟨rfl, rfl, rfl, by decide +kernel, rfl, by decide +kernel, by decide +kernel⟩
abbrev s_Table_lines : Stmt := inClass (top 14) 4
abbrev N_Table_lines : List Str := ["self"]
abbrev d_Table_lines : FnA := ⟨.get "Table" "lines", "lines", "Table.lines", defArgs s_Table_lines, defBody s_Table_lines, defScope s_Table_lines, []⟩
theorem sc_Table_lines : FnScope N_Table_lines ["self"] (defScope s_Table_lines) := ⟨rfl, rfl, rfl, by decide +kernel, rfl, by decide +kernel, by decide +kernel⟩
abbrev s_Table_eq : Stmt := inClass (top 14) 6
abbrev N_Table_eq : List Str := ["self", "other"]
abbrev d_Table_eq : FnA := ⟨.meth "Table" "__eq__", "__eq__", "Table.__eq__", defArgs s_Table_eq, defBody s_Table_eq, defScope s_Table_eq, []⟩
theorem sc_Table_eq : FnScope N_Table_eq ["self", "other"] (defScope s_Table_eq) := ⟨rfl, rfl, rfl, by decide +kernel, rfl, by decide +kernel, by decide +kernel⟩
abbrev s_need_table : Stmt := top 15
abbrev N_need_table : List Str := ["thing"]
abbrev d_need_table : FnA := ⟨.glo "need_table", "need_table", "need_table", defArgs s_need_table, defBody s_need_table, defScope s_need_table, []⟩
theorem sc_need_table : FnScope N_need_table ["thing"] (defScope s_need_table) := ⟨rfl, rfl, rfl, by decide +kernel, rfl, by decide +kernel, by decide +kernel⟩
abbrev s_need_two : Stmt := top 16
abbrev N_need_two : List Str := ["one", "two"]
abbrev d_need_two : FnA := ⟨.glo "need_two", "need_two", "need_two", defArgs s_need_two, defBody s_need_two, defScope s_need_two, []⟩
theorem sc_need_two : FnScope N_need_two ["one", "two"] (defScope s_need_two) := ⟨rfl, rfl, rfl, by decide +kernel, rfl, by decide +kernel, by decide +kernel⟩
abbrev s_need_same_size : Stmt := top 17
abbrev N_need_same_size : List Str := ["one", "two"]
abbrev d_need_same_size : FnA := ⟨.glo "need_same_size", "need_same_size", "need_same_size", defArgs s_need_same_size, defBody s_need_same_size, defScope s_need_same_size, []⟩
theorem sc_need_same_size : FnScope N_need_same_size ["one", "two"] (defScope s_need_same_size) := ⟨rfl, rfl, rfl, by decide +kernel, rfl, by decide +kernel, by decide +kernel⟩
abbrev s_product_lines : Stmt := top 18
abbrev N_product_lines : List Str := ["prime", "one", "two", "wide", "found", "first", "sums", "spot", "item", "here", "there"]
abbrev d_product_lines : FnA := ⟨.glo "product_lines", "product_lines", "product_lines", defArgs s_product_lines, defBody s_product_lines, defScope s_product_lines, []⟩
theorem sc_product_lines : FnScope N_product_lines ["prime", "one", "two", "wide"] (defScope s_product_lines) := ⟨rfl, rfl, rfl, by decide +kernel, rfl, by decide +kernel, by decide +kernel⟩
abbrev s_times : Stmt := top 19
abbrev N_times : List Str := ["one", "two"]
abbrev d_times : FnA := ⟨.glo "times", "times", "times", defArgs s_times, defBody s_times, defScope s_times, []⟩
theorem sc_times : FnScope N_times ["one", "two"] (defScope s_times) := ⟨rfl, rfl, rfl, by decide +kernel, rfl, by decide +kernel, by decide +kernel⟩
abbrev s_plus : Stmt := top 20
abbrev N_plus : List Str := ["one", "two", "found", "first", "second", "here", "there"]
abbrev d_plus : FnA := ⟨.glo "plus", "plus", "plus", defArgs s_plus, defBody s_plus, defScope s_plus, []⟩
theorem sc_plus : FnScope N_plus ["one", "two"] (defScope s_plus) := ⟨rfl, rfl, rfl, by decide +kernel, rfl, by decide +kernel, by decide +kernel⟩
abbrev s_minus : Stmt := top 21
abbrev N_minus : List Str := ["one", "two", "found", "first", "second", "here", "there"]
abbrev d_minus : FnA := ⟨.glo "minus", "minus", "minus", defArgs s_minus, defBody s_minus, defScope s_minus, []⟩
theorem sc_minus : FnScope N_minus ["one", "two"] (defScope s_minus) := ⟨rfl, rfl, rfl, by decide +kernel, rfl, by decide +kernel, by decide +kernel⟩
abbrev s_scaled : Stmt := top 22
abbrev N_scaled : List Str := ["one", "number", "first", "item"]
abbrev d_scaled : FnA := ⟨.glo "scaled", "scaled", "scaled", defArgs s_scaled, defBody s_scaled, defScope s_scaled, []⟩
theorem sc_scaled : FnScope N_scaled ["one", "number"] (defScope s_scaled) := ⟨rfl, rfl, rfl, by decide +kernel, rfl, by decide +kernel, by decide +kernel⟩
abbrev s_plain : Stmt := top 23
abbrev N_plain : List Str := ["prime", "size", "k", "spot"]
abbrev d_plain : FnA := ⟨.glo "plain", "plain", "plain", defArgs s_plain, defBody s_plain, defScope s_plain, []⟩
theorem sc_plain : FnScope N_plain ["prime", "size"] (defScope s_plain) := ⟨rfl, rfl, rfl, by decide +kernel, rfl, by decide +kernel, by decide +kernel⟩
abbrev s_empty : Stmt := top 24
abbrev N_empty : List Str := ["prime", "tall", "wide", "k"]
abbrev d_empty : FnA := ⟨.glo "empty", "empty", "empty", defArgs s_empty, defBody s_empty, defScope s_empty, []⟩
theorem sc_empty : FnScope N_empty ["prime", "tall", "wide"] (defScope s_empty) := ⟨rfl, rfl, rfl, by decide +kernel, rfl, by decide +kernel, by decide +kernel⟩
abbrev s_across : Stmt := top 25
abbrev N_across : List Str := ["one", "found", "spot", "first"]
abbrev d_across : FnA := ⟨.glo "across", "across", "across", defArgs s_across, defBody s_across, defScope s_across, []⟩
theorem sc_across : FnScope N_across ["one"] (defScope s_across) := ⟨rfl, rfl, rfl, by decide +kernel, rfl, by decide +kernel, by decide +kernel⟩
abbrev s_need_tables : Stmt := top 26
abbrev N_need_tables : List Str := ["tables", "one"]
abbrev d_need_tables : FnA := ⟨.glo "need_tables", "need_tables", "need_tables", defArgs s_need_tables, defBody s_need_tables, defScope s_need_tables, []⟩
theorem sc_need_tables : FnScope N_need_tables ["tables"] (defScope s_need_tables) := ⟨rfl, rfl, rfl, by decide +kernel, rfl, by decide +kernel, by decide +kernel⟩
abbrev s_beside : Stmt := top 27
abbrev N_beside : List Str := ["tables", "one", "found", "k", "item"]
abbrev d_beside : FnA := ⟨.glo "beside", "beside", "beside", defArgs s_beside, defBody s_beside, defScope s_beside, []⟩
theorem sc_beside : FnScope N_beside ["tables"] (defScope s_beside) := ⟨rfl, rfl, rfl, by decide +kernel, rfl, by decide +kernel, by decide +kernel⟩
abbrev s_over : Stmt := top 28
abbrev N_over : List Str := ["tables", "one", "found", "first"]
abbrev d_over : FnA := ⟨.glo "over", "over", "over", defArgs s_over, defBody s_over, defScope s_over, []⟩
theorem sc_over : FnScope N_over ["tables"] (defScope s_over) := ⟨rfl, rfl, rfl, by decide +kernel, rfl, by decide +kernel, by decide +kernel⟩
abbrev s_corner : Stmt := top 29
abbrev N_corner : List Str := ["tables", "tall", "wide", "one", "found", "ahead", "first"]
abbrev d_corner : FnA := ⟨.glo "corner", "corner", "corner", defArgs s_corner, defBody s_corner, defScope s_corner, []⟩
theorem sc_corner : FnScope N_corner ["tables"] (defScope s_corner) := ⟨rfl, rfl, rfl, by decide +kernel, rfl, by decide +kernel, by decide +kernel⟩
abbrev s__law_mixed : Stmt := top 32
abbrev N__law_mixed : List Str := ["_law_draw", "_law_turn", "_law_found", "_law_great", "_law_blend", "_law_grain"]
abbrev d__law_mixed : FnA := ⟨.glo "_law_mixed", "_law_mixed", "_law_mixed", defArgs s__law_mixed, defBody s__law_mixed, defScope s__law_mixed, []⟩
theorem sc__law_mixed : FnScope N__law_mixed ["_law_draw"] (defScope s__law_mixed) := ⟨rfl, rfl, rfl, by decide +kernel, rfl, by decide +kernel, by decide +kernel⟩
abbrev s__law_take : Stmt := top 33
abbrev N__law_take : List Str := ["_law_draw", "_law_amount", "_law_found"]
abbrev d__law_take : FnA := ⟨.glo "_law_take", "_law_take", "_law_take", defArgs s__law_take, defBody s__law_take, defScope s__law_take, []⟩
theorem sc__law_take : FnScope N__law_take ["_law_draw", "_law_amount"] (defScope s__law_take) := ⟨rfl, rfl, rfl, by decide +kernel, rfl, by decide +kernel, by decide +kernel⟩
abbrev s__law_pick : Stmt := top 34
abbrev N__law_pick : List Str := ["_law_draw", "_law_some"]
abbrev d__law_pick : FnA := ⟨.glo "_law_pick", "_law_pick", "_law_pick", defArgs s__law_pick, defBody s__law_pick, defScope s__law_pick, []⟩
theorem sc__law_pick : FnScope N__law_pick ["_law_draw", "_law_some"] (defScope s__law_pick) := ⟨rfl, rfl, rfl, by decide +kernel, rfl, by decide +kernel, by decide +kernel⟩
abbrev s__law_field : Stmt := top 35
abbrev N__law_field : List Str := ["_law_draw"]
abbrev d__law_field : FnA := ⟨.glo "_law_field", "_law_field", "_law_field", defArgs s__law_field, defBody s__law_field, defScope s__law_field, []⟩
theorem sc__law_field : FnScope N__law_field ["_law_draw"] (defScope s__law_field) := ⟨rfl, rfl, rfl, by decide +kernel, rfl, by decide +kernel, by decide +kernel⟩
abbrev s__law_lists : Stmt := top 36
abbrev N__law_lists : List Str := ["_law_draw", "_law_field_here", "_law_tall", "_law_wide", "_law_found", "_law_down", "_law_k"]
abbrev d__law_lists : FnA := ⟨.glo "_law_lists", "_law_lists", "_law_lists", defArgs s__law_lists, defBody s__law_lists, defScope s__law_lists, []⟩
theorem sc__law_lists : FnScope N__law_lists ["_law_draw", "_law_field_here", "_law_tall", "_law_wide"] (defScope s__law_lists) := ⟨rfl, rfl, rfl, by decide +kernel, rfl, by decide +kernel, by decide +kernel⟩
abbrev s__law_product : Stmt := top 37
abbrev N__law_product : List Str := ["_law_field_here", "_law_one", "_law_two", "_law_wide", "_law_found", "_law_line_here", "_law_sums", "_law_k", "_law_item", "_law_here", "_law_there"]
abbrev d__law_product : FnA := ⟨.glo "_law_product", "_law_product", "_law_product", defArgs s__law_product, defBody s__law_product, defScope s__law_product, []⟩
theorem sc__law_product : FnScope N__law_product ["_law_field_here", "_law_one", "_law_two", "_law_wide"] (defScope s__law_product) := ⟨rfl, rfl, rfl, by decide +kernel, rfl, by decide +kernel, by decide +kernel⟩
abbrev s__law_unit : Stmt := top 38
abbrev N__law_unit : List Str := ["_law_size_here", "_law_k", "_law_spot"]
abbrev d__law_unit : FnA := ⟨.glo "_law_unit", "_law_unit", "_law_unit", defArgs s__law_unit, defBody s__law_unit, defScope s__law_unit, []⟩
theorem sc__law_unit : FnScope N__law_unit ["_law_size_here"] (defScope s__law_unit) := ⟨rfl, rfl, rfl, by decide +kernel, rfl, by decide +kernel, by decide +kernel⟩
abbrev s__law_caught : Stmt := top 39
abbrev N__law_caught : List Str := ["_law_work", "_law_caught_here", "_law_error"]
abbrev d__law_caught : FnA := ⟨.glo "_law_caught", "_law_caught", "_law_caught", defArgs s__law_caught, defBody s__law_caught, defScope s__law_caught, []⟩
theorem sc__law_caught : FnScope N__law_caught ["_law_work"] (defScope s__law_caught) := ⟨rfl, rfl, rfl, by decide +kernel, rfl, by decide +kernel, by decide +kernel⟩
abbrev s__law_size : Stmt := top 40
abbrev N__law_size : List Str := ["_law_draw"]
abbrev d__law_size : FnA := ⟨.glo "_law_size", "_law_size", "_law_size", defArgs s__law_size, defBody s__law_size, defScope s__law_size, []⟩
theorem sc__law_size : FnScope N__law_size ["_law_draw"] (defScope s__law_size) := ⟨rfl, rfl, rfl, by decide +kernel, rfl, by decide +kernel, by decide +kernel⟩
abbrev s__law_wild : Stmt := top 41
abbrev N__law_wild : List Str := ["_law_draw", "_law_field_here", "_law_tall", "_law_wide", "_law_found", "_law_line_here", "_law_item"]
abbrev d__law_wild : FnA := ⟨.glo "_law_wild", "_law_wild", "_law_wild", defArgs s__law_wild, defBody s__law_wild, defScope s__law_wild, []⟩
theorem sc__law_wild : FnScope N__law_wild ["_law_draw", "_law_field_here", "_law_tall", "_law_wide"] (defScope s__law_wild) := ⟨rfl, rfl, rfl, by decide +kernel, rfl, by decide +kernel, by decide +kernel⟩
abbrev s__law_shows : Stmt := top 42
abbrev N__law_shows : List Str := ["_law_table", "_law_field_here", "_law_tall", "_law_wide", "_law_some", "_law_due", "_law_line_here", "_law_item"]
abbrev d__law_shows : FnA := ⟨.glo "_law_shows", "_law_shows", "_law_shows", defArgs s__law_shows, defBody s__law_shows, defScope s__law_shows, []⟩
theorem sc__law_shows : FnScope N__law_shows ["_law_table", "_law_field_here", "_law_tall", "_law_wide", "_law_some"] (defScope s__law_shows) := ⟨rfl, rfl, rfl, by decide +kernel, rfl, by decide +kernel, by decide +kernel⟩
abbrev s__law_turned : Stmt := top 43
abbrev N__law_turned : List Str := ["_law_some", "_law_wide", "_law_k", "_law_line_here"]
abbrev d__law_turned : FnA := ⟨.glo "_law_turned", "_law_turned", "_law_turned", defArgs s__law_turned, defBody s__law_turned, defScope s__law_turned, []⟩
theorem sc__law_turned : FnScope N__law_turned ["_law_some", "_law_wide"] (defScope s__law_turned) := ⟨rfl, rfl, rfl, by decide +kernel, rfl, by decide +kernel, by decide +kernel⟩
abbrev s__law_rests : Stmt := top 44
abbrev N__law_rests : List Str := ["_law_field_here", "_law_some", "_law_line_here", "_law_item"]
abbrev d__law_rests : FnA := ⟨.glo "_law_rests", "_law_rests", "_law_rests", defArgs s__law_rests, defBody s__law_rests, defScope s__law_rests, []⟩
theorem sc__law_rests : FnScope N__law_rests ["_law_field_here", "_law_some"] (defScope s__law_rests) := ⟨rfl, rfl, rfl, by decide +kernel, rfl, by decide +kernel, by decide +kernel⟩
abbrev s__law_is_bad : Stmt := top 45
abbrev N__law_is_bad : List Str := ["_law_work"]
abbrev d__law_is_bad : FnA := ⟨.glo "_law_is_bad", "_law_is_bad", "_law_is_bad", defArgs s__law_is_bad, defBody s__law_is_bad, defScope s__law_is_bad, []⟩
theorem sc__law_is_bad : FnScope N__law_is_bad ["_law_work"] (defScope s__law_is_bad) := ⟨rfl, rfl, rfl, by decide +kernel, rfl, by decide +kernel, by decide +kernel⟩
abbrev s__law_products_right : Stmt := top 46
abbrev N__law_products_right : List Str := ["_law_draw", "_law_field_here", "_law_tall", "_law_middle", "_law_wide", "_law_one", "_law_two", "_law_three", "_law_shown_here", "_law_first", "_law_second", "_law_third", "_law_added", "_law_a", "_law_b", "_law_here", "_law_there", "_law_less", "_law_number", "_law_many_times", "_law_item", "_law_longer", "_law_odd", "_law_taller", "_law_work"]
abbrev d__law_products_right : FnA := ⟨.glo "_law_products_right", "_law_products_right", "_law_products_right", defArgs s__law_products_right, defBody s__law_products_right, defScope s__law_products_right, []⟩
theorem sc__law_products_right : FnScope N__law_products_right ["_law_draw", "_law_field_here"] (defScope s__law_products_right) := ⟨rfl, rfl, rfl, by decide +kernel, rfl, by decide +kernel, by decide +kernel⟩
abbrev s__law_lists_right : Stmt := top 47
abbrev N__law_lists_right : List Str := ["_law_draw", "_law_field_here", "_law_same", "_law_several", "_law_k", "_law_lists_here", "_law_size_here", "_law_tables_here", "_law_some", "_law_due", "_law_columns", "_law_found", "_law_ahead_here", "_law_back", "_law_line_here", "_law_odd", "_law_work", "_law_bad", "_law_taller"]
abbrev d__law_lists_right : FnA := ⟨.glo "_law_lists_right", "_law_lists_right", "_law_lists_right", defArgs s__law_lists_right, defBody s__law_lists_right, defScope s__law_lists_right, []⟩
theorem sc__law_lists_right : FnScope N__law_lists_right ["_law_draw", "_law_field_here"] (defScope s__law_lists_right) := ⟨rfl, rfl, rfl, by decide +kernel, rfl, by decide +kernel, by decide +kernel⟩
abbrev s__law_is_prime : Stmt := top 48
abbrev N__law_is_prime : List Str := ["_law_number", "_law_k"]
abbrev d__law_is_prime : FnA := ⟨.glo "_law_is_prime", "_law_is_prime", "_law_is_prime", defArgs s__law_is_prime, defBody s__law_is_prime, defScope s__law_is_prime, []⟩
theorem sc__law_is_prime : FnScope N__law_is_prime ["_law_number"] (defScope s__law_is_prime) := ⟨rfl, rfl, rfl, by decide +kernel, rfl, by decide +kernel, by decide +kernel⟩
abbrev s__law_primes_right : Stmt := top 49
abbrev N__law_primes_right : List Str := ["_law_draw", "_law_some", "_law_lap", "_law_number", "_law_error"]
abbrev d__law_primes_right : FnA := ⟨.glo "_law_primes_right", "_law_primes_right", "_law_primes_right", defArgs s__law_primes_right, defBody s__law_primes_right, defScope s__law_primes_right, []⟩
theorem sc__law_primes_right : FnScope N__law_primes_right ["_law_draw"] (defScope s__law_primes_right) := ⟨rfl, rfl, rfl, by decide +kernel, rfl, by decide +kernel, by decide +kernel⟩
abbrev s__law_unequal : Stmt := top 50
abbrev N__law_unequal : List Str := ["_law_field_here", "_law_other"]
abbrev d__law_unequal : FnA := ⟨.glo "_law_unequal", "_law_unequal", "_law_unequal", defArgs s__law_unequal, defBody s__law_unequal, defScope s__law_unequal, []⟩
theorem sc__law_unequal : FnScope N__law_unequal ["_law_field_here"] (defScope s__law_unequal) := ⟨rfl, rfl, rfl, by decide +kernel, rfl, by decide +kernel, by decide +kernel⟩
abbrev s__law_refused : Stmt := top 51
abbrev N__law_refused : List Str := ["_law_draw", "_law_field_here", "_law_odd", "_law_size_here", "_law_bad", "_law_some", "_law_work", "_law_errors_here", "_law_error"]
abbrev d__law_refused : FnA := ⟨.glo "_law_refused", "_law_refused", "_law_refused", defArgs s__law_refused, defBody s__law_refused, defScope s__law_refused, []⟩
theorem sc__law_refused : FnScope N__law_refused ["_law_draw", "_law_field_here"] (defScope s__law_refused) := ⟨rfl, rfl, rfl, by decide +kernel, rfl, by decide +kernel, by decide +kernel⟩
abbrev s_law : Stmt := top 52
abbrev N_law : List Str := ["_law_script", "_law_draw", "_law_turn", "_law_field_here", "_law_long_here", "_law_size_here", "_law_wide"]
abbrev d_law : FnA := ⟨.glo "law", "law", "law", defArgs s_law, defBody s_law, defScope s_law, []⟩
theorem sc_law : FnScope N_law ["_law_script"] (defScope s_law) := ⟨rfl, rfl, rfl, by decide +kernel, rfl, by decide +kernel, by decide +kernel⟩
abbrev s__law_begun : Stmt := top 31
abbrev N__law_begun : List Str := ["_law_script", "_law_large", "_law_grain"]
abbrev d__law_begun : FnA := ⟨.glo "_law_begun", "_law_begun", "_law_begun", defArgs s__law_begun, defBody s__law_begun, defScope s__law_begun, []⟩
theorem sc__law_begun : FnScope N__law_begun ["_law_script"] (defScope s__law_begun) := ⟨rfl, rfl, rfl, by decide +kernel, rfl, by decide +kernel, by decide +kernel⟩
def C : LawC := { fns := [d_BadNumber_init, d_is_number, d_is_between, d_is_list, d_is_prime, d_need_prime, d_are_lines, d_Table_init, d_Table_prime, d_Table_tall, d_Table_wide, d_Table_lines, d_Table_eq, d_need_table, d_need_two, d_need_same_size, d_product_lines, d_times, d_plus, d_minus, d_scaled, d_plain, d_empty, d_across, d_need_tables, d_beside, d_over, d_corner, d__law_mixed, d__law_take, d__law_pick, d__law_field, d__law_lists, d__law_product, d__law_unit, d__law_caught, d__law_size, d__law_wild, d__law_shows, d__law_turned, d__law_rests, d__law_is_bad, d__law_products_right, d__law_lists_right, d__law_is_prime, d__law_primes_right, d__law_unequal, d__law_refused, d_law, d__law_begun], glos := [("is_number" : Str), ("is_between" : Str), ("is_list" : Str), ("PRIMES" : Str), ("is_prime" : Str), ("BadPrime" : Str), ("need_prime" : Str), ("are_lines" : Str), ("BadTable" : Str), ("Table" : Str), ("need_table" : Str), ("need_two" : Str), ("need_same_size" : Str), ("product_lines" : Str), ("times" : Str), ("plus" : Str), ("minus" : Str), ("BadNumber" : Str), ("scaled" : Str), ("plain" : Str), ("empty" : Str), ("across" : Str), ("need_tables" : Str), ("beside" : Str), ("over" : Str), ("corner" : Str), ("_law_mixed" : Str), ("_law_take" : Str), ("_law_pick" : Str), ("_law_field" : Str), ("_law_lists" : Str), ("_law_product" : Str), ("_law_unit" : Str), ("_law_caught" : Str), ("WebError" : Str), ("_law_size" : Str), ("_law_wild" : Str), ("_law_shows" : Str), ("_law_turned" : Str), ("_law_rests" : Str), ("_law_is_bad" : Str), ("_law_products_right" : Str), ("_law_lists_right" : Str), ("_law_is_prime" : Str), ("_law_primes_right" : Str), ("_law_unequal" : Str), ("_law_refused" : Str), ("law" : Str), ("_law_begun" : Str)], frees := ["int", "isinstance", "bool", "list", "tuple", "len", "all", "enumerate", "zip", "super", "range", "any", "sum", "repr", "min", "abs"], nums := [("MOST_SIDE", 60)], isas := ⟨["Table"], ["BadNumber", "BadPrime", "BadTable"], [(((.ty "bool"), (.ty "int")), true), (((.ty "bool"), (.ty "bool")), true), (((.ty "bool"), (.ty "list")), false), (((.ty "bool"), (.ty "tuple")), false), (((.ty "bool"), (.own "Table")), false), (((.ty "bool"), (.own "BadNumber")), false), (((.ty "bool"), (.own "BadPrime")), false), (((.ty "bool"), (.own "BadTable")), false), (((.ty "int"), (.ty "int")), true), (((.ty "int"), (.ty "bool")), false), (((.ty "int"), (.ty "list")), false), (((.ty "int"), (.ty "tuple")), false), (((.ty "int"), (.own "Table")), false), (((.ty "int"), (.own "BadNumber")), false), (((.ty "int"), (.own "BadPrime")), false), (((.ty "int"), (.own "BadTable")), false), (((.ty "list"), (.ty "int")), false), (((.ty "list"), (.ty "bool")), false), (((.ty "list"), (.ty "list")), true), (((.ty "list"), (.ty "tuple")), false), (((.ty "list"), (.own "Table")), false), (((.ty "list"), (.own "BadNumber")), false), (((.ty "list"), (.own "BadPrime")), false), (((.ty "list"), (.own "BadTable")), false), (((.ty "tuple"), (.ty "int")), false), (((.ty "tuple"), (.ty "bool")), false), (((.ty "tuple"), (.ty "list")), false), (((.ty "tuple"), (.ty "tuple")), true), (((.ty "tuple"), (.own "Table")), false), (((.ty "tuple"), (.own "BadNumber")), false), (((.ty "tuple"), (.own "BadPrime")), false), (((.ty "tuple"), (.own "BadTable")), false), (((.ty "str"), (.ty "int")), false), (((.ty "str"), (.ty "bool")), false), (((.ty "str"), (.ty "list")), false), (((.ty "str"), (.ty "tuple")), false), (((.ty "str"), (.own "Table")), false), (((.ty "str"), (.own "BadNumber")), false), (((.ty "str"), (.own "BadPrime")), false), (((.ty "str"), (.own "BadTable")), false), (((.ty "dict"), (.ty "int")), false), (((.ty "dict"), (.ty "bool")), false), (((.ty "dict"), (.ty "list")), false), (((.ty "dict"), (.ty "tuple")), false), (((.ty "dict"), (.own "Table")), false), (((.ty "dict"), (.own "BadNumber")), false), (((.ty "dict"), (.own "BadPrime")), false), (((.ty "dict"), (.own "BadTable")), false), (((.ty "NoneType"), (.ty "int")), false), (((.ty "NoneType"), (.ty "bool")), false), (((.ty "NoneType"), (.ty "list")), false), (((.ty "NoneType"), (.ty "tuple")), false), (((.ty "NoneType"), (.own "Table")), false), (((.ty "NoneType"), (.own "BadNumber")), false), (((.ty "NoneType"), (.own "BadPrime")), false), (((.ty "NoneType"), (.own "BadTable")), false), (((.own "Table"), (.ty "int")), false), (((.own "Table"), (.ty "bool")), false), (((.own "Table"), (.ty "list")), false), (((.own "Table"), (.ty "tuple")), false), (((.own "Table"), (.own "Table")), true), (((.own "Table"), (.own "BadNumber")), false), (((.own "Table"), (.own "BadPrime")), false), (((.own "Table"), (.own "BadTable")), false), (((.own "BadNumber"), (.ty "int")), false), (((.own "BadNumber"), (.ty "bool")), false), (((.own "BadNumber"), (.ty "list")), false), (((.own "BadNumber"), (.ty "tuple")), false), (((.own "BadNumber"), (.own "Table")), false), (((.own "BadNumber"), (.own "BadNumber")), true), (((.own "BadNumber"), (.own "BadPrime")), false), (((.own "BadNumber"), (.own "BadTable")), false), (((.own "BadPrime"), (.ty "int")), false), (((.own "BadPrime"), (.ty "bool")), false), (((.own "BadPrime"), (.ty "list")), false), (((.own "BadPrime"), (.ty "tuple")), false), (((.own "BadPrime"), (.own "Table")), false), (((.own "BadPrime"), (.own "BadNumber")), false), (((.own "BadPrime"), (.own "BadPrime")), true), (((.own "BadPrime"), (.own "BadTable")), false), (((.own "BadTable"), (.ty "int")), false), (((.own "BadTable"), (.ty "bool")), false), (((.own "BadTable"), (.ty "list")), false), (((.own "BadTable"), (.ty "tuple")), false), (((.own "BadTable"), (.own "Table")), false), (((.own "BadTable"), (.own "BadNumber")), false), (((.own "BadTable"), (.own "BadPrime")), false), (((.own "BadTable"), (.own "BadTable")), true)]⟩, tab := [(("Table", "prime"), .prop "own_prime"), (("Table", "own_prime"), .fld), (("Table", "tall"), .prop "own_tall"), (("Table", "own_tall"), .fld), (("Table", "wide"), .prop "own_wide"), (("Table", "own_wide"), .fld), (("Table", "lines"), .prop "own_lines"), (("Table", "own_lines"), .fld), (("BadNumber", "part"), .exc)], mks := ["Table"] }
def tfs : List (Wh × Str) := [(.glo "_law_products_right", (envOfC "_law_products_right" (defScope s__law_products_right) 0 0 .none).qual ++ "<lambda>"), (.glo "_law_lists_right", (envOfC "_law_lists_right" (defScope s__law_lists_right) 0 0 .none).qual ++ "<lambda>"), (.glo "_law_primes_right", (envOfC "_law_primes_right" (defScope s__law_primes_right) 0 0 .none).qual ++ "<lambda>"), (.glo "_law_refused", (envOfC "_law_refused" (defScope s__law_refused) 0 0 .none).qual ++ "<lambda>"), (.glo "law", (envOfC "law" (defScope s_law) 0 0 .none).qual ++ "<lambda>")]
abbrev tq__law_products_right : Wh × Str := (.glo "_law_products_right", (envOfC "_law_products_right" (defScope s__law_products_right) 0 0 .none).qual ++ "<lambda>")
theorem tin__law_products_right : tq__law_products_right ∈ tfs := List.mem_of_getElem? (i := 0) rfl
abbrev tq__law_lists_right : Wh × Str := (.glo "_law_lists_right", (envOfC "_law_lists_right" (defScope s__law_lists_right) 0 0 .none).qual ++ "<lambda>")
theorem tin__law_lists_right : tq__law_lists_right ∈ tfs := List.mem_of_getElem? (i := 1) rfl
abbrev tq__law_primes_right : Wh × Str := (.glo "_law_primes_right", (envOfC "_law_primes_right" (defScope s__law_primes_right) 0 0 .none).qual ++ "<lambda>")
theorem tin__law_primes_right : tq__law_primes_right ∈ tfs := List.mem_of_getElem? (i := 2) rfl
abbrev tq__law_refused : Wh × Str := (.glo "_law_refused", (envOfC "_law_refused" (defScope s__law_refused) 0 0 .none).qual ++ "<lambda>")
theorem tin__law_refused : tq__law_refused ∈ tfs := List.mem_of_getElem? (i := 3) rfl
abbrev tq_law : Wh × Str := (.glo "law", (envOfC "law" (defScope s_law) 0 0 .none).qual ++ "<lambda>")
theorem tin_law : tq_law ∈ tfs := List.mem_of_getElem? (i := 4) rfl
abbrev cs : List Str := ["BadNumber", "BadPrime", "BadTable"]
structure ZZ (P : Program) (K : PySem.W.Frag) (mg : Str → Option Value) (base : Heap) (T : List (Addr × Str)) : Prop extends Zl C tfs "WebError" cs K mg base T where
  su_BadNumber : SuE P K b_BadNumber "BadNumber"
  ef_BadPrime : ExcF K "BadPrime"
  ef_BadTable : ExcF K "BadTable"
  tp_PRIMES : TupK K "PRIMES" [2, 3, 5, 7, 11, 13, 17, 19, 23, 29, 31, 37, 41, 43, 47, 53, 59, 61, 67, 71, 73, 79, 83, 89, 97]
  eq_Table : eqB "Table" K = true
section
variable {P : Program} {w : World} {K : PySem.W.Frag} {mg : Str → Option Value} {base : Heap} {T : List (Addr × Str)}
def t_is_number : TDS := (dRet (dAndV (dCB (isaD C.isas) (dCons (dVar 0) (dCons (dC (.ty "int")) dNil))) (dNotV (dCB (isaD C.isas) (dCons (dVar 0) (dCons (dC (.ty "bool")) dNil))))))
theorem okg_is_number (Z : ZZ P K mg base T) : FnB P w K mg base T d_is_number 1 ["thing"] (dBody N_is_number.length t_is_number) :=
  Z.toZk.fnB 1 rfl rfl rfl sc_is_number fun cdv A outer s H E B hcd hT hr => by
    subst hT
    exact (dss_one (ds_ret (de_and (de_callB call_isa (lc_isa Z.isa) (by rfl) (Z.f 1 rfl) bt_isinstance (da_cons (de_var 0 (pv 0)) (da_cons (de_ty (by rfl) (Z.f 0 rfl) bt_int) da_nil))) (de_one (de_not (de_callB call_isa (lc_isa Z.isa) (by rfl) (Z.f 1 rfl) bt_isinstance (da_cons (de_var 0 (pv 0)) (da_cons (de_ty (by rfl) (Z.f 2 rfl) bt_bool) da_nil))))))))
theorem ok_is_number (Z : ZZ P K mg base T) : FnD P w K mg base T "is_number" 1 ["thing"] (dBody N_is_number.length t_is_number) := (okg_is_number Z).fnD (Z.g 0 rfl) (fun _ _ _ _ _ _ us hl => match us, hl with | [_], _ => rfl)
def t_is_between : TDS := (dRet (dAndV (dCall (dBody N_is_number.length t_is_number) 1 (dCons (dVar 0) dNil)) (dChain leD leD (dVar 1) (dVar 0) (dVar 2))))
theorem okg_is_between (Z : ZZ P K mg base T) : FnB P w K mg base T d_is_between 2 ["thing", "low", "high"] (dBody N_is_between.length t_is_between) :=
  Z.toZk.fnB 2 rfl rfl rfl sc_is_between fun cdv A outer s H E B hcd hT hr => by
    subst hT
    exact (dss_one (ds_ret (de_and (de_call (ok_is_number Z) (hr.mono (by decide)) (by rfl) (da_cons (de_var 0 (pv 0)) da_nil)) (de_one (de_chain op_le l_le op_le l_le (de_var 1 (pv 1)) (de_var 0 (pv 0)) (de_var 2 (pv 2)))))))
theorem ok_is_between (Z : ZZ P K mg base T) : FnD P w K mg base T "is_between" 2 ["thing", "low", "high"] (dBody N_is_between.length t_is_between) := (okg_is_between Z).fnD (Z.g 1 rfl) (fun _ _ _ _ _ _ us hl => match us, hl with | [_, _, _], _ => rfl)
def t_is_list : TDS := (dRet (dCB (isaD C.isas) (dCons (dVar 0) (dCons (dTup (dCons (dC (.ty "list")) (dCons (dC (.ty "tuple")) dNil))) dNil))))
theorem okg_is_list (Z : ZZ P K mg base T) : FnB P w K mg base T d_is_list 1 ["thing"] (dBody N_is_list.length t_is_list) :=
  Z.toZk.fnB 3 rfl rfl rfl sc_is_list fun cdv A outer s H E B hcd hT hr => by
    subst hT
    exact (dss_one (ds_ret (de_callB call_isa (lc_isa Z.isa) (by rfl) (Z.f 1 rfl) bt_isinstance (da_cons (de_var 0 (pv 0)) (da_cons (de_tup (da_cons (de_ty (by rfl) (Z.f 3 rfl) bt_list) (da_cons (de_ty (by rfl) (Z.f 4 rfl) bt_tuple) da_nil))) da_nil)))))
theorem ok_is_list (Z : ZZ P K mg base T) : FnD P w K mg base T "is_list" 1 ["thing"] (dBody N_is_list.length t_is_list) := (okg_is_list Z).fnD (Z.g 2 rfl) (fun _ _ _ _ _ _ us hl => match us, hl with | [_], _ => rfl)
def t_is_prime : TDS := (dRet (dAndV (dCall (dBody N_is_number.length t_is_number) 1 (dCons (dVar 0) dNil)) (d2 (inT fun b => b) (dVar 0) (dC (.tup ([2, 3, 5, 7, 11, 13, 17, 19, 23, 29, 31, 37, 41, 43, 47, 53, 59, 61, 67, 71, 73, 79, 83, 89, 97].map D.int))))))
theorem okg_is_prime (Z : ZZ P K mg base T) : FnB P w K mg base T d_is_prime 2 ["thing"] (dBody N_is_prime.length t_is_prime) :=
  Z.toZk.fnB 4 rfl rfl rfl sc_is_prime fun cdv A outer s H E B hcd hT hr => by
    subst hT
    exact (dss_one (ds_ret (de_and (de_call (ok_is_number Z) (hr.mono (by decide)) (by rfl) (da_cons (de_var 0 (pv 0)) da_nil)) (de_one (de_cmp op_in_seq l_inT (de_var 0 (pv 0)) (de_gtup Z.tp_PRIMES (by rfl) (Z.g 3 rfl)) (by rfl))))))
theorem ok_is_prime (Z : ZZ P K mg base T) : FnD P w K mg base T "is_prime" 2 ["thing"] (dBody N_is_prime.length t_is_prime) := (okg_is_prime Z).fnD (Z.g 4 rfl) (fun _ _ _ _ _ _ us hl => match us, hl with | [_], _ => rfl)
def t_need_prime : TDS := (dIfS (dNot (dTest (dCall (dBody N_is_prime.length t_is_prime) 1 (dCons (dVar 0) dNil)))) (dRaise0 "BadPrime") dNext)
theorem okg_need_prime (Z : ZZ P K mg base T) : FnB P w K mg base T d_need_prime 3 ["thing"] (dBody N_need_prime.length t_need_prime) :=
  Z.toZk.fnB 5 rfl rfl rfl sc_need_prime fun cdv A outer s H E B hcd hT hr => by
    subst hT
    exact (dss_one (ds_if (dt_not (dt_val (de_call (ok_is_prime Z) (hr.mono (by decide)) (by rfl) (da_cons (de_var 0 (pv 0)) da_nil)))) (dss_one (ds_raise0 Z.ef_BadPrime rfl (by rfl) (Z.g 5 rfl))) dss_nil))
theorem ok_need_prime (Z : ZZ P K mg base T) : FnD P w K mg base T "need_prime" 3 ["thing"] (dBody N_need_prime.length t_need_prime) := (okg_need_prime Z).fnD (Z.g 6 rfl) (fun _ _ _ _ _ _ us hl => match us, hl with | [_], _ => rfl)
def t_are_lines : TDS := (dSeq (dIfS (dOr (dNot (dTest (dCall (dBody N_is_list.length t_is_list) 1 (dCons (dVar 0) dNil)))) (dTest (d2 neD (dCB lenD (dCons (dVar 0) dNil)) (dVar 1)))) (dRet (dC (.bl false))) dNext)
    (dRet (dCB (onL allL) (dCons (dFrz (dComp (dSeqI (dVar 0)) (gN 3) dYes (dAndV (dCall (dBody N_is_list.length t_is_list) 1 (dCons (dVar 3) dNil)) (dAndV (d2 eqD (dCB lenD (dCons (dVar 3) dNil)) (dVar 2)) (dCB (onL allL) (dCons (dFrz (dComp (dSeqI (dVar 3)) (gN 4) dYes (dCall (dBody N_is_number.length t_is_number) 1 (dCons (dVar 4) dNil)) [4])) dNil)))) [3])) dNil))))
theorem okg_are_lines (Z : ZZ P K mg base T) : FnB P w K mg base T d_are_lines 2 ["thing", "tall", "wide"] (dBody N_are_lines.length t_are_lines) :=
  Z.toZk.fnB 6 rfl rfl rfl sc_are_lines fun cdv A outer s H E B hcd hT hr => by
    subst hT
    exact (dss_cons (ds_if (DWh.dt (dw_or (dt_not (dt_val (de_call (ok_is_list Z) (hr.mono (by decide)) (by rfl) (da_cons (de_var 0 (pv 0)) da_nil)))) (dw_or1 (dt_cmp (op_neD hr.u64) l_ne (de_callB call_lenA lc_len (by rfl) (Z.f 5 rfl) bt_len (da_cons (de_var 0 (pv 0)) da_nil)) (de_var 1 (pv 1)) (by rfl))))) (dss_one (ds_ret de_bl)) dss_nil)
    (dss_one (ds_ret (de_callB (cr_all (by rfl)) lc_all (by rfl) (Z.f 6 rfl) bt_all (da_cons (de_frz (df_comp (own := [("one", 3)]) rfl sc_are_lines.nd (di_seq (de_var 0 (pv 0))) (blkOk_by (by rfl)) (fun _ _ _ _ _ => (dg_name (i := 3) sc_are_lines.nd rfl (by first | exact Or.inl rfl | exact Or.inr rfl))) (fun _ _ _ _ _ => dts_nil) (fun _ _ _ _ _ => (de_and (de_call (ok_is_list Z) (hr.mono (by decide)) (by rfl) (da_cons (de_var 3 (pv 3)) da_nil)) (de_and (de_cmp (op_eqD hr.u64) l_eq (de_callB call_lenA lc_len (by rfl) (Z.f 5 rfl) bt_len (da_cons (de_var 3 (pv 3)) da_nil)) (de_var 2 (pv 2)) (by rfl)) (de_one (de_callB (cr_all (by rfl)) lc_all (by rfl) (Z.f 6 rfl) bt_all (da_cons (de_frz (df_comp (own := [("item", 4)]) rfl sc_are_lines.nd (di_seq (de_var 3 (pv 3))) (blkOk_by (by rfl)) (fun _ _ _ _ _ => (dg_name (i := 4) sc_are_lines.nd rfl (by first | exact Or.inl rfl | exact Or.inr rfl))) (fun _ _ _ _ _ => dts_nil) (fun _ _ _ _ _ => (de_call (ok_is_number Z) (hr.mono (by decide)) (by rfl) (da_cons (de_var 4 (pv 4)) da_nil))))) da_nil)))))))) da_nil)))))
theorem ok_are_lines (Z : ZZ P K mg base T) : FnD P w K mg base T "are_lines" 2 ["thing", "tall", "wide"] (dBody N_are_lines.length t_are_lines) := (okg_are_lines Z).fnD (Z.g 7 rfl) (fun _ _ _ _ _ _ us hl => match us, hl with | [_, _, _], _ => rfl)
def t_Table_init : TDS := (dSeq (dExpr (dCall (dBody N_need_prime.length t_need_prime) 1 (dCons (dVar 1) dNil)))
    (dSeq (dIfS (dOr (dNot (dTest (dCall (dBody N_is_between.length t_is_between) 3 (dCons (dVar 2) (dCons (dC (.int 0)) (dCons (dC (.int 60)) dNil)))))) (dNot (dTest (dCall (dBody N_is_between.length t_is_between) 3 (dCons (dVar 3) (dCons (dC (.int 0)) (dCons (dC (.int 60)) dNil))))))) (dRaise0 "BadTable") dNext)
    (dSeq (dIfS (dNot (dTest (dCall (dBody N_are_lines.length t_are_lines) 3 (dCons (dVar 4) (dCons (dVar 2) (dCons (dVar 3) dNil)))))) (dRaise0 "BadTable") dNext)
    (dSeq (dSetF C.tab 0 "own_prime" (dVar 1))
    (dSeq (dSetF C.tab 0 "own_tall" (dVar 2))
    (dSeq (dSetF C.tab 0 "own_wide" (dVar 3))
    (dSetF C.tab 0 "own_lines" (dCB tupD (dCons (dFrz (dComp (dSeqI (dVar 4)) (gN 5) dYes (dCB tupD (dCons (dFrz (dComp (dSeqI (dVar 5)) (gN 6) dYes (d2 modG (dVar 6) (dVar 1)) [6])) dNil)) [5])) dNil)))))))))
abbrev wi_Table : SpI := dInit "Table" N_Table_init.length t_Table_init
theorem okg_Table (Z : ZZ P K mg base T) : FnMB P w K mg base T d_Table_init "Table" 4 ["self", "prime", "tall", "wide", "lines"] wi_Table :=
  Z.toZk.fnMB 7 9 0 rfl rfl rfl rfl rfl sc_Table_init (by decide) fun cdv A outer s H E B hT hr => by
    subst hT
    exact (dss_cons (ds_expr (de_call (ok_need_prime Z) (hr.mono (by decide)) (by rfl) (da_cons (de_var 1 (pv 1)) da_nil)))
    (dss_cons (ds_if (DWh.dt (dw_or (dt_not (dt_val (de_call (ok_is_between Z) (hr.mono (by decide)) (by rfl) (da_cons (de_var 2 (pv 2)) (da_cons de_int (da_cons (de_gint (by rfl) (Z.n 0 rfl)) da_nil)))))) (dw_or1 (dt_not (dt_val (de_call (ok_is_between Z) (hr.mono (by decide)) (by rfl) (da_cons (de_var 3 (pv 3)) (da_cons de_int (da_cons (de_gint (by rfl) (Z.n 0 rfl)) da_nil))))))))) (dss_one (ds_raise0 Z.ef_BadTable rfl (by rfl) (Z.g 8 rfl))) dss_nil)
    (dss_cons (ds_if (dt_not (dt_val (de_call (ok_are_lines Z) (hr.mono (by decide)) (by rfl) (da_cons (de_var 4 (pv 4)) (da_cons (de_var 2 (pv 2)) (da_cons (de_var 3 (pv 3)) da_nil)))))) (dss_one (ds_raise0 Z.ef_BadTable rfl (by rfl) (Z.g 8 rfl))) dss_nil)
    (dss_cons (ds_setF Z.ats (i := 0) (show 0 < N_Table_init.length by decide) (pv 0) (de_var 1 (pv 1)))
    (dss_cons (ds_setF Z.ats (i := 0) (show 0 < N_Table_init.length by decide) (pv 0) (de_var 2 (pv 2)))
    (dss_cons (ds_setF Z.ats (i := 0) (show 0 < N_Table_init.length by decide) (pv 0) (de_var 3 (pv 3)))
    (dss_one (ds_setF Z.ats (i := 0) (show 0 < N_Table_init.length by decide) (pv 0) (de_callTy call_tuple_of lc_tup (by rfl) (Z.f 4 rfl) bt_tuple (da_cons (de_frz (df_comp (own := [("one", 5)]) rfl sc_Table_init.nd (di_seq (de_var 4 (pv 4))) (blkOk_by (by rfl)) (fun _ _ _ _ _ => (dg_name (i := 5) sc_Table_init.nd rfl (by first | exact Or.inl rfl | exact Or.inr rfl))) (fun _ _ _ _ _ => dts_nil) (fun _ _ _ _ _ => (de_callTy call_tuple_of lc_tup (by rfl) (Z.f 4 rfl) bt_tuple (da_cons (de_frz (df_comp (own := [("item", 6)]) rfl sc_Table_init.nd (di_seq (de_var 5 (pv 5))) (blkOk_by (by rfl)) (fun _ _ _ _ _ => (dg_name (i := 6) sc_Table_init.nd rfl (by first | exact Or.inl rfl | exact Or.inr rfl))) (fun _ _ _ _ _ => dts_nil) (fun _ _ _ _ _ => (de_modG (de_var 6 (pv 6)) (de_var 1 (pv 1)))))) da_nil))))) da_nil))))))))))
theorem ok_Table (Z : ZZ P K mg base T) : FnM P w K mg base T "Table" 4 ["self", "prime", "tall", "wide", "lines"] wi_Table := (okg_Table Z).fnM (fun _ _ _ _ _ _ us hl => match us, hl with | [_, _, _, _, _], _ => rfl)
def t_Table_eq : TDS := (dSeq (dIfS (dOr (dNot (dTest (dCB (isaD C.isas) (dCons (dVar 1) (dCons (dC (.glo "Table")) dNil))))) (dTest (d2 neD (dAttr C.tab "own_prime" (dVar 0)) (dAttr C.tab "own_prime" (dVar 1))))) (dRet (dC (.bl false))) dNext)
    (dSeq (dIfS (dOr (dTest (d2 neD (dAttr C.tab "own_tall" (dVar 0)) (dAttr C.tab "own_tall" (dVar 1)))) (dTest (d2 neD (dAttr C.tab "own_wide" (dVar 0)) (dAttr C.tab "own_wide" (dVar 1))))) (dRet (dC (.bl false))) dNext)
    (dRet (d2 eqD (dAttr C.tab "own_lines" (dVar 0)) (dAttr C.tab "own_lines" (dVar 1))))))
theorem ok_Table_eq (Z : ZZ P K mg base T) : EqK P w K mg base T "Table" 3 (dBody N_Table_eq.length t_Table_eq) :=
  Z.toZk.eqK (d := d_Table_eq) 12 rfl rfl rfl Z.eq_Table sc_Table_eq rfl (fun _ _ _ _ _ _ us hl => match us, hl with | [_, _], _ => rfl) fun cdv A outer s H E B hcd hT hr => by
    subst hT
    exact (dss_cons (ds_if (DWh.dt (dw_or (dt_not (dt_val (de_callB call_isa (lc_isa Z.isa) (by rfl) (Z.f 1 rfl) bt_isinstance (da_cons (de_var 1 (pv 1)) (da_cons (de_glo (by rfl) (Z.g 9 rfl)) da_nil))))) (dw_or1 (dt_cmp (op_neD hr.u64) l_ne (de_attr (k := 0) Z.ats (hr.mono (by decide)) (de_var 0 (pv 0))) (de_attr (k := 0) Z.ats (hr.mono (by decide)) (de_var 1 (pv 1))) (by rfl))))) (dss_one (ds_ret de_bl)) dss_nil)
    (dss_cons (ds_if (DWh.dt (dw_or (dt_cmp (op_neD hr.u64) l_ne (de_attr (k := 0) Z.ats (hr.mono (by decide)) (de_var 0 (pv 0))) (de_attr (k := 0) Z.ats (hr.mono (by decide)) (de_var 1 (pv 1))) (by rfl)) (dw_or1 (dt_cmp (op_neD hr.u64) l_ne (de_attr (k := 0) Z.ats (hr.mono (by decide)) (de_var 0 (pv 0))) (de_attr (k := 0) Z.ats (hr.mono (by decide)) (de_var 1 (pv 1))) (by rfl))))) (dss_one (ds_ret de_bl)) dss_nil)
    (dss_one (ds_ret (de_cmp (op_eqD hr.u64) l_eq (de_attr (k := 0) Z.ats (hr.mono (by decide)) (de_var 0 (pv 0))) (de_attr (k := 0) Z.ats (hr.mono (by decide)) (de_var 1 (pv 1))) (by rfl))))))
def eqs : List (Str × SpD) := [("Table", dBody N_Table_eq.length t_Table_eq)]
theorem eqs_ok (Z : ZZ P K mg base T) : EqsOk P w K mg base T C.isas eqs 3 := ⟨Z.isa, fun e he => by
    rcases List.mem_cons.mp he with rfl | he
    · exact ok_Table_eq Z
    · cases he⟩
def t_need_table : TDS := (dIfS (dNot (dTest (dCB (isaD C.isas) (dCons (dVar 0) (dCons (dC (.glo "Table")) dNil))))) (dRaise0 "BadTable") dNext)
theorem okg_need_table (Z : ZZ P K mg base T) : FnB P w K mg base T d_need_table 1 ["thing"] (dBody N_need_table.length t_need_table) :=
  Z.toZk.fnB 13 rfl rfl rfl sc_need_table fun cdv A outer s H E B hcd hT hr => by
    subst hT
    exact (dss_one (ds_if (dt_not (dt_val (de_callB call_isa (lc_isa Z.isa) (by rfl) (Z.f 1 rfl) bt_isinstance (da_cons (de_var 0 (pv 0)) (da_cons (de_glo (by rfl) (Z.g 9 rfl)) da_nil))))) (dss_one (ds_raise0 Z.ef_BadTable rfl (by rfl) (Z.g 8 rfl))) dss_nil))
theorem ok_need_table (Z : ZZ P K mg base T) : FnD P w K mg base T "need_table" 1 ["thing"] (dBody N_need_table.length t_need_table) := (okg_need_table Z).fnD (Z.g 10 rfl) (fun _ _ _ _ _ _ us hl => match us, hl with | [_], _ => rfl)
def t_need_two : TDS := (dSeq (dExpr (dCall (dBody N_need_table.length t_need_table) 1 (dCons (dVar 0) dNil)))
    (dSeq (dExpr (dCall (dBody N_need_table.length t_need_table) 1 (dCons (dVar 1) dNil)))
    (dIfS (dTest (d2 neD (dAttr C.tab "prime" (dVar 0)) (dAttr C.tab "prime" (dVar 1)))) (dRaise0 "BadTable") dNext)))
theorem okg_need_two (Z : ZZ P K mg base T) : FnB P w K mg base T d_need_two 3 ["one", "two"] (dBody N_need_two.length t_need_two) :=
  Z.toZk.fnB 14 rfl rfl rfl sc_need_two fun cdv A outer s H E B hcd hT hr => by
    subst hT
    exact (dss_cons (ds_expr (de_call (ok_need_table Z) (hr.mono (by decide)) (by rfl) (da_cons (de_var 0 (pv 0)) da_nil)))
    (dss_cons (ds_expr (de_call (ok_need_table Z) (hr.mono (by decide)) (by rfl) (da_cons (de_var 1 (pv 1)) da_nil)))
    (dss_one (ds_if (dt_cmp (op_neD hr.u64) l_ne (de_attr (k := 0) Z.ats (hr.mono (by decide)) (de_var 0 (pv 0))) (de_attr (k := 0) Z.ats (hr.mono (by decide)) (de_var 1 (pv 1))) (by rfl)) (dss_one (ds_raise0 Z.ef_BadTable rfl (by rfl) (Z.g 8 rfl))) dss_nil))))
theorem ok_need_two (Z : ZZ P K mg base T) : FnD P w K mg base T "need_two" 3 ["one", "two"] (dBody N_need_two.length t_need_two) := (okg_need_two Z).fnD (Z.g 11 rfl) (fun _ _ _ _ _ _ us hl => match us, hl with | [_, _], _ => rfl)
def t_need_same_size : TDS := (dSeq (dExpr (dCall (dBody N_need_two.length t_need_two) 2 (dCons (dVar 0) (dCons (dVar 1) dNil))))
    (dIfS (dOr (dTest (d2 neD (dAttr C.tab "tall" (dVar 0)) (dAttr C.tab "tall" (dVar 1)))) (dTest (d2 neD (dAttr C.tab "wide" (dVar 0)) (dAttr C.tab "wide" (dVar 1))))) (dRaise0 "BadTable") dNext))
theorem okg_need_same_size (Z : ZZ P K mg base T) : FnB P w K mg base T d_need_same_size 4 ["one", "two"] (dBody N_need_same_size.length t_need_same_size) :=
  Z.toZk.fnB 15 rfl rfl rfl sc_need_same_size fun cdv A outer s H E B hcd hT hr => by
    subst hT
    exact (dss_cons (ds_expr (de_call (ok_need_two Z) (hr.mono (by decide)) (by rfl) (da_cons (de_var 0 (pv 0)) (da_cons (de_var 1 (pv 1)) da_nil))))
    (dss_one (ds_if (DWh.dt (dw_or (dt_cmp (op_neD hr.u64) l_ne (de_attr (k := 0) Z.ats (hr.mono (by decide)) (de_var 0 (pv 0))) (de_attr (k := 0) Z.ats (hr.mono (by decide)) (de_var 1 (pv 1))) (by rfl)) (dw_or1 (dt_cmp (op_neD hr.u64) l_ne (de_attr (k := 0) Z.ats (hr.mono (by decide)) (de_var 0 (pv 0))) (de_attr (k := 0) Z.ats (hr.mono (by decide)) (de_var 1 (pv 1))) (by rfl))))) (dss_one (ds_raise0 Z.ef_BadTable rfl (by rfl) (Z.g 8 rfl))) dss_nil)))
theorem ok_need_same_size (Z : ZZ P K mg base T) : FnD P w K mg base T "need_same_size" 4 ["one", "two"] (dBody N_need_same_size.length t_need_same_size) := (okg_need_same_size Z).fnD (Z.g 12 rfl) (fun _ _ _ _ _ _ us hl => match us, hl with | [_, _], _ => rfl)
def t_product_lines : TDS := (dSeq (dSetX 4 (dLstF dNil))
    (dSeq (dFor (dSeqI (dVar 1)) (gN 5) (dSeq (dSet 6 (dFrz (f2 mulG (dLst (dCons (dC (.int 0)) dNil)) (dVar 3))))
    (dSeq (dFor (dEnumB (dVar 5)) (gT 2 (gsCons (gN 7) (gsCons (gN 8) gsNil))) (dIfS (dTest (d2 neD (dVar 8) (dC (.int 0)))) (dSetX 6 (dComp (dZipB (dCons (dVar 6) (dCons (d2 ixD (dVar 2) (dVar 7)) dNil))) (gT 2 (gsCons (gN 9) (gsCons (gN 10) gsNil))) dYes (dFrz (f2 addF (dVar 9) (dFrz (f2 mulG (dVar 8) (dVar 10))))) [9, 10])) dNext))
    (dExpr (dMut 4 "list" mAppend (dCons (dFrz (dComp (dSeqI (dVar 6)) (gN 8) dYes (d2 modG (dVar 8) (dVar 0)) [8])) dNil))))))
    (dRet (dVar 4))))
theorem okg_product_lines (Z : ZZ P K mg base T) : FnB P w K mg base T d_product_lines 1 ["prime", "one", "two", "wide"] (dBody N_product_lines.length t_product_lines) :=
  Z.toZk.fnB 16 rfl rfl rfl sc_product_lines fun cdv A outer s H E B hcd hT hr => by
    subst hT
    exact (dss_cons (ds_setX sc_product_lines.nd (i := 4) rfl (by first | exact Or.inl rfl | exact Or.inr rfl) (df_lst da_nil))
    (dss_cons (ds_for (passes_of rfl) rfl (di_seq (de_var 1 (pv 1))) (dg_name (i := 5) sc_product_lines.nd rfl (by first | exact Or.inl rfl | exact Or.inr rfl)) (dss_cons (ds_set sc_product_lines.nd (i := 6) rfl (by first | exact Or.inl rfl | exact Or.inr rfl) (de_frz (df_mulG (de_lst (da_cons de_int da_nil)) (de_var 3 (pv 3)))))
    (dss_cons (ds_for (passes_of rfl) rfl (di_enumB (by rfl) (Z.f 7 rfl) (de_var 5 (pv 5))) (dg_tup rfl (dgs_cons (dg_name (i := 7) sc_product_lines.nd rfl (by first | exact Or.inl rfl | exact Or.inr rfl)) (dgs_cons (dg_name (i := 8) sc_product_lines.nd rfl (by first | exact Or.inl rfl | exact Or.inr rfl)) dgs_nil))) (dss_one (ds_if (dt_cmp (op_neD hr.u64) l_ne (de_var 8 (pv 8)) de_int (by rfl)) (dss_one (ds_comp (i := 6) (own := [("here", 9), ("there", 10)]) rfl sc_product_lines.nd rfl rfl (sw_true rfl rfl rfl (by decide +kernel)) (di_zipB (by rfl) (Z.f 8 rfl) (da_cons (de_var 6 (pv 6)) (da_cons (de_ix (ix_all hr.u1) l_ix (de_var 2 (pv 2)) (de_var 7 (pv 7)) (by intro _ _; rfl)) da_nil))) (blkOk_by (by rfl)) (fun _ _ _ _ _ => (dg_tup rfl (dgs_cons (dg_name (i := 9) sc_product_lines.nd rfl (by first | exact Or.inl rfl | exact Or.inr rfl)) (dgs_cons (dg_name (i := 10) sc_product_lines.nd rfl (by first | exact Or.inl rfl | exact Or.inr rfl)) dgs_nil)))) (fun _ _ _ _ _ => dts_nil) (fun _ _ _ _ _ => (de_frz (df_add (de_var 9 (pv 9)) (de_frz (df_mulG (de_var 8 (pv 8)) (de_var 10 (pv 10))))))))) dss_nil)))
    (dss_one (ds_expr (de_mut (i := 4) (by decide) PySem.F.plainAttrs_list PySem.F.slot_list_append PySem.F.type_list_append mt_append mop_append (pv 4) (show 4 < N_product_lines.length by decide) (da_cons (de_frz (df_comp (own := [("item", 8)]) rfl sc_product_lines.nd (di_seq (de_var 6 (pv 6))) (blkOk_by (by rfl)) (fun _ _ _ _ _ => (dg_name (i := 8) sc_product_lines.nd rfl (by first | exact Or.inl rfl | exact Or.inr rfl))) (fun _ _ _ _ _ => dts_nil) (fun _ _ _ _ _ => (de_modG (de_var 8 (pv 8)) (de_var 0 (pv 0)))))) da_nil)))))))
    (dss_one (ds_ret (de_var 4 (pv 4))))))
theorem ok_product_lines (Z : ZZ P K mg base T) : FnD P w K mg base T "product_lines" 1 ["prime", "one", "two", "wide"] (dBody N_product_lines.length t_product_lines) := (okg_product_lines Z).fnD (Z.g 13 rfl) (fun _ _ _ _ _ _ us hl => match us, hl with | [_, _, _, _], _ => rfl)
def t_times : TDS := (dSeq (dExpr (dCall (dBody N_need_two.length t_need_two) 2 (dCons (dVar 0) (dCons (dVar 1) dNil))))
    (dSeq (dIfS (dTest (d2 neD (dAttr C.tab "wide" (dVar 0)) (dAttr C.tab "tall" (dVar 1)))) (dRaise0 "BadTable") dNext)
    (dRet (dFrz (fMake "Table" wi_Table 4 (dCons (dAttr C.tab "prime" (dVar 0)) (dCons (dAttr C.tab "tall" (dVar 0)) (dCons (dAttr C.tab "wide" (dVar 1)) (dCons (dCall (dBody N_product_lines.length t_product_lines) 4 (dCons (dAttr C.tab "prime" (dVar 0)) (dCons (dAttr C.tab "lines" (dVar 0)) (dCons (dAttr C.tab "lines" (dVar 1)) (dCons (dAttr C.tab "wide" (dVar 1)) dNil))))) dNil)))))))))
theorem okg_times (Z : ZZ P K mg base T) : FnB P w K mg base T d_times 6 ["one", "two"] (dBody N_times.length t_times) :=
  Z.toZk.fnB 17 rfl rfl rfl sc_times fun cdv A outer s H E B hcd hT hr => by
    subst hT
    exact (dss_cons (ds_expr (de_call (ok_need_two Z) (hr.mono (by decide)) (by rfl) (da_cons (de_var 0 (pv 0)) (da_cons (de_var 1 (pv 1)) da_nil))))
    (dss_cons (ds_if (dt_cmp (op_neD hr.u64) l_ne (de_attr (k := 0) Z.ats (hr.mono (by decide)) (de_var 0 (pv 0))) (de_attr (k := 0) Z.ats (hr.mono (by decide)) (de_var 1 (pv 1))) (by rfl)) (dss_one (ds_raise0 Z.ef_BadTable rfl (by rfl) (Z.g 8 rfl))) dss_nil)
    (dss_one (ds_ret (de_frz (df_make (ok_Table Z) (hr.mono (by decide)) (by rfl) (da_cons (de_attr (k := 0) Z.ats (hr.mono (by decide)) (de_var 0 (pv 0))) (da_cons (de_attr (k := 0) Z.ats (hr.mono (by decide)) (de_var 0 (pv 0))) (da_cons (de_attr (k := 0) Z.ats (hr.mono (by decide)) (de_var 1 (pv 1))) (da_cons (de_call (ok_product_lines Z) (hr.mono (by decide)) (by rfl) (da_cons (de_attr (k := 0) Z.ats (hr.mono (by decide)) (de_var 0 (pv 0))) (da_cons (de_attr (k := 0) Z.ats (hr.mono (by decide)) (de_var 0 (pv 0))) (da_cons (de_attr (k := 0) Z.ats (hr.mono (by decide)) (de_var 1 (pv 1))) (da_cons (de_attr (k := 0) Z.ats (hr.mono (by decide)) (de_var 1 (pv 1))) da_nil))))) da_nil))))))))))
theorem ok_times (Z : ZZ P K mg base T) : FnD P w K mg base T "times" 6 ["one", "two"] (dBody N_times.length t_times) := (okg_times Z).fnD (Z.g 14 rfl) (fun _ _ _ _ _ _ us hl => match us, hl with | [_, _], _ => rfl)
def t_plus : TDS := (dSeq (dExpr (dCall (dBody N_need_same_size.length t_need_same_size) 2 (dCons (dVar 0) (dCons (dVar 1) dNil))))
    (dSeq (dSetX 2 (dComp (dZipB (dCons (dAttr C.tab "lines" (dVar 0)) (dCons (dAttr C.tab "lines" (dVar 1)) dNil))) (gT 2 (gsCons (gN 3) (gsCons (gN 4) gsNil))) dYes (dFrz (dComp (dZipB (dCons (dVar 3) (dCons (dVar 4) dNil))) (gT 2 (gsCons (gN 5) (gsCons (gN 6) gsNil))) dYes (dFrz (f2 addF (dVar 5) (dVar 6))) [5, 6])) [3, 4]))
    (dRet (dFrz (fMake "Table" wi_Table 4 (dCons (dAttr C.tab "prime" (dVar 0)) (dCons (dAttr C.tab "tall" (dVar 0)) (dCons (dAttr C.tab "wide" (dVar 0)) (dCons (dVar 2) dNil)))))))))
theorem okg_plus (Z : ZZ P K mg base T) : FnB P w K mg base T d_plus 6 ["one", "two"] (dBody N_plus.length t_plus) :=
  Z.toZk.fnB 18 rfl rfl rfl sc_plus fun cdv A outer s H E B hcd hT hr => by
    subst hT
    exact (dss_cons (ds_expr (de_call (ok_need_same_size Z) (hr.mono (by decide)) (by rfl) (da_cons (de_var 0 (pv 0)) (da_cons (de_var 1 (pv 1)) da_nil))))
    (dss_cons (ds_comp (i := 2) (own := [("first", 3), ("second", 4)]) rfl sc_plus.nd rfl rfl (sw_true rfl rfl rfl (by decide +kernel)) (di_zipB (by rfl) (Z.f 8 rfl) (da_cons (de_attr (k := 0) Z.ats (hr.mono (by decide)) (de_var 0 (pv 0))) (da_cons (de_attr (k := 0) Z.ats (hr.mono (by decide)) (de_var 1 (pv 1))) da_nil))) (blkOk_by (by rfl)) (fun _ _ _ _ _ => (dg_tup rfl (dgs_cons (dg_name (i := 3) sc_plus.nd rfl (by first | exact Or.inl rfl | exact Or.inr rfl)) (dgs_cons (dg_name (i := 4) sc_plus.nd rfl (by first | exact Or.inl rfl | exact Or.inr rfl)) dgs_nil)))) (fun _ _ _ _ _ => dts_nil) (fun _ _ _ _ _ => (de_frz (df_comp (own := [("here", 5), ("there", 6)]) rfl sc_plus.nd (di_zipB (by rfl) (Z.f 8 rfl) (da_cons (de_var 3 (pv 3)) (da_cons (de_var 4 (pv 4)) da_nil))) (blkOk_by (by rfl)) (fun _ _ _ _ _ => (dg_tup rfl (dgs_cons (dg_name (i := 5) sc_plus.nd rfl (by first | exact Or.inl rfl | exact Or.inr rfl)) (dgs_cons (dg_name (i := 6) sc_plus.nd rfl (by first | exact Or.inl rfl | exact Or.inr rfl)) dgs_nil)))) (fun _ _ _ _ _ => dts_nil) (fun _ _ _ _ _ => (de_frz (df_add (de_var 5 (pv 5)) (de_var 6 (pv 6)))))))))
    (dss_one (ds_ret (de_frz (df_make (ok_Table Z) (hr.mono (by decide)) (by rfl) (da_cons (de_attr (k := 0) Z.ats (hr.mono (by decide)) (de_var 0 (pv 0))) (da_cons (de_attr (k := 0) Z.ats (hr.mono (by decide)) (de_var 0 (pv 0))) (da_cons (de_attr (k := 0) Z.ats (hr.mono (by decide)) (de_var 0 (pv 0))) (da_cons (de_var 2 (pv 2)) da_nil))))))))))
theorem ok_plus (Z : ZZ P K mg base T) : FnD P w K mg base T "plus" 6 ["one", "two"] (dBody N_plus.length t_plus) := (okg_plus Z).fnD (Z.g 15 rfl) (fun _ _ _ _ _ _ us hl => match us, hl with | [_, _], _ => rfl)
def t_minus : TDS := (dSeq (dExpr (dCall (dBody N_need_same_size.length t_need_same_size) 2 (dCons (dVar 0) (dCons (dVar 1) dNil))))
    (dSeq (dSetX 2 (dComp (dZipB (dCons (dAttr C.tab "lines" (dVar 0)) (dCons (dAttr C.tab "lines" (dVar 1)) dNil))) (gT 2 (gsCons (gN 3) (gsCons (gN 4) gsNil))) dYes (dFrz (dComp (dZipB (dCons (dVar 3) (dCons (dVar 4) dNil))) (gT 2 (gsCons (gN 5) (gsCons (gN 6) gsNil))) dYes (d2 subD (dVar 5) (dVar 6)) [5, 6])) [3, 4]))
    (dRet (dFrz (fMake "Table" wi_Table 4 (dCons (dAttr C.tab "prime" (dVar 0)) (dCons (dAttr C.tab "tall" (dVar 0)) (dCons (dAttr C.tab "wide" (dVar 0)) (dCons (dVar 2) dNil)))))))))
theorem okg_minus (Z : ZZ P K mg base T) : FnB P w K mg base T d_minus 6 ["one", "two"] (dBody N_minus.length t_minus) :=
  Z.toZk.fnB 19 rfl rfl rfl sc_minus fun cdv A outer s H E B hcd hT hr => by
    subst hT
    exact (dss_cons (ds_expr (de_call (ok_need_same_size Z) (hr.mono (by decide)) (by rfl) (da_cons (de_var 0 (pv 0)) (da_cons (de_var 1 (pv 1)) da_nil))))
    (dss_cons (ds_comp (i := 2) (own := [("first", 3), ("second", 4)]) rfl sc_minus.nd rfl rfl (sw_true rfl rfl rfl (by decide +kernel)) (di_zipB (by rfl) (Z.f 8 rfl) (da_cons (de_attr (k := 0) Z.ats (hr.mono (by decide)) (de_var 0 (pv 0))) (da_cons (de_attr (k := 0) Z.ats (hr.mono (by decide)) (de_var 1 (pv 1))) da_nil))) (blkOk_by (by rfl)) (fun _ _ _ _ _ => (dg_tup rfl (dgs_cons (dg_name (i := 3) sc_minus.nd rfl (by first | exact Or.inl rfl | exact Or.inr rfl)) (dgs_cons (dg_name (i := 4) sc_minus.nd rfl (by first | exact Or.inl rfl | exact Or.inr rfl)) dgs_nil)))) (fun _ _ _ _ _ => dts_nil) (fun _ _ _ _ _ => (de_frz (df_comp (own := [("here", 5), ("there", 6)]) rfl sc_minus.nd (di_zipB (by rfl) (Z.f 8 rfl) (da_cons (de_var 3 (pv 3)) (da_cons (de_var 4 (pv 4)) da_nil))) (blkOk_by (by rfl)) (fun _ _ _ _ _ => (dg_tup rfl (dgs_cons (dg_name (i := 5) sc_minus.nd rfl (by first | exact Or.inl rfl | exact Or.inr rfl)) (dgs_cons (dg_name (i := 6) sc_minus.nd rfl (by first | exact Or.inl rfl | exact Or.inr rfl)) dgs_nil)))) (fun _ _ _ _ _ => dts_nil) (fun _ _ _ _ _ => (de_sub (de_var 5 (pv 5)) (de_var 6 (pv 6))))))))
    (dss_one (ds_ret (de_frz (df_make (ok_Table Z) (hr.mono (by decide)) (by rfl) (da_cons (de_attr (k := 0) Z.ats (hr.mono (by decide)) (de_var 0 (pv 0))) (da_cons (de_attr (k := 0) Z.ats (hr.mono (by decide)) (de_var 0 (pv 0))) (da_cons (de_attr (k := 0) Z.ats (hr.mono (by decide)) (de_var 0 (pv 0))) (da_cons (de_var 2 (pv 2)) da_nil))))))))))
theorem ok_minus (Z : ZZ P K mg base T) : FnD P w K mg base T "minus" 6 ["one", "two"] (dBody N_minus.length t_minus) := (okg_minus Z).fnD (Z.g 16 rfl) (fun _ _ _ _ _ _ us hl => match us, hl with | [_, _], _ => rfl)
def t_scaled : TDS := (dSeq (dExpr (dCall (dBody N_need_table.length t_need_table) 1 (dCons (dVar 0) dNil)))
    (dSeq (dIfS (dNot (dTest (dCall (dBody N_is_number.length t_is_number) 1 (dCons (dVar 1) dNil)))) (dRaise "BadNumber" "part" (dC (.str "number"))) dNext)
    (dRet (dFrz (fMake "Table" wi_Table 4 (dCons (dAttr C.tab "prime" (dVar 0)) (dCons (dAttr C.tab "tall" (dVar 0)) (dCons (dAttr C.tab "wide" (dVar 0)) (dCons (dFrz (dComp (dSeqI (dAttr C.tab "lines" (dVar 0))) (gN 2) dYes (dFrz (dComp (dSeqI (dVar 2)) (gN 3) dYes (dFrz (f2 mulG (dVar 3) (dVar 1))) [3])) [2])) dNil)))))))))
theorem okg_scaled (Z : ZZ P K mg base T) : FnB P w K mg base T d_scaled 6 ["one", "number"] (dBody N_scaled.length t_scaled) :=
  Z.toZk.fnB 20 rfl rfl rfl sc_scaled fun cdv A outer s H E B hcd hT hr => by
    subst hT
    exact (dss_cons (ds_expr (de_call (ok_need_table Z) (hr.mono (by decide)) (by rfl) (da_cons (de_var 0 (pv 0)) da_nil)))
    (dss_cons (ds_if (dt_not (dt_val (de_call (ok_is_number Z) (hr.mono (by decide)) (by rfl) (da_cons (de_var 1 (pv 1)) da_nil)))) (dss_one (ds_raiseE (b := b_BadNumber) (x := "BadNumber") Z.su_BadNumber.su (by rfl) (hr.mono (by decide)) (Z.f 9 rfl) (by rfl) (Z.g 17 rfl) de_str)) dss_nil)
    (dss_one (ds_ret (de_frz (df_make (ok_Table Z) (hr.mono (by decide)) (by rfl) (da_cons (de_attr (k := 0) Z.ats (hr.mono (by decide)) (de_var 0 (pv 0))) (da_cons (de_attr (k := 0) Z.ats (hr.mono (by decide)) (de_var 0 (pv 0))) (da_cons (de_attr (k := 0) Z.ats (hr.mono (by decide)) (de_var 0 (pv 0))) (da_cons (de_frz (df_comp (own := [("first", 2)]) rfl sc_scaled.nd (di_seq (de_attr (k := 0) Z.ats (hr.mono (by decide)) (de_var 0 (pv 0)))) (blkOk_by (by rfl)) (fun _ _ _ _ _ => (dg_name (i := 2) sc_scaled.nd rfl (by first | exact Or.inl rfl | exact Or.inr rfl))) (fun _ _ _ _ _ => dts_nil) (fun _ _ _ _ _ => (de_frz (df_comp (own := [("item", 3)]) rfl sc_scaled.nd (di_seq (de_var 2 (pv 2))) (blkOk_by (by rfl)) (fun _ _ _ _ _ => (dg_name (i := 3) sc_scaled.nd rfl (by first | exact Or.inl rfl | exact Or.inr rfl))) (fun _ _ _ _ _ => dts_nil) (fun _ _ _ _ _ => (de_frz (df_mulG (de_var 3 (pv 3)) (de_var 1 (pv 1)))))))))) da_nil))))))))))
theorem ok_scaled (Z : ZZ P K mg base T) : FnD P w K mg base T "scaled" 6 ["one", "number"] (dBody N_scaled.length t_scaled) := (okg_scaled Z).fnD (Z.g 18 rfl) (fun _ _ _ _ _ _ us hl => match us, hl with | [_, _], _ => rfl)
def t_plain : TDS := (dSeq (dExpr (dCall (dBody N_need_prime.length t_need_prime) 1 (dCons (dVar 0) dNil)))
    (dSeq (dIfS (dNot (dTest (dCall (dBody N_is_between.length t_is_between) 3 (dCons (dVar 1) (dCons (dC (.int 0)) (dCons (dC (.int 60)) dNil)))))) (dRaise "BadNumber" "part" (dC (.str "size"))) dNext)
    (dRet (dFrz (fMake "Table" wi_Table 4 (dCons (dVar 0) (dCons (dVar 1) (dCons (dVar 1) (dCons (dFrz (dComp (dRange1 (dCons (dVar 1) dNil)) (gN 2) dYes (dFrz (dComp (dRange1 (dCons (dVar 1) dNil)) (gN 3) dYes (dCB intD (dCons (d2 eqD (dVar 2) (dVar 3)) dNil)) [3])) [2])) dNil)))))))))
theorem okg_plain (Z : ZZ P K mg base T) : FnB P w K mg base T d_plain 6 ["prime", "size"] (dBody N_plain.length t_plain) :=
  Z.toZk.fnB 21 rfl rfl rfl sc_plain fun cdv A outer s H E B hcd hT hr => by
    subst hT
    exact (dss_cons (ds_expr (de_call (ok_need_prime Z) (hr.mono (by decide)) (by rfl) (da_cons (de_var 0 (pv 0)) da_nil)))
    (dss_cons (ds_if (dt_not (dt_val (de_call (ok_is_between Z) (hr.mono (by decide)) (by rfl) (da_cons (de_var 1 (pv 1)) (da_cons de_int (da_cons (de_gint (by rfl) (Z.n 0 rfl)) da_nil)))))) (dss_one (ds_raiseE (b := b_BadNumber) (x := "BadNumber") Z.su_BadNumber.su (by rfl) (hr.mono (by decide)) (Z.f 9 rfl) (by rfl) (Z.g 17 rfl) de_str)) dss_nil)
    (dss_one (ds_ret (de_frz (df_make (ok_Table Z) (hr.mono (by decide)) (by rfl) (da_cons (de_var 0 (pv 0)) (da_cons (de_var 1 (pv 1)) (da_cons (de_var 1 (pv 1)) (da_cons (de_frz (df_comp (own := [("k", 2)]) rfl sc_plain.nd (di_range1 (by rfl) (Z.f 10 rfl) (da_cons (de_var 1 (pv 1)) da_nil)) (blkOk_by (by rfl)) (fun _ _ _ _ _ => (dg_name (i := 2) sc_plain.nd rfl (by first | exact Or.inl rfl | exact Or.inr rfl))) (fun _ _ _ _ _ => dts_nil) (fun _ _ _ _ _ => (de_frz (df_comp (own := [("spot", 3)]) rfl sc_plain.nd (di_range1 (by rfl) (Z.f 10 rfl) (da_cons (de_var 1 (pv 1)) da_nil)) (blkOk_by (by rfl)) (fun _ _ _ _ _ => (dg_name (i := 3) sc_plain.nd rfl (by first | exact Or.inl rfl | exact Or.inr rfl))) (fun _ _ _ _ _ => dts_nil) (fun _ _ _ _ _ => (de_callTy call_int1 lc_int (by rfl) (Z.f 0 rfl) bt_int (da_cons (de_cmp (op_eqD hr.u64) l_eq (de_var 2 (pv 2)) (de_var 3 (pv 3)) (by rfl)) da_nil)))))))) da_nil))))))))))
theorem ok_plain (Z : ZZ P K mg base T) : FnD P w K mg base T "plain" 6 ["prime", "size"] (dBody N_plain.length t_plain) := (okg_plain Z).fnD (Z.g 19 rfl) (fun _ _ _ _ _ _ us hl => match us, hl with | [_, _], _ => rfl)
def t_empty : TDS := (dSeq (dExpr (dCall (dBody N_need_prime.length t_need_prime) 1 (dCons (dVar 0) dNil)))
    (dSeq (dIfS (dNot (dTest (dCall (dBody N_is_between.length t_is_between) 3 (dCons (dVar 1) (dCons (dC (.int 0)) (dCons (dC (.int 60)) dNil)))))) (dRaise "BadNumber" "part" (dC (.str "tall"))) dNext)
    (dSeq (dIfS (dNot (dTest (dCall (dBody N_is_between.length t_is_between) 3 (dCons (dVar 2) (dCons (dC (.int 0)) (dCons (dC (.int 60)) dNil)))))) (dRaise "BadNumber" "part" (dC (.str "wide"))) dNext)
    (dRet (dFrz (fMake "Table" wi_Table 4 (dCons (dVar 0) (dCons (dVar 1) (dCons (dVar 2) (dCons (dFrz (dComp (dRange1 (dCons (dVar 1) dNil)) (gN 3) dYes (dFrz (f2 mulG (dLst (dCons (dC (.int 0)) dNil)) (dVar 2))) [3])) dNil))))))))))
theorem okg_empty (Z : ZZ P K mg base T) : FnB P w K mg base T d_empty 6 ["prime", "tall", "wide"] (dBody N_empty.length t_empty) :=
  Z.toZk.fnB 22 rfl rfl rfl sc_empty fun cdv A outer s H E B hcd hT hr => by
    subst hT
    exact (dss_cons (ds_expr (de_call (ok_need_prime Z) (hr.mono (by decide)) (by rfl) (da_cons (de_var 0 (pv 0)) da_nil)))
    (dss_cons (ds_if (dt_not (dt_val (de_call (ok_is_between Z) (hr.mono (by decide)) (by rfl) (da_cons (de_var 1 (pv 1)) (da_cons de_int (da_cons (de_gint (by rfl) (Z.n 0 rfl)) da_nil)))))) (dss_one (ds_raiseE (b := b_BadNumber) (x := "BadNumber") Z.su_BadNumber.su (by rfl) (hr.mono (by decide)) (Z.f 9 rfl) (by rfl) (Z.g 17 rfl) de_str)) dss_nil)
    (dss_cons (ds_if (dt_not (dt_val (de_call (ok_is_between Z) (hr.mono (by decide)) (by rfl) (da_cons (de_var 2 (pv 2)) (da_cons de_int (da_cons (de_gint (by rfl) (Z.n 0 rfl)) da_nil)))))) (dss_one (ds_raiseE (b := b_BadNumber) (x := "BadNumber") Z.su_BadNumber.su (by rfl) (hr.mono (by decide)) (Z.f 9 rfl) (by rfl) (Z.g 17 rfl) de_str)) dss_nil)
    (dss_one (ds_ret (de_frz (df_make (ok_Table Z) (hr.mono (by decide)) (by rfl) (da_cons (de_var 0 (pv 0)) (da_cons (de_var 1 (pv 1)) (da_cons (de_var 2 (pv 2)) (da_cons (de_frz (df_comp (own := [("k", 3)]) rfl sc_empty.nd (di_range1 (by rfl) (Z.f 10 rfl) (da_cons (de_var 1 (pv 1)) da_nil)) (blkOk_by (by rfl)) (fun _ _ _ _ _ => (dg_name (i := 3) sc_empty.nd rfl (by first | exact Or.inl rfl | exact Or.inr rfl))) (fun _ _ _ _ _ => dts_nil) (fun _ _ _ _ _ => (de_frz (df_mulG (de_lst (da_cons de_int da_nil)) (de_var 2 (pv 2))))))) da_nil)))))))))))
theorem ok_empty (Z : ZZ P K mg base T) : FnD P w K mg base T "empty" 6 ["prime", "tall", "wide"] (dBody N_empty.length t_empty) := (okg_empty Z).fnD (Z.g 20 rfl) (fun _ _ _ _ _ _ us hl => match us, hl with | [_, _, _], _ => rfl)
def t_across : TDS := (dSeq (dExpr (dCall (dBody N_need_table.length t_need_table) 1 (dCons (dVar 0) dNil)))
    (dSeq (dSetX 1 (dComp (dRange1 (dCons (dAttr C.tab "wide" (dVar 0)) dNil)) (gN 2) dYes (dFrz (dComp (dSeqI (dAttr C.tab "lines" (dVar 0))) (gN 3) dYes (d2 ixD (dVar 3) (dVar 2)) [3])) [2]))
    (dRet (dFrz (fMake "Table" wi_Table 4 (dCons (dAttr C.tab "prime" (dVar 0)) (dCons (dAttr C.tab "wide" (dVar 0)) (dCons (dAttr C.tab "tall" (dVar 0)) (dCons (dVar 1) dNil)))))))))
theorem okg_across (Z : ZZ P K mg base T) : FnB P w K mg base T d_across 6 ["one"] (dBody N_across.length t_across) :=
  Z.toZk.fnB 23 rfl rfl rfl sc_across fun cdv A outer s H E B hcd hT hr => by
    subst hT
    exact (dss_cons (ds_expr (de_call (ok_need_table Z) (hr.mono (by decide)) (by rfl) (da_cons (de_var 0 (pv 0)) da_nil)))
    (dss_cons (ds_comp (i := 1) (own := [("spot", 2)]) rfl sc_across.nd rfl rfl (sw_true rfl rfl rfl (by decide +kernel)) (di_range1 (by rfl) (Z.f 10 rfl) (da_cons (de_attr (k := 0) Z.ats (hr.mono (by decide)) (de_var 0 (pv 0))) da_nil)) (blkOk_by (by rfl)) (fun _ _ _ _ _ => (dg_name (i := 2) sc_across.nd rfl (by first | exact Or.inl rfl | exact Or.inr rfl))) (fun _ _ _ _ _ => dts_nil) (fun _ _ _ _ _ => (de_frz (df_comp (own := [("first", 3)]) rfl sc_across.nd (di_seq (de_attr (k := 0) Z.ats (hr.mono (by decide)) (de_var 0 (pv 0)))) (blkOk_by (by rfl)) (fun _ _ _ _ _ => (dg_name (i := 3) sc_across.nd rfl (by first | exact Or.inl rfl | exact Or.inr rfl))) (fun _ _ _ _ _ => dts_nil) (fun _ _ _ _ _ => (de_ix (ix_all hr.u1) l_ix (de_var 3 (pv 3)) (de_var 2 (pv 2)) (by intro _ _; rfl)))))))
    (dss_one (ds_ret (de_frz (df_make (ok_Table Z) (hr.mono (by decide)) (by rfl) (da_cons (de_attr (k := 0) Z.ats (hr.mono (by decide)) (de_var 0 (pv 0))) (da_cons (de_attr (k := 0) Z.ats (hr.mono (by decide)) (de_var 0 (pv 0))) (da_cons (de_attr (k := 0) Z.ats (hr.mono (by decide)) (de_var 0 (pv 0))) (da_cons (de_var 1 (pv 1)) da_nil))))))))))
theorem ok_across (Z : ZZ P K mg base T) : FnD P w K mg base T "across" 6 ["one"] (dBody N_across.length t_across) := (okg_across Z).fnD (Z.g 21 rfl) (fun _ _ _ _ _ _ us hl => match us, hl with | [_], _ => rfl)
def t_need_tables : TDS := (dSeq (dIfS (dOr (dNot (dTest (dCall (dBody N_is_list.length t_is_list) 1 (dCons (dVar 0) dNil)))) (dTest (d2 eqD (dCB lenD (dCons (dVar 0) dNil)) (dC (.int 0))))) (dRaise0 "BadTable") dNext)
    (dFor (dSeqI (dVar 0)) (gN 1) (dExpr (dCall (dBody N_need_two.length t_need_two) 2 (dCons (d2 ixD (dVar 0) (dC (.int 0))) (dCons (dVar 1) dNil))))))
theorem okg_need_tables (Z : ZZ P K mg base T) : FnB P w K mg base T d_need_tables 4 ["tables"] (dBody N_need_tables.length t_need_tables) :=
  Z.toZk.fnB 24 rfl rfl rfl sc_need_tables fun cdv A outer s H E B hcd hT hr => by
    subst hT
    exact (dss_cons (ds_if (DWh.dt (dw_or (dt_not (dt_val (de_call (ok_is_list Z) (hr.mono (by decide)) (by rfl) (da_cons (de_var 0 (pv 0)) da_nil)))) (dw_or1 (dt_cmp (op_eqD hr.u64) l_eq (de_callB call_lenA lc_len (by rfl) (Z.f 5 rfl) bt_len (da_cons (de_var 0 (pv 0)) da_nil)) de_int (by rfl))))) (dss_one (ds_raise0 Z.ef_BadTable rfl (by rfl) (Z.g 8 rfl))) dss_nil)
    (dss_one (ds_for (passes_of rfl) rfl (di_seq (de_var 0 (pv 0))) (dg_name (i := 1) sc_need_tables.nd rfl (by first | exact Or.inl rfl | exact Or.inr rfl)) (dss_one (ds_expr (de_call (ok_need_two Z) (hr.mono (by decide)) (by rfl) (da_cons (de_ix (ix_all hr.u1) l_ix (de_var 0 (pv 0)) de_int (by intro _ _; rfl)) (da_cons (de_var 1 (pv 1)) da_nil))))))))
theorem ok_need_tables (Z : ZZ P K mg base T) : FnD P w K mg base T "need_tables" 4 ["tables"] (dBody N_need_tables.length t_need_tables) := (okg_need_tables Z).fnD (Z.g 22 rfl) (fun _ _ _ _ _ _ us hl => match us, hl with | [_], _ => rfl)
def t_beside : TDS := (dSeq (dExpr (dCall (dBody N_need_tables.length t_need_tables) 1 (dCons (dVar 0) dNil)))
    (dSeq (dIfS (dOr (dTest (dCB (onL anyL) (dCons (dFrz (dComp (dSeqI (dVar 0)) (gN 1) dYes (d2 neD (dAttr C.tab "tall" (dVar 1)) (dAttr C.tab "tall" (d2 ixD (dVar 0) (dC (.int 0))))) [1])) dNil))) (dTest (d2 gtD (dCB (onL sumL) (dCons (dFrz (dComp (dSeqI (dVar 0)) (gN 1) dYes (dAttr C.tab "wide" (dVar 1)) [1])) dNil)) (dC (.int 60))))) (dRaise0 "BadTable") dNext)
    (dSeq (dSetX 2 (dComp (dRange1 (dCons (dAttr C.tab "tall" (d2 ixD (dVar 0) (dC (.int 0)))) dNil)) (gN 3) dYes (dFrz (dComp2 (dSeqI (dVar 0)) (gN 1) (d2 ixD (dAttr C.tab "lines" (dVar 1)) (dVar 3)) (gN 4) (dVar 4) [1] [4])) [3]))
    (dRet (dFrz (fMake "Table" wi_Table 4 (dCons (dAttr C.tab "prime" (d2 ixD (dVar 0) (dC (.int 0)))) (dCons (dAttr C.tab "tall" (d2 ixD (dVar 0) (dC (.int 0)))) (dCons (dCB (onL sumL) (dCons (dFrz (dComp (dSeqI (dVar 0)) (gN 1) dYes (dAttr C.tab "wide" (dVar 1)) [1])) dNil)) (dCons (dVar 2) dNil))))))))))
theorem okg_beside (Z : ZZ P K mg base T) : FnB P w K mg base T d_beside 6 ["tables"] (dBody N_beside.length t_beside) :=
  Z.toZk.fnB 25 rfl rfl rfl sc_beside fun cdv A outer s H E B hcd hT hr => by
    subst hT
    exact (dss_cons (ds_expr (de_call (ok_need_tables Z) (hr.mono (by decide)) (by rfl) (da_cons (de_var 0 (pv 0)) da_nil)))
    (dss_cons (ds_if (DWh.dt (dw_or (dt_val (de_callB (cr_any (by rfl)) lc_any (by rfl) (Z.f 11 rfl) bt_any (da_cons (de_frz (df_comp (own := [("one", 1)]) rfl sc_beside.nd (di_seq (de_var 0 (pv 0))) (blkOk_by (by rfl)) (fun _ _ _ _ _ => (dg_name (i := 1) sc_beside.nd rfl (by first | exact Or.inl rfl | exact Or.inr rfl))) (fun _ _ _ _ _ => dts_nil) (fun _ _ _ _ _ => (de_cmp (op_neD hr.u64) l_ne (de_attr (k := 0) Z.ats (hr.mono (by decide)) (de_var 1 (pv 1))) (de_attr (k := 0) Z.ats (hr.mono (by decide)) (de_ix (ix_all hr.u1) l_ix (de_var 0 (pv 0)) de_int (by intro _ _; rfl))) (by rfl))))) da_nil))) (dw_or1 (dt_cmp op_gt l_gt (de_callB (cr_sum (by rfl)) lc_sum (by rfl) (Z.f 12 rfl) bt_sum (da_cons (de_frz (df_comp (own := [("one", 1)]) rfl sc_beside.nd (di_seq (de_var 0 (pv 0))) (blkOk_by (by rfl)) (fun _ _ _ _ _ => (dg_name (i := 1) sc_beside.nd rfl (by first | exact Or.inl rfl | exact Or.inr rfl))) (fun _ _ _ _ _ => dts_nil) (fun _ _ _ _ _ => (de_attr (k := 0) Z.ats (hr.mono (by decide)) (de_var 1 (pv 1)))))) da_nil)) (de_gint (by rfl) (Z.n 0 rfl)) (by rfl))))) (dss_one (ds_raise0 Z.ef_BadTable rfl (by rfl) (Z.g 8 rfl))) dss_nil)
    (dss_cons (ds_comp (i := 2) (own := [("k", 3)]) rfl sc_beside.nd rfl rfl (sw_true rfl rfl rfl (by decide +kernel)) (di_range1 (by rfl) (Z.f 10 rfl) (da_cons (de_attr (k := 0) Z.ats (hr.mono (by decide)) (de_ix (ix_all hr.u1) l_ix (de_var 0 (pv 0)) de_int (by intro _ _; rfl))) da_nil)) (blkOk_by (by rfl)) (fun _ _ _ _ _ => (dg_name (i := 3) sc_beside.nd rfl (by first | exact Or.inl rfl | exact Or.inr rfl))) (fun _ _ _ _ _ => dts_nil) (fun _ _ _ _ _ => (de_frz (df_comp2 (own := [("one", 1), ("item", 4)]) (v1 := [1]) (v2 := [4]) rfl sc_beside.nd (di_seq (de_var 0 (pv 0))) (blkOk_by (by rfl)) rfl (by decide) (fun _ _ _ _ _ => (dg_name (i := 1) sc_beside.nd rfl (by first | exact Or.inl rfl | exact Or.inr rfl))) (fun _ _ _ _ _ => (de_ix (ix_all hr.u1) l_ix (de_attr (k := 0) Z.ats (hr.mono (by decide)) (de_var 1 (pv 1))) (de_var 3 (pv 3)) (by intro _ _; rfl))) (fun _ _ _ _ _ => (dg_name (i := 4) sc_beside.nd rfl (by first | exact Or.inl rfl | exact Or.inr rfl))) (fun _ _ _ _ _ => (de_var 4 (pv 4)))))))
    (dss_one (ds_ret (de_frz (df_make (ok_Table Z) (hr.mono (by decide)) (by rfl) (da_cons (de_attr (k := 0) Z.ats (hr.mono (by decide)) (de_ix (ix_all hr.u1) l_ix (de_var 0 (pv 0)) de_int (by intro _ _; rfl))) (da_cons (de_attr (k := 0) Z.ats (hr.mono (by decide)) (de_ix (ix_all hr.u1) l_ix (de_var 0 (pv 0)) de_int (by intro _ _; rfl))) (da_cons (de_callB (cr_sum (by rfl)) lc_sum (by rfl) (Z.f 12 rfl) bt_sum (da_cons (de_frz (df_comp (own := [("one", 1)]) rfl sc_beside.nd (di_seq (de_var 0 (pv 0))) (blkOk_by (by rfl)) (fun _ _ _ _ _ => (dg_name (i := 1) sc_beside.nd rfl (by first | exact Or.inl rfl | exact Or.inr rfl))) (fun _ _ _ _ _ => dts_nil) (fun _ _ _ _ _ => (de_attr (k := 0) Z.ats (hr.mono (by decide)) (de_var 1 (pv 1)))))) da_nil)) (da_cons (de_var 2 (pv 2)) da_nil)))))))))))
theorem ok_beside (Z : ZZ P K mg base T) : FnD P w K mg base T "beside" 6 ["tables"] (dBody N_beside.length t_beside) := (okg_beside Z).fnD (Z.g 23 rfl) (fun _ _ _ _ _ _ us hl => match us, hl with | [_], _ => rfl)
def t_over : TDS := (dSeq (dExpr (dCall (dBody N_need_tables.length t_need_tables) 1 (dCons (dVar 0) dNil)))
    (dSeq (dIfS (dOr (dTest (dCB (onL anyL) (dCons (dFrz (dComp (dSeqI (dVar 0)) (gN 1) dYes (d2 neD (dAttr C.tab "wide" (dVar 1)) (dAttr C.tab "wide" (d2 ixD (dVar 0) (dC (.int 0))))) [1])) dNil))) (dTest (d2 gtD (dCB (onL sumL) (dCons (dFrz (dComp (dSeqI (dVar 0)) (gN 1) dYes (dAttr C.tab "tall" (dVar 1)) [1])) dNil)) (dC (.int 60))))) (dRaise0 "BadTable") dNext)
    (dSeq (dSetX 2 (dComp2 (dSeqI (dVar 0)) (gN 1) (dAttr C.tab "lines" (dVar 1)) (gN 3) (dVar 3) [1] [3]))
    (dRet (dFrz (fMake "Table" wi_Table 4 (dCons (dAttr C.tab "prime" (d2 ixD (dVar 0) (dC (.int 0)))) (dCons (dCB (onL sumL) (dCons (dFrz (dComp (dSeqI (dVar 0)) (gN 1) dYes (dAttr C.tab "tall" (dVar 1)) [1])) dNil)) (dCons (dAttr C.tab "wide" (d2 ixD (dVar 0) (dC (.int 0)))) (dCons (dVar 2) dNil))))))))))
theorem okg_over (Z : ZZ P K mg base T) : FnB P w K mg base T d_over 6 ["tables"] (dBody N_over.length t_over) :=
  Z.toZk.fnB 26 rfl rfl rfl sc_over fun cdv A outer s H E B hcd hT hr => by
    subst hT
    exact (dss_cons (ds_expr (de_call (ok_need_tables Z) (hr.mono (by decide)) (by rfl) (da_cons (de_var 0 (pv 0)) da_nil)))
    (dss_cons (ds_if (DWh.dt (dw_or (dt_val (de_callB (cr_any (by rfl)) lc_any (by rfl) (Z.f 11 rfl) bt_any (da_cons (de_frz (df_comp (own := [("one", 1)]) rfl sc_over.nd (di_seq (de_var 0 (pv 0))) (blkOk_by (by rfl)) (fun _ _ _ _ _ => (dg_name (i := 1) sc_over.nd rfl (by first | exact Or.inl rfl | exact Or.inr rfl))) (fun _ _ _ _ _ => dts_nil) (fun _ _ _ _ _ => (de_cmp (op_neD hr.u64) l_ne (de_attr (k := 0) Z.ats (hr.mono (by decide)) (de_var 1 (pv 1))) (de_attr (k := 0) Z.ats (hr.mono (by decide)) (de_ix (ix_all hr.u1) l_ix (de_var 0 (pv 0)) de_int (by intro _ _; rfl))) (by rfl))))) da_nil))) (dw_or1 (dt_cmp op_gt l_gt (de_callB (cr_sum (by rfl)) lc_sum (by rfl) (Z.f 12 rfl) bt_sum (da_cons (de_frz (df_comp (own := [("one", 1)]) rfl sc_over.nd (di_seq (de_var 0 (pv 0))) (blkOk_by (by rfl)) (fun _ _ _ _ _ => (dg_name (i := 1) sc_over.nd rfl (by first | exact Or.inl rfl | exact Or.inr rfl))) (fun _ _ _ _ _ => dts_nil) (fun _ _ _ _ _ => (de_attr (k := 0) Z.ats (hr.mono (by decide)) (de_var 1 (pv 1)))))) da_nil)) (de_gint (by rfl) (Z.n 0 rfl)) (by rfl))))) (dss_one (ds_raise0 Z.ef_BadTable rfl (by rfl) (Z.g 8 rfl))) dss_nil)
    (dss_cons (ds_comp2 (i := 2) (own := [("one", 1), ("first", 3)]) (v1 := [1]) (v2 := [3]) rfl sc_over.nd rfl rfl (sw_true rfl rfl rfl (by decide +kernel)) (di_seq (de_var 0 (pv 0))) (blkOk_by (by rfl)) rfl (by decide) (fun _ _ _ _ _ => (dg_name (i := 1) sc_over.nd rfl (by first | exact Or.inl rfl | exact Or.inr rfl))) (fun _ _ _ _ _ => (de_attr (k := 0) Z.ats (hr.mono (by decide)) (de_var 1 (pv 1)))) (fun _ _ _ _ _ => (dg_name (i := 3) sc_over.nd rfl (by first | exact Or.inl rfl | exact Or.inr rfl))) (fun _ _ _ _ _ => (de_var 3 (pv 3))))
    (dss_one (ds_ret (de_frz (df_make (ok_Table Z) (hr.mono (by decide)) (by rfl) (da_cons (de_attr (k := 0) Z.ats (hr.mono (by decide)) (de_ix (ix_all hr.u1) l_ix (de_var 0 (pv 0)) de_int (by intro _ _; rfl))) (da_cons (de_callB (cr_sum (by rfl)) lc_sum (by rfl) (Z.f 12 rfl) bt_sum (da_cons (de_frz (df_comp (own := [("one", 1)]) rfl sc_over.nd (di_seq (de_var 0 (pv 0))) (blkOk_by (by rfl)) (fun _ _ _ _ _ => (dg_name (i := 1) sc_over.nd rfl (by first | exact Or.inl rfl | exact Or.inr rfl))) (fun _ _ _ _ _ => dts_nil) (fun _ _ _ _ _ => (de_attr (k := 0) Z.ats (hr.mono (by decide)) (de_var 1 (pv 1)))))) da_nil)) (da_cons (de_attr (k := 0) Z.ats (hr.mono (by decide)) (de_ix (ix_all hr.u1) l_ix (de_var 0 (pv 0)) de_int (by intro _ _; rfl))) (da_cons (de_var 2 (pv 2)) da_nil)))))))))))
theorem ok_over (Z : ZZ P K mg base T) : FnD P w K mg base T "over" 6 ["tables"] (dBody N_over.length t_over) := (okg_over Z).fnD (Z.g 24 rfl) (fun _ _ _ _ _ _ us hl => match us, hl with | [_], _ => rfl)
def t_corner : TDS := (dSeq (dExpr (dCall (dBody N_need_tables.length t_need_tables) 1 (dCons (dVar 0) dNil)))
    (dSeq (dPar 1 2 (dSh (dCB (onL sumL) (dCons (dFrz (dComp (dSeqI (dVar 0)) (gN 3) dYes (dAttr C.tab "tall" (dVar 3)) [3])) dNil))) (dSh (dCB (onL sumL) (dCons (dFrz (dComp (dSeqI (dVar 0)) (gN 3) dYes (dAttr C.tab "wide" (dVar 3)) [3])) dNil))))
    (dSeq (dIfS (dOr (dTest (d2 gtD (dVar 1) (dC (.int 60)))) (dTest (d2 gtD (dVar 2) (dC (.int 60))))) (dRaise0 "BadTable") dNext)
    (dSeq (dPar 4 5 (dLstF dNil) (dSh (dC (.int 0))))
    (dSeq (dFor (dSeqI (dVar 0)) (gN 3) (dSeq (dFor (dSeqI (dAttr C.tab "lines" (dVar 3))) (gN 6) (dExpr (dMut 4 "list" mAppend (dCons (dFrz (f2 addF (dFrz (f2 addF (dFrz (f2 mulG (dLst (dCons (dC (.int 0)) dNil)) (dVar 5))) (dFrz (fCB listF (dCons (dVar 6) dNil))))) (dFrz (f2 mulG (dLst (dCons (dC (.int 0)) dNil)) (d2 subD (d2 subD (dVar 2) (dVar 5)) (dAttr C.tab "wide" (dVar 3))))))) dNil))))
    (dSet 5 (dFrz (f2 addF (dVar 5) (dAttr C.tab "wide" (dVar 3)))))))
    (dRet (dFrz (fMake "Table" wi_Table 4 (dCons (dAttr C.tab "prime" (d2 ixD (dVar 0) (dC (.int 0)))) (dCons (dVar 1) (dCons (dVar 2) (dCons (dVar 4) dNil))))))))))))
theorem okg_corner (Z : ZZ P K mg base T) : FnB P w K mg base T d_corner 6 ["tables"] (dBody N_corner.length t_corner) :=
  Z.toZk.fnB 27 rfl rfl rfl sc_corner fun cdv A outer s H E B hcd hT hr => by
    subst hT
    exact (dss_cons (ds_expr (de_call (ok_need_tables Z) (hr.mono (by decide)) (by rfl) (da_cons (de_var 0 (pv 0)) da_nil)))
    (dss_cons (ds_par (i := 1) (j := 2) rfl sc_corner.nd rfl rfl (by decide) rfl rfl (df_sh (de_callB (cr_sum (by rfl)) lc_sum (by rfl) (Z.f 12 rfl) bt_sum (da_cons (de_frz (df_comp (own := [("one", 3)]) rfl sc_corner.nd (di_seq (de_var 0 (pv 0))) (blkOk_by (by rfl)) (fun _ _ _ _ _ => (dg_name (i := 3) sc_corner.nd rfl (by first | exact Or.inl rfl | exact Or.inr rfl))) (fun _ _ _ _ _ => dts_nil) (fun _ _ _ _ _ => (de_attr (k := 0) Z.ats (hr.mono (by decide)) (de_var 3 (pv 3)))))) da_nil))) (df_sh (de_callB (cr_sum (by rfl)) lc_sum (by rfl) (Z.f 12 rfl) bt_sum (da_cons (de_frz (df_comp (own := [("one", 3)]) rfl sc_corner.nd (di_seq (de_var 0 (pv 0))) (blkOk_by (by rfl)) (fun _ _ _ _ _ => (dg_name (i := 3) sc_corner.nd rfl (by first | exact Or.inl rfl | exact Or.inr rfl))) (fun _ _ _ _ _ => dts_nil) (fun _ _ _ _ _ => (de_attr (k := 0) Z.ats (hr.mono (by decide)) (de_var 3 (pv 3)))))) da_nil))) (by rfl))
    (dss_cons (ds_if (DWh.dt (dw_or (dt_cmp op_gt l_gt (de_var 1 (pv 1)) (de_gint (by rfl) (Z.n 0 rfl)) (by rfl)) (dw_or1 (dt_cmp op_gt l_gt (de_var 2 (pv 2)) (de_gint (by rfl) (Z.n 0 rfl)) (by rfl))))) (dss_one (ds_raise0 Z.ef_BadTable rfl (by rfl) (Z.g 8 rfl))) dss_nil)
    (dss_cons (ds_par (i := 4) (j := 5) rfl sc_corner.nd rfl rfl (by decide) rfl rfl (df_lst da_nil) (df_sh de_int) (by rfl))
    (dss_cons (ds_for (passes_of rfl) rfl (di_seq (de_var 0 (pv 0))) (dg_name (i := 3) sc_corner.nd rfl (by first | exact Or.inl rfl | exact Or.inr rfl)) (dss_cons (ds_for (passes_of rfl) rfl (di_seq (de_attr (k := 0) Z.ats (hr.mono (by decide)) (de_var 3 (pv 3)))) (dg_name (i := 6) sc_corner.nd rfl (by first | exact Or.inl rfl | exact Or.inr rfl)) (dss_one (ds_expr (de_mut (i := 4) (by decide) PySem.F.plainAttrs_list PySem.F.slot_list_append PySem.F.type_list_append mt_append mop_append (pv 4) (show 4 < N_corner.length by decide) (da_cons (de_frz (df_add (de_frz (df_add (de_frz (df_mulG (de_lst (da_cons de_int da_nil)) (de_var 5 (pv 5)))) (de_frz (df_callTy call_list_of lf_list (by rfl) (Z.f 3 rfl) bt_list (da_cons (de_var 6 (pv 6)) da_nil))))) (de_frz (df_mulG (de_lst (da_cons de_int da_nil)) (de_sub (de_sub (de_var 2 (pv 2)) (de_var 5 (pv 5))) (de_attr (k := 0) Z.ats (hr.mono (by decide)) (de_var 3 (pv 3)))))))) da_nil)))))
    (dss_one (ds_set sc_corner.nd (i := 5) rfl (by first | exact Or.inl rfl | exact Or.inr rfl) (de_frz (df_add (de_var 5 (pv 5)) (de_attr (k := 0) Z.ats (hr.mono (by decide)) (de_var 3 (pv 3)))))))))
    (dss_one (ds_ret (de_frz (df_make (ok_Table Z) (hr.mono (by decide)) (by rfl) (da_cons (de_attr (k := 0) Z.ats (hr.mono (by decide)) (de_ix (ix_all hr.u1) l_ix (de_var 0 (pv 0)) de_int (by intro _ _; rfl))) (da_cons (de_var 1 (pv 1)) (da_cons (de_var 2 (pv 2)) (da_cons (de_var 4 (pv 4)) da_nil)))))))))))))
theorem ok_corner (Z : ZZ P K mg base T) : FnD P w K mg base T "corner" 6 ["tables"] (dBody N_corner.length t_corner) := (okg_corner Z).fnD (Z.g 25 rfl) (fun _ _ _ _ _ _ us hl => match us, hl with | [_], _ => rfl)
def t__law_mixed : TDS := (dSeq (dDrwP 0 (dFrz (f2 addF (dDrw 0) (dC (.int 1)))))
    (dSeq (dPar 1 2 (dSh (dCB intD (dCons (dDrw 0) dNil))) (dSh (dC (.int 0))))
    (dSeq (dFor (dSeqI (dLst (dCons (dC (.int 2147483629)) (dCons (dC (.int 2147483587)) (dCons (dC (.int 2147483579)) dNil))))) (gN 3) (dSeq (dSet 4 (d2 modD (dFrz (f2 addF (dFrz (f2 mulF (dVar 1) (dC (.int 69621)))) (d2 fdivD (dVar 3) (dC (.int 7))))) (dVar 3)))
    (dSeq (dFor (dDrwI 0) (gN 5) (dSet 4 (d2 modD (dFrz (f2 addF (dFrz (f2 mulF (dVar 4) (dC (.int 48271)))) (dCB intD (dCons (dVar 5) dNil)))) (dVar 3))))
    (dSet 2 (dFrz (f2 addF (dFrz (f2 mulF (dVar 2) (dC (.int 2147483647)))) (d2 modD (d2 powD (dVar 4) (dC (.int 5))) (dVar 3))))))))
    (dRet (dVar 2)))))
theorem okg__law_mixed (Z : ZZ P K mg base T) : FnB P w K mg base T d__law_mixed 1 ["_law_draw"] (dBody N__law_mixed.length t__law_mixed) :=
  Z.toZk.fnB 28 rfl rfl rfl sc__law_mixed fun cdv A outer s H E B hcd hT hr => by
    subst hT
    exact (dss_cons (ds_drwT (i := 0) hr.u1 (pv 0) (de_frz (df_add (de_drwT (i := 0) hr.u1 (pv 0)) de_int)))
    (dss_cons (ds_par (i := 1) (j := 2) rfl sc__law_mixed.nd rfl rfl (by decide) rfl rfl (df_sh (de_callTy call_int1 lc_int (by rfl) (Z.f 0 rfl) bt_int (da_cons (de_drwT (i := 0) hr.u1 (pv 0)) da_nil))) (df_sh de_int) (by rfl))
    (dss_cons (ds_for (passes_of rfl) rfl (di_seq (de_lst (da_cons de_int (da_cons de_int (da_cons de_int da_nil))))) (dg_name (i := 3) sc__law_mixed.nd rfl (by first | exact Or.inl rfl | exact Or.inr rfl)) (dss_cons (ds_set sc__law_mixed.nd (i := 4) rfl (by first | exact Or.inl rfl | exact Or.inr rfl) (de_mod (de_frz (df_add (de_frz (df_mul (de_var 1 (pv 1)) de_int)) (de_fdiv (de_var 3 (pv 3)) de_int))) (de_var 3 (pv 3))))
    (dss_cons (ds_for (passes_of rfl) rfl (di_drw (i := 0) hr.u1 (pv 0)) (dg_name (i := 5) sc__law_mixed.nd rfl (by first | exact Or.inl rfl | exact Or.inr rfl)) (dss_one (ds_set sc__law_mixed.nd (i := 4) rfl (by first | exact Or.inl rfl | exact Or.inr rfl) (de_mod (de_frz (df_add (de_frz (df_mul (de_var 4 (pv 4)) de_int)) (de_callTy call_int1 lc_int (by rfl) (Z.f 0 rfl) bt_int (da_cons (de_var 5 (pv 5)) da_nil)))) (de_var 3 (pv 3))))))
    (dss_one (ds_set sc__law_mixed.nd (i := 2) rfl (by first | exact Or.inl rfl | exact Or.inr rfl) (de_frz (df_add (de_frz (df_mul (de_var 2 (pv 2)) de_int)) (de_mod (de_pow (de_var 4 (pv 4)) de_int) (de_var 3 (pv 3))))))))))
    (dss_one (ds_ret (de_var 2 (pv 2)))))))
theorem ok__law_mixed (Z : ZZ P K mg base T) : FnD P w K mg base T "_law_mixed" 1 ["_law_draw"] (dBody N__law_mixed.length t__law_mixed) := (okg__law_mixed Z).fnD (Z.g 26 rfl) (fun _ _ _ _ _ _ us hl => match us, hl with | [_], _ => rfl)
def t__law_take : TDS := (dSeq (dIfS (dTest (d2 eqD (dDrw 0) (dC (.int 0)))) (dDrwP 0 (dDrwPop 0 (dCall (dBody N__law_mixed.length t__law_mixed) 1 (dCons (dVar 0) dNil)))) dNext)
    (dSeq (dSet 2 (d2 modD (dCB intD (dCons (dDrw 0) dNil)) (dVar 1)))
    (dSeq (dDrwP 0 (d2 fdivD (dCB intD (dCons (dDrw 0) dNil)) (dVar 1)))
    (dRet (dVar 2)))))
theorem okg__law_take (Z : ZZ P K mg base T) : FnB P w K mg base T d__law_take 2 ["_law_draw", "_law_amount"] (dBody N__law_take.length t__law_take) :=
  Z.toZk.fnB 29 rfl rfl rfl sc__law_take fun cdv A outer s H E B hcd hT hr => by
    subst hT
    exact (dss_cons (ds_if (dt_cmp (op_eqD hr.u64) l_eq (de_drwR (i := 0) hr.u1 (pv 0)) de_int (by rfl)) (dss_one (ds_drwR (i := 0) hr.u1 (pv 0) (de_drwPop (q6 := ⟨0, 0, 0, 0⟩) (i := 0) hr (pv 0) (pv 0) (de_call (ok__law_mixed Z) (hr.mono (by decide)) (by rfl) (da_cons (de_var 0 (pv 0)) da_nil))))) dss_nil)
    (dss_cons (ds_set sc__law_take.nd (i := 2) rfl (by first | exact Or.inl rfl | exact Or.inr rfl) (de_mod (de_callTy call_int1 lc_int (by rfl) (Z.f 0 rfl) bt_int (da_cons (de_drwR (i := 0) hr.u1 (pv 0)) da_nil)) (de_var 1 (pv 1))))
    (dss_cons (ds_drwR (i := 0) hr.u1 (pv 0) (de_fdiv (de_callTy call_int1 lc_int (by rfl) (Z.f 0 rfl) bt_int (da_cons (de_drwR (i := 0) hr.u1 (pv 0)) da_nil)) (de_var 1 (pv 1))))
    (dss_one (ds_ret (de_var 2 (pv 2)))))))
theorem ok__law_take (Z : ZZ P K mg base T) : FnD P w K mg base T "_law_take" 2 ["_law_draw", "_law_amount"] (dBody N__law_take.length t__law_take) := (okg__law_take Z).fnD (Z.g 27 rfl) (fun _ _ _ _ _ _ us hl => match us, hl with | [_, _], _ => rfl)
def t__law_pick : TDS := (dRet (d2 ixD (dVar 1) (dCall (dBody N__law_take.length t__law_take) 2 (dCons (dVar 0) (dCons (dCB lenD (dCons (dVar 1) dNil)) dNil)))))
theorem okg__law_pick (Z : ZZ P K mg base T) : FnB P w K mg base T d__law_pick 3 ["_law_draw", "_law_some"] (dBody N__law_pick.length t__law_pick) :=
  Z.toZk.fnB 30 rfl rfl rfl sc__law_pick fun cdv A outer s H E B hcd hT hr => by
    subst hT
    exact (dss_one (ds_ret (de_ix (ix_all hr.u1) l_ix (de_var 1 (pv 1)) (de_call (ok__law_take Z) (hr.mono (by decide)) (by rfl) (da_cons (de_var 0 (pv 0)) (da_cons (de_callB call_lenA lc_len (by rfl) (Z.f 5 rfl) bt_len (da_cons (de_var 1 (pv 1)) da_nil)) da_nil))) (by intro _ _; rfl))))
theorem ok__law_pick (Z : ZZ P K mg base T) : FnD P w K mg base T "_law_pick" 3 ["_law_draw", "_law_some"] (dBody N__law_pick.length t__law_pick) := (okg__law_pick Z).fnD (Z.g 28 rfl) (fun _ _ _ _ _ _ us hl => match us, hl with | [_, _], _ => rfl)
def t__law_field : TDS := (dRet (dCall (dBody N__law_pick.length t__law_pick) 2 (dCons (dVar 0) (dCons (dLst (dCons (dC (.int 2)) (dCons (dC (.int 2)) (dCons (dC (.int 2)) (dCons (dC (.int 3)) (dCons (dC (.int 3)) (dCons (dC (.int 5)) (dCons (dC (.int 7)) (dCons (dC (.int 97)) dNil))))))))) dNil))))
theorem okg__law_field (Z : ZZ P K mg base T) : FnB P w K mg base T d__law_field 4 ["_law_draw"] (dBody N__law_field.length t__law_field) :=
  Z.toZk.fnB 31 rfl rfl rfl sc__law_field fun cdv A outer s H E B hcd hT hr => by
    subst hT
    exact (dss_one (ds_ret (de_call (ok__law_pick Z) (hr.mono (by decide)) (by rfl) (da_cons (de_var 0 (pv 0)) (da_cons (de_lst (da_cons de_int (da_cons de_int (da_cons de_int (da_cons de_int (da_cons de_int (da_cons de_int (da_cons de_int (da_cons de_int da_nil))))))))) da_nil)))))
theorem ok__law_field (Z : ZZ P K mg base T) : FnD P w K mg base T "_law_field" 4 ["_law_draw"] (dBody N__law_field.length t__law_field) := (okg__law_field Z).fnD (Z.g 29 rfl) (fun _ _ _ _ _ _ us hl => match us, hl with | [_], _ => rfl)
def t__law_lists : TDS := (dSeq (dSetX 4 (dLstF dNil))
    (dSeq (dFor (dRange1 (dCons (dVar 2) dNil)) (gN 5) (dExpr (dMut 4 "list" mAppend (dCons (dFrz (dComp (dRange1 (dCons (dVar 3) dNil)) (gN 6) dYes (dIf (dTest (d2 eqD (dCall (dBody N__law_take.length t__law_take) 2 (dCons (dVar 0) (dCons (dC (.int 3)) dNil))) (dC (.int 0)))) (dC (.int 0)) (dCall (dBody N__law_take.length t__law_take) 2 (dCons (dVar 0) (dCons (dVar 1) dNil)))) [6])) dNil))))
    (dRet (dVar 4))))
theorem okg__law_lists (Z : ZZ P K mg base T) : FnB P w K mg base T d__law_lists 3 ["_law_draw", "_law_field_here", "_law_tall", "_law_wide"] (dBody N__law_lists.length t__law_lists) :=
  Z.toZk.fnB 32 rfl rfl rfl sc__law_lists fun cdv A outer s H E B hcd hT hr => by
    subst hT
    exact (dss_cons (ds_setX sc__law_lists.nd (i := 4) rfl (by first | exact Or.inl rfl | exact Or.inr rfl) (df_lst da_nil))
    (dss_cons (ds_for (passes_of rfl) rfl (di_range1 (by rfl) (Z.f 10 rfl) (da_cons (de_var 2 (pv 2)) da_nil)) (dg_name (i := 5) sc__law_lists.nd rfl (by first | exact Or.inl rfl | exact Or.inr rfl)) (dss_one (ds_expr (de_mut (i := 4) (by decide) PySem.F.plainAttrs_list PySem.F.slot_list_append PySem.F.type_list_append mt_append mop_append (pv 4) (show 4 < N__law_lists.length by decide) (da_cons (de_frz (df_comp (own := [("_law_k", 6)]) rfl sc__law_lists.nd (di_range1 (by rfl) (Z.f 10 rfl) (da_cons (de_var 3 (pv 3)) da_nil)) (blkOk_by (by rfl)) (fun _ _ _ _ _ => (dg_name (i := 6) sc__law_lists.nd rfl (by first | exact Or.inl rfl | exact Or.inr rfl))) (fun _ _ _ _ _ => dts_nil) (fun _ _ _ _ _ => (de_ifExp (dt_cmp (op_eqD hr.u64) l_eq (de_call (ok__law_take Z) (hr.mono (by decide)) (by rfl) (da_cons (de_var 0 (pv 0)) (da_cons de_int da_nil))) de_int (by rfl)) de_int (de_call (ok__law_take Z) (hr.mono (by decide)) (by rfl) (da_cons (de_var 0 (pv 0)) (da_cons (de_var 1 (pv 1)) da_nil))))))) da_nil)))))
    (dss_one (ds_ret (de_var 4 (pv 4))))))
theorem ok__law_lists (Z : ZZ P K mg base T) : FnD P w K mg base T "_law_lists" 3 ["_law_draw", "_law_field_here", "_law_tall", "_law_wide"] (dBody N__law_lists.length t__law_lists) := (okg__law_lists Z).fnD (Z.g 30 rfl) (fun _ _ _ _ _ _ us hl => match us, hl with | [_, _, _, _], _ => rfl)
def t__law_product : TDS := (dSeq (dSetX 4 (dLstF dNil))
    (dSeq (dFor (dSeqI (dVar 1)) (gN 5) (dSeq (dSet 6 (dFrz (f2 mulG (dLst (dCons (dC (.int 0)) dNil)) (dVar 3))))
    (dSeq (dFor (dEnumB (dVar 5)) (gT 2 (gsCons (gN 7) (gsCons (gN 8) gsNil))) (dSetX 6 (dComp (dZipB (dCons (dVar 6) (dCons (d2 ixD (dVar 2) (dVar 7)) dNil))) (gT 2 (gsCons (gN 9) (gsCons (gN 10) gsNil))) dYes (dFrz (f2 addF (dVar 9) (dFrz (f2 mulG (dVar 8) (dVar 10))))) [9, 10])))
    (dExpr (dMut 4 "list" mAppend (dCons (dFrz (dComp (dSeqI (dVar 6)) (gN 8) dYes (d2 modG (dVar 8) (dVar 0)) [8])) dNil))))))
    (dRet (dVar 4))))
theorem okg__law_product (Z : ZZ P K mg base T) : FnB P w K mg base T d__law_product 1 ["_law_field_here", "_law_one", "_law_two", "_law_wide"] (dBody N__law_product.length t__law_product) :=
  Z.toZk.fnB 33 rfl rfl rfl sc__law_product fun cdv A outer s H E B hcd hT hr => by
    subst hT
    exact (dss_cons (ds_setX sc__law_product.nd (i := 4) rfl (by first | exact Or.inl rfl | exact Or.inr rfl) (df_lst da_nil))
    (dss_cons (ds_for (passes_of rfl) rfl (di_seq (de_var 1 (pv 1))) (dg_name (i := 5) sc__law_product.nd rfl (by first | exact Or.inl rfl | exact Or.inr rfl)) (dss_cons (ds_set sc__law_product.nd (i := 6) rfl (by first | exact Or.inl rfl | exact Or.inr rfl) (de_frz (df_mulG (de_lst (da_cons de_int da_nil)) (de_var 3 (pv 3)))))
    (dss_cons (ds_for (passes_of rfl) rfl (di_enumB (by rfl) (Z.f 7 rfl) (de_var 5 (pv 5))) (dg_tup rfl (dgs_cons (dg_name (i := 7) sc__law_product.nd rfl (by first | exact Or.inl rfl | exact Or.inr rfl)) (dgs_cons (dg_name (i := 8) sc__law_product.nd rfl (by first | exact Or.inl rfl | exact Or.inr rfl)) dgs_nil))) (dss_one (ds_comp (i := 6) (own := [("_law_here", 9), ("_law_there", 10)]) rfl sc__law_product.nd rfl rfl (sw_true rfl rfl rfl (by decide +kernel)) (di_zipB (by rfl) (Z.f 8 rfl) (da_cons (de_var 6 (pv 6)) (da_cons (de_ix (ix_all hr.u1) l_ix (de_var 2 (pv 2)) (de_var 7 (pv 7)) (by intro _ _; rfl)) da_nil))) (blkOk_by (by rfl)) (fun _ _ _ _ _ => (dg_tup rfl (dgs_cons (dg_name (i := 9) sc__law_product.nd rfl (by first | exact Or.inl rfl | exact Or.inr rfl)) (dgs_cons (dg_name (i := 10) sc__law_product.nd rfl (by first | exact Or.inl rfl | exact Or.inr rfl)) dgs_nil)))) (fun _ _ _ _ _ => dts_nil) (fun _ _ _ _ _ => (de_frz (df_add (de_var 9 (pv 9)) (de_frz (df_mulG (de_var 8 (pv 8)) (de_var 10 (pv 10))))))))))
    (dss_one (ds_expr (de_mut (i := 4) (by decide) PySem.F.plainAttrs_list PySem.F.slot_list_append PySem.F.type_list_append mt_append mop_append (pv 4) (show 4 < N__law_product.length by decide) (da_cons (de_frz (df_comp (own := [("_law_item", 8)]) rfl sc__law_product.nd (di_seq (de_var 6 (pv 6))) (blkOk_by (by rfl)) (fun _ _ _ _ _ => (dg_name (i := 8) sc__law_product.nd rfl (by first | exact Or.inl rfl | exact Or.inr rfl))) (fun _ _ _ _ _ => dts_nil) (fun _ _ _ _ _ => (de_modG (de_var 8 (pv 8)) (de_var 0 (pv 0)))))) da_nil)))))))
    (dss_one (ds_ret (de_var 4 (pv 4))))))
theorem ok__law_product (Z : ZZ P K mg base T) : FnD P w K mg base T "_law_product" 1 ["_law_field_here", "_law_one", "_law_two", "_law_wide"] (dBody N__law_product.length t__law_product) := (okg__law_product Z).fnD (Z.g 31 rfl) (fun _ _ _ _ _ _ us hl => match us, hl with | [_, _, _, _], _ => rfl)
def t__law_unit : TDS := (dRet (dFrz (dComp (dRange1 (dCons (dVar 0) dNil)) (gN 1) dYes (dFrz (dComp (dRange1 (dCons (dVar 0) dNil)) (gN 2) dYes (dCB intD (dCons (d2 eqD (dVar 1) (dVar 2)) dNil)) [2])) [1])))
theorem okg__law_unit (Z : ZZ P K mg base T) : FnB P w K mg base T d__law_unit 1 ["_law_size_here"] (dBody N__law_unit.length t__law_unit) :=
  Z.toZk.fnB 34 rfl rfl rfl sc__law_unit fun cdv A outer s H E B hcd hT hr => by
    subst hT
    exact (dss_one (ds_ret (de_frz (df_comp (own := [("_law_k", 1)]) rfl sc__law_unit.nd (di_range1 (by rfl) (Z.f 10 rfl) (da_cons (de_var 0 (pv 0)) da_nil)) (blkOk_by (by rfl)) (fun _ _ _ _ _ => (dg_name (i := 1) sc__law_unit.nd rfl (by first | exact Or.inl rfl | exact Or.inr rfl))) (fun _ _ _ _ _ => dts_nil) (fun _ _ _ _ _ => (de_frz (df_comp (own := [("_law_spot", 2)]) rfl sc__law_unit.nd (di_range1 (by rfl) (Z.f 10 rfl) (da_cons (de_var 0 (pv 0)) da_nil)) (blkOk_by (by rfl)) (fun _ _ _ _ _ => (dg_name (i := 2) sc__law_unit.nd rfl (by first | exact Or.inl rfl | exact Or.inr rfl))) (fun _ _ _ _ _ => dts_nil) (fun _ _ _ _ _ => (de_callTy call_int1 lc_int (by rfl) (Z.f 0 rfl) bt_int (da_cons (de_cmp (op_eqD hr.u64) l_eq (de_var 1 (pv 1)) (de_var 2 (pv 2)) (by rfl)) da_nil))))))))))
theorem ok__law_unit (Z : ZZ P K mg base T) : FnD P w K mg base T "_law_unit" 1 ["_law_size_here"] (dBody N__law_unit.length t__law_unit) := (okg__law_unit Z).fnD (Z.g 32 rfl) (fun _ _ _ _ _ _ us hl => match us, hl with | [_], _ => rfl)
abbrev wg__law_caught : TL → TL := wpCaught cs
theorem okc__law_caught (Z : ZZ P K mg base T) : FnC P w K mg base T "_law_caught" 13 14 wg__law_caught := by
  obtain ⟨fd, F⟩ := Z.toZk.fd (d := d__law_caught) 35 rfl rfl
  have bb := FunD.bindsA (ps := ["_law_work"]) F (fun _ _ _ _ _ _ us hl => match us, hl with | [_], _ => rfl)
  exact fnC_caught (cs := cs) F sc__law_caught (Z.g 33 rfl) (fun s u => bb s [u] rfl) rfl rfl rfl rfl (Z.g 34 rfl) Z.exm (by decide) (by decide) (by decide) (by decide) (by decide) (by decide) (by decide) (by intro _; rfl) (by intro _; rfl) (by intro _; rfl)
def t__law_size : TDS := (dRet (dCall (dBody N__law_pick.length t__law_pick) 2 (dCons (dVar 0) (dCons (dLst (dCons (dC (.int 0)) (dCons (dC (.int 1)) (dCons (dC (.int 1)) (dCons (dC (.int 2)) (dCons (dC (.int 2)) (dCons (dC (.int 3)) (dCons (dC (.int 4)) (dCons (dC (.int 5)) dNil))))))))) dNil))))
theorem okg__law_size (Z : ZZ P K mg base T) : FnB P w K mg base T d__law_size 4 ["_law_draw"] (dBody N__law_size.length t__law_size) :=
  Z.toZk.fnB 36 rfl rfl rfl sc__law_size fun cdv A outer s H E B hcd hT hr => by
    subst hT
    exact (dss_one (ds_ret (de_call (ok__law_pick Z) (hr.mono (by decide)) (by rfl) (da_cons (de_var 0 (pv 0)) (da_cons (de_lst (da_cons de_int (da_cons de_int (da_cons de_int (da_cons de_int (da_cons de_int (da_cons de_int (da_cons de_int (da_cons de_int da_nil))))))))) da_nil)))))
theorem ok__law_size (Z : ZZ P K mg base T) : FnD P w K mg base T "_law_size" 4 ["_law_draw"] (dBody N__law_size.length t__law_size) := (okg__law_size Z).fnD (Z.g 35 rfl) (fun _ _ _ _ _ _ us hl => match us, hl with | [_], _ => rfl)
def t__law_wild : TDS := (dSeq (dSet 4 (dCall (dBody N__law_lists.length t__law_lists) 4 (dCons (dVar 0) (dCons (dVar 1) (dCons (dVar 2) (dCons (dVar 3) dNil))))))
    (dRet (dFrz (dComp (dSeqI (dVar 4)) (gN 5) dYes (dFrz (dComp (dSeqI (dVar 5)) (gN 6) dYes (dFrz (f2 addF (dVar 6) (dFrz (f2 mulG (dVar 1) (d2 subD (dCall (dBody N__law_take.length t__law_take) 2 (dCons (dVar 0) (dCons (dC (.int 5)) dNil))) (dC (.int 2))))))) [6])) [5]))))
theorem okg__law_wild (Z : ZZ P K mg base T) : FnB P w K mg base T d__law_wild 4 ["_law_draw", "_law_field_here", "_law_tall", "_law_wide"] (dBody N__law_wild.length t__law_wild) :=
  Z.toZk.fnB 37 rfl rfl rfl sc__law_wild fun cdv A outer s H E B hcd hT hr => by
    subst hT
    exact (dss_cons (ds_set sc__law_wild.nd (i := 4) rfl (by first | exact Or.inl rfl | exact Or.inr rfl) (de_call (ok__law_lists Z) (hr.mono (by decide)) (by rfl) (da_cons (de_var 0 (pv 0)) (da_cons (de_var 1 (pv 1)) (da_cons (de_var 2 (pv 2)) (da_cons (de_var 3 (pv 3)) da_nil))))))
    (dss_one (ds_ret (de_frz (df_comp (own := [("_law_line_here", 5)]) rfl sc__law_wild.nd (di_seq (de_var 4 (pv 4))) (blkOk_by (by rfl)) (fun _ _ _ _ _ => (dg_name (i := 5) sc__law_wild.nd rfl (by first | exact Or.inl rfl | exact Or.inr rfl))) (fun _ _ _ _ _ => dts_nil) (fun _ _ _ _ _ => (de_frz (df_comp (own := [("_law_item", 6)]) rfl sc__law_wild.nd (di_seq (de_var 5 (pv 5))) (blkOk_by (by rfl)) (fun _ _ _ _ _ => (dg_name (i := 6) sc__law_wild.nd rfl (by first | exact Or.inl rfl | exact Or.inr rfl))) (fun _ _ _ _ _ => dts_nil) (fun _ _ _ _ _ => (de_frz (df_add (de_var 6 (pv 6)) (de_frz (df_mulG (de_var 1 (pv 1)) (de_sub (de_call (ok__law_take Z) (hr.mono (by decide)) (by rfl) (da_cons (de_var 0 (pv 0)) (da_cons de_int da_nil))) de_int))))))))))))))
theorem ok__law_wild (Z : ZZ P K mg base T) : FnD P w K mg base T "_law_wild" 4 ["_law_draw", "_law_field_here", "_law_tall", "_law_wide"] (dBody N__law_wild.length t__law_wild) := (okg__law_wild Z).fnD (Z.g 36 rfl) (fun _ _ _ _ _ _ us hl => match us, hl with | [_, _, _, _], _ => rfl)
def t__law_shows : TDS := (dSeq (dSet 5 (dCB tupD (dCons (dFrz (dComp (dSeqI (dVar 4)) (gN 6) dYes (dCB tupD (dCons (dFrz (dComp (dSeqI (dVar 6)) (gN 7) dYes (d2 modG (dVar 7) (dVar 1)) [7])) dNil)) [6])) dNil)))
    (dSeq (dIfS (dOr (dNot (dTest (dCB (isaD C.isas) (dCons (dVar 0) (dCons (dC (.glo "Table")) dNil))))) (dOr (dTest (d2 neD (dAttr C.tab "prime" (dVar 0)) (dVar 1))) (dOr (dTest (d2 neD (dAttr C.tab "tall" (dVar 0)) (dVar 2))) (dTest (d2 neD (dAttr C.tab "wide" (dVar 0)) (dVar 3)))))) (dRet (dC (.bl false))) dNext)
    (dRet (dAndV (d2 eqD (dCB reprX (dCons (dAttr C.tab "lines" (dVar 0)) dNil)) (dCB reprX (dCons (dVar 5) dNil))) (dEqA C.isas eqs false (dVar 0) (dFrz (fMake "Table" wi_Table 4 (dCons (dVar 1) (dCons (dVar 2) (dCons (dVar 3) (dCons (dVar 5) dNil)))))))))))
theorem okg__law_shows (Z : ZZ P K mg base T) : FnB P w K mg base T d__law_shows 6 ["_law_table", "_law_field_here", "_law_tall", "_law_wide", "_law_some"] (dBody N__law_shows.length t__law_shows) :=
  Z.toZk.fnB 38 rfl rfl rfl sc__law_shows fun cdv A outer s H E B hcd hT hr => by
    subst hT
    exact (dss_cons (ds_set sc__law_shows.nd (i := 5) rfl (by first | exact Or.inl rfl | exact Or.inr rfl) (de_callTy call_tuple_of lc_tup (by rfl) (Z.f 4 rfl) bt_tuple (da_cons (de_frz (df_comp (own := [("_law_line_here", 6)]) rfl sc__law_shows.nd (di_seq (de_var 4 (pv 4))) (blkOk_by (by rfl)) (fun _ _ _ _ _ => (dg_name (i := 6) sc__law_shows.nd rfl (by first | exact Or.inl rfl | exact Or.inr rfl))) (fun _ _ _ _ _ => dts_nil) (fun _ _ _ _ _ => (de_callTy call_tuple_of lc_tup (by rfl) (Z.f 4 rfl) bt_tuple (da_cons (de_frz (df_comp (own := [("_law_item", 7)]) rfl sc__law_shows.nd (di_seq (de_var 6 (pv 6))) (blkOk_by (by rfl)) (fun _ _ _ _ _ => (dg_name (i := 7) sc__law_shows.nd rfl (by first | exact Or.inl rfl | exact Or.inr rfl))) (fun _ _ _ _ _ => dts_nil) (fun _ _ _ _ _ => (de_modG (de_var 7 (pv 7)) (de_var 1 (pv 1)))))) da_nil))))) da_nil)))
    (dss_cons (ds_if (DWh.dt (dw_or (dt_not (dt_val (de_callB call_isa (lc_isa Z.isa) (by rfl) (Z.f 1 rfl) bt_isinstance (da_cons (de_var 0 (pv 0)) (da_cons (de_glo (by rfl) (Z.g 9 rfl)) da_nil))))) (dw_or (dt_cmp (op_neD hr.u64) l_ne (de_attr (k := 0) Z.ats (hr.mono (by decide)) (de_var 0 (pv 0))) (de_var 1 (pv 1)) (by rfl)) (dw_or (dt_cmp (op_neD hr.u64) l_ne (de_attr (k := 0) Z.ats (hr.mono (by decide)) (de_var 0 (pv 0))) (de_var 2 (pv 2)) (by rfl)) (dw_or1 (dt_cmp (op_neD hr.u64) l_ne (de_attr (k := 0) Z.ats (hr.mono (by decide)) (de_var 0 (pv 0))) (de_var 3 (pv 3)) (by rfl))))))) (dss_one (ds_ret de_bl)) dss_nil)
    (dss_one (ds_ret (de_and (de_cmp (op_eqD hr.u64) l_eq (de_callB (call_reprX hr) (lc_reprX Z.sys) (by rfl) (Z.f 13 rfl) bt_repr (da_cons (de_attr (k := 0) Z.ats (hr.mono (by decide)) (de_var 0 (pv 0))) da_nil)) (de_callB (call_reprX hr) (lc_reprX Z.sys) (by rfl) (Z.f 13 rfl) bt_repr (da_cons (de_var 5 (pv 5)) da_nil)) (by rfl)) (de_one (de_eqA (k := 3) (eqs_ok Z) (hr.mono (by decide)) (de_var 0 (pv 0)) (de_frz (df_make (ok_Table Z) (hr.mono (by decide)) (by rfl) (da_cons (de_var 1 (pv 1)) (da_cons (de_var 2 (pv 2)) (da_cons (de_var 3 (pv 3)) (da_cons (de_var 5 (pv 5)) da_nil)))))))))))))
theorem ok__law_shows (Z : ZZ P K mg base T) : FnD P w K mg base T "_law_shows" 6 ["_law_table", "_law_field_here", "_law_tall", "_law_wide", "_law_some"] (dBody N__law_shows.length t__law_shows) := (okg__law_shows Z).fnD (Z.g 37 rfl) (fun _ _ _ _ _ _ us hl => match us, hl with | [_, _, _, _, _], _ => rfl)
def t__law_turned : TDS := (dRet (dFrz (dComp (dRange1 (dCons (dVar 1) dNil)) (gN 2) dYes (dFrz (dComp (dSeqI (dVar 0)) (gN 3) dYes (d2 ixD (dVar 3) (dVar 2)) [3])) [2])))
theorem okg__law_turned (Z : ZZ P K mg base T) : FnB P w K mg base T d__law_turned 1 ["_law_some", "_law_wide"] (dBody N__law_turned.length t__law_turned) :=
  Z.toZk.fnB 39 rfl rfl rfl sc__law_turned fun cdv A outer s H E B hcd hT hr => by
    subst hT
    exact (dss_one (ds_ret (de_frz (df_comp (own := [("_law_k", 2)]) rfl sc__law_turned.nd (di_range1 (by rfl) (Z.f 10 rfl) (da_cons (de_var 1 (pv 1)) da_nil)) (blkOk_by (by rfl)) (fun _ _ _ _ _ => (dg_name (i := 2) sc__law_turned.nd rfl (by first | exact Or.inl rfl | exact Or.inr rfl))) (fun _ _ _ _ _ => dts_nil) (fun _ _ _ _ _ => (de_frz (df_comp (own := [("_law_line_here", 3)]) rfl sc__law_turned.nd (di_seq (de_var 0 (pv 0))) (blkOk_by (by rfl)) (fun _ _ _ _ _ => (dg_name (i := 3) sc__law_turned.nd rfl (by first | exact Or.inl rfl | exact Or.inr rfl))) (fun _ _ _ _ _ => dts_nil) (fun _ _ _ _ _ => (de_ix (ix_all hr.u1) l_ix (de_var 3 (pv 3)) (de_var 2 (pv 2)) (by intro _ _; rfl))))))))))
theorem ok__law_turned (Z : ZZ P K mg base T) : FnD P w K mg base T "_law_turned" 1 ["_law_some", "_law_wide"] (dBody N__law_turned.length t__law_turned) := (okg__law_turned Z).fnD (Z.g 38 rfl) (fun _ _ _ _ _ _ us hl => match us, hl with | [_, _], _ => rfl)
def t__law_rests : TDS := (dRet (dFrz (dComp (dSeqI (dVar 1)) (gN 2) dYes (dFrz (dComp (dSeqI (dVar 2)) (gN 3) dYes (d2 modG (dVar 3) (dVar 0)) [3])) [2])))
theorem okg__law_rests (Z : ZZ P K mg base T) : FnB P w K mg base T d__law_rests 1 ["_law_field_here", "_law_some"] (dBody N__law_rests.length t__law_rests) :=
  Z.toZk.fnB 40 rfl rfl rfl sc__law_rests fun cdv A outer s H E B hcd hT hr => by
    subst hT
    exact (dss_one (ds_ret (de_frz (df_comp (own := [("_law_line_here", 2)]) rfl sc__law_rests.nd (di_seq (de_var 1 (pv 1))) (blkOk_by (by rfl)) (fun _ _ _ _ _ => (dg_name (i := 2) sc__law_rests.nd rfl (by first | exact Or.inl rfl | exact Or.inr rfl))) (fun _ _ _ _ _ => dts_nil) (fun _ _ _ _ _ => (de_frz (df_comp (own := [("_law_item", 3)]) rfl sc__law_rests.nd (di_seq (de_var 2 (pv 2))) (blkOk_by (by rfl)) (fun _ _ _ _ _ => (dg_name (i := 3) sc__law_rests.nd rfl (by first | exact Or.inl rfl | exact Or.inr rfl))) (fun _ _ _ _ _ => dts_nil) (fun _ _ _ _ _ => (de_modG (de_var 3 (pv 3)) (de_var 0 (pv 0)))))))))))
theorem ok__law_rests (Z : ZZ P K mg base T) : FnD P w K mg base T "_law_rests" 1 ["_law_field_here", "_law_some"] (dBody N__law_rests.length t__law_rests) := (okg__law_rests Z).fnD (Z.g 39 rfl) (fun _ _ _ _ _ _ us hl => match us, hl with | [_, _], _ => rfl)
def t__law_is_bad (fl : Addr) (tl : TL) : TDS := (dRet (dCB (isaD C.isas) (dCons (dPass 0 fl tl wg__law_caught) (dCons (dC (.glo "BadTable")) dNil))))
abbrev wg__law_is_bad : TL → TL := fun tl P' RX => ∀ fl, dBody N__law_is_bad.length (t__law_is_bad fl tl) [.adr fl] P' RX
theorem okc__law_is_bad (Z : ZZ P K mg base T) : FnC P w K mg base T "_law_is_bad" 13 15 wg__law_is_bad :=
  Z.toZk.fnC (d := d__law_is_bad) 41 rfl rfl rfl (Z.g 40 rfl) sc__law_is_bad (fun _ _ _ _ _ _ us hl => match us, hl with | [_], _ => rfl) fun fl tl cdv A outer s H E B hT hH CA hr => by
    subst hT
    exact (dss_one (ds_ret (de_callB call_isa (lc_isa Z.isa) (by rfl) (Z.f 1 rfl) bt_isinstance (da_cons (de_pass (okc__law_caught Z) CA hH rfl (hr.mono (by decide)) (by rfl) (pv 0)) (da_cons (de_glo (by rfl) (Z.g 8 rfl)) da_nil)))))
def held2 : List (Str × SpD) := [("plus", dBody N_plus.length t_plus), ("minus", dBody N_minus.length t_minus)]
theorem held2_ok (Z : ZZ P K mg base T) : FnsOk P w K mg base T held2 6 2 := by
  refine ⟨fun e he => ?_, fun e he => ?_⟩
  · simp only [held2, List.mem_cons, List.not_mem_nil, or_false] at he
    rcases he with rfl | rfl
    · exact ⟨_, rfl, FnD.up (ok_plus Z) (by decide)⟩
    · exact ⟨_, rfl, FnD.up (ok_minus Z) (by decide)⟩
  · simp only [held2, List.mem_cons, List.not_mem_nil, or_false] at he
    rcases he with rfl | rfl
    · exact (Z.g 15 rfl)
    · exact (Z.g 16 rfl)
def held1 : List (Str × SpD) := [("beside", dBody N_beside.length t_beside), ("over", dBody N_over.length t_over), ("corner", dBody N_corner.length t_corner)]
theorem held1_ok (Z : ZZ P K mg base T) : FnsOk P w K mg base T held1 6 1 := by
  refine ⟨fun e he => ?_, fun e he => ?_⟩
  · simp only [held1, List.mem_cons, List.not_mem_nil, or_false] at he
    rcases he with rfl | rfl | rfl
    · exact ⟨_, rfl, FnD.up (ok_beside Z) (by decide)⟩
    · exact ⟨_, rfl, FnD.up (ok_over Z) (by decide)⟩
    · exact ⟨_, rfl, FnD.up (ok_corner Z) (by decide)⟩
  · simp only [held1, List.mem_cons, List.not_mem_nil, or_false] at he
    rcases he with rfl | rfl | rfl
    · exact (Z.g 23 rfl)
    · exact (Z.g 24 rfl)
    · exact (Z.g 25 rfl)
theorem okk_minus_two_one (Z : ZZ P K mg base T) : FnK P w K mg base T "minus" 6 ["one", "two"] (dBody N_minus.length t_minus) 0 ["two", "one"] [1, 0] :=
  (okg_minus Z).fnK (Z.g 16 rfl) (fun _ _ _ _ _ _ us ws h1 h2 => match us, ws, h1, h2 with | [], [_, _], _, _ => by rfl)
theorem okk_plus_two_one (Z : ZZ P K mg base T) : FnK P w K mg base T "plus" 6 ["one", "two"] (dBody N_plus.length t_plus) 0 ["two", "one"] [1, 0] :=
  (okg_plus Z).fnK (Z.g 15 rfl) (fun _ _ _ _ _ _ us ws h1 h2 => match us, ws, h1, h2 with | [], [_, _], _, _ => by rfl)
theorem okk_scaled_number_one (Z : ZZ P K mg base T) : FnK P w K mg base T "scaled" 6 ["one", "number"] (dBody N_scaled.length t_scaled) 0 ["number", "one"] [1, 0] :=
  (okg_scaled Z).fnK (Z.g 18 rfl) (fun _ _ _ _ _ _ us ws h1 h2 => match us, ws, h1, h2 with | [], [_, _], _, _ => by rfl)
theorem okk_times_two_one (Z : ZZ P K mg base T) : FnK P w K mg base T "times" 6 ["one", "two"] (dBody N_times.length t_times) 0 ["two", "one"] [1, 0] :=
  (okg_times Z).fnK (Z.g 14 rfl) (fun _ _ _ _ _ _ us ws h1 h2 => match us, ws, h1, h2 with | [], [_, _], _, _ => by rfl)
def t__law_products_right : TDS := (dSeq (dPar3 2 3 4 (dCons (dCall (dBody N__law_size.length t__law_size) 1 (dCons (dVar 0) dNil)) (dCons (dCall (dBody N__law_size.length t__law_size) 1 (dCons (dVar 0) dNil)) (dCons (dCall (dBody N__law_size.length t__law_size) 1 (dCons (dVar 0) dNil)) dNil))))
    (dSeq (dPar 5 6 (dSh (dCall (dBody N__law_wild.length t__law_wild) 4 (dCons (dVar 0) (dCons (dVar 1) (dCons (dVar 2) (dCons (dVar 3) dNil)))))) (dSh (dCall (dBody N__law_wild.length t__law_wild) 4 (dCons (dVar 0) (dCons (dVar 1) (dCons (dVar 3) (dCons (dVar 4) dNil)))))))
    (dSeq (dSet 7 (dCall (dBody N__law_wild.length t__law_wild) 4 (dCons (dVar 0) (dCons (dVar 1) (dCons (dVar 2) (dCons (dVar 3) dNil))))))
    (dSeq (dSet 8 (dCB reprX (dCons (dLst (dCons (dVar 5) (dCons (dVar 6) dNil))) dNil)))
    (dSeq (dAsg (dTup (dCons (dFrz (fMake "Table" wi_Table 4 (dCons (dVar 1) (dCons (dVar 2) (dCons (dVar 3) (dCons (dVar 5) dNil)))))) (dCons (dFrz (fMake "Table" wi_Table 4 (dCons (dVar 1) (dCons (dVar 3) (dCons (dVar 4) (dCons (dVar 6) dNil)))))) dNil))) (gT 2 (gsCons (gN 9) (gsCons (gN 10) gsNil))))
    (dSeq (dIfS (dTest (d2 neD (dCB reprX (dCons (dLst (dCons (dVar 5) (dCons (dVar 6) dNil))) dNil)) (dVar 8))) (dRet (dC (.bl false))) dNext)
    (dSeq (dSet 11 (dFrz (fMake "Table" wi_Table 4 (dCons (dVar 1) (dCons (dVar 2) (dCons (dVar 3) (dCons (dVar 7) dNil)))))))
    (dSeq (dIfS (dNot (dTest (dCall (dBody N__law_shows.length t__law_shows) 5 (dCons (dCallK (dBody N_times.length t_times) 2 0 2 [1, 0] dNil (dCons (dVar 10) (dCons (dVar 9) dNil))) (dCons (dVar 1) (dCons (dVar 2) (dCons (dVar 4) (dCons (dCall (dBody N__law_product.length t__law_product) 4 (dCons (dVar 1) (dCons (dVar 5) (dCons (dVar 6) (dCons (dVar 4) dNil))))) dNil)))))))) (dRet (dC (.bl false))) dNext)
    (dSeq (dSetX 12 (dComp (dZipB (dCons (dVar 5) (dCons (dVar 7) dNil))) (gT 2 (gsCons (gN 13) (gsCons (gN 14) gsNil))) dYes (dFrz (dComp (dZipB (dCons (dVar 13) (dCons (dVar 14) dNil))) (gT 2 (gsCons (gN 15) (gsCons (gN 16) gsNil))) dYes (dFrz (f2 addF (dVar 15) (dVar 16))) [15, 16])) [13, 14]))
    (dSeq (dSetX 17 (dComp (dZipB (dCons (dVar 5) (dCons (dVar 7) dNil))) (gT 2 (gsCons (gN 13) (gsCons (gN 14) gsNil))) dYes (dFrz (dComp (dZipB (dCons (dVar 13) (dCons (dVar 14) dNil))) (gT 2 (gsCons (gN 15) (gsCons (gN 16) gsNil))) dYes (d2 subD (dVar 15) (dVar 16)) [15, 16])) [13, 14]))
    (dSeq (dIfS (dNot (dTest (dCall (dBody N__law_shows.length t__law_shows) 5 (dCons (dCallK (dBody N_plus.length t_plus) 2 0 2 [1, 0] dNil (dCons (dVar 11) (dCons (dVar 9) dNil))) (dCons (dVar 1) (dCons (dVar 2) (dCons (dVar 3) (dCons (dVar 12) dNil)))))))) (dRet (dC (.bl false))) dNext)
    (dSeq (dIfS (dNot (dTest (dCall (dBody N__law_shows.length t__law_shows) 5 (dCons (dCallK (dBody N_minus.length t_minus) 2 0 2 [1, 0] dNil (dCons (dVar 11) (dCons (dVar 9) dNil))) (dCons (dVar 1) (dCons (dVar 2) (dCons (dVar 3) (dCons (dVar 17) dNil)))))))) (dRet (dC (.bl false))) dNext)
    (dSeq (dSet 18 (dCall (dBody N__law_pick.length t__law_pick) 2 (dCons (dVar 0) (dCons (dLst (dCons (dC (.int 0)) (dCons (dC (.int 1)) (dCons (d1 negD (dC (.int 1))) (dCons (dC (.int 2)) (dCons (dVar 1) (dCons (d2 powD (dC (.int 10)) (dC (.int 20))) (dCons (d1 negD (dC (.int 7))) dNil)))))))) dNil))))
    (dSeq (dSetX 19 (dComp (dSeqI (dVar 5)) (gN 13) dYes (dFrz (dComp (dSeqI (dVar 13)) (gN 20) dYes (dFrz (f2 mulG (dVar 20) (dVar 18))) [20])) [13]))
    (dSeq (dIfS (dNot (dTest (dCall (dBody N__law_shows.length t__law_shows) 5 (dCons (dCallK (dBody N_scaled.length t_scaled) 2 0 2 [1, 0] dNil (dCons (dVar 18) (dCons (dVar 9) dNil))) (dCons (dVar 1) (dCons (dVar 2) (dCons (dVar 3) (dCons (dVar 19) dNil)))))))) (dRet (dC (.bl false))) dNext)
    (dSeq (dIfS (dNot (dTest (dCall (dBody N__law_shows.length t__law_shows) 5 (dCons (dCall (dBody N_across.length t_across) 1 (dCons (dVar 9) dNil)) (dCons (dVar 1) (dCons (dVar 3) (dCons (dVar 2) (dCons (dCall (dBody N__law_turned.length t__law_turned) 2 (dCons (dVar 5) (dCons (dVar 3) dNil))) dNil)))))))) (dRet (dC (.bl false))) dNext)
    (dSeq (dSet 21 (dFrz (fMake "Table" wi_Table 4 (dCons (dVar 1) (dCons (dFrz (f2 addF (dVar 3) (dC (.int 1)))) (dCons (dC (.int 1)) (dCons (dFrz (f2 mulG (dLst (dCons (dLst (dCons (dC (.int 0)) dNil)) dNil)) (dFrz (f2 addF (dVar 3) (dC (.int 1)))))) dNil)))))))
    (dSeq (dIfS (dNot (dTest (dLam wg__law_is_bad (dCall (dBody N_times.length t_times) 2 (dCons (dVar 9) (dCons (dVar 21) dNil)))))) (dRet (dC (.bl false))) dNext)
    (dSeq (dSet 22 (dFrz (fMake "Table" wi_Table 4 (dCons (dIf (dTest (d2 neD (dVar 1) (dC (.int 5)))) (dC (.int 5)) (dC (.int 7))) (dCons (dVar 2) (dCons (dVar 3) (dCons (dVar 5) dNil)))))))
    (dSeq (dSet 23 (dFrz (fMake "Table" wi_Table 4 (dCons (dVar 1) (dCons (dFrz (f2 addF (dVar 2) (dC (.int 1)))) (dCons (dVar 3) (dCons (dFrz (f2 mulG (dLst (dCons (dFrz (f2 mulG (dLst (dCons (dC (.int 0)) dNil)) (dVar 3))) dNil)) (dFrz (f2 addF (dVar 2) (dC (.int 1)))))) dNil)))))))
    (dSeq (dFor (dSeqI (dLst (dCons (dC (.glo "plus")) (dCons (dC (.glo "minus")) dNil)))) (gN 24) (dSeq (dIfS (dNot (dTest (dLam wg__law_is_bad (dCallV held2 2 (dVar 24) (dCons (dVar 9) (dCons (dVar 22) dNil)))))) (dRet (dC (.bl false))) dNext)
    (dIfS (dNot (dTest (dLam wg__law_is_bad (dCallV held2 2 (dVar 24) (dCons (dVar 9) (dCons (dVar 23) dNil)))))) (dRet (dC (.bl false))) dNext)))
    (dRet (dAndV (dEqA C.isas eqs true (dVar 9) (dVar 22)) (d2 eqD (dEqA C.isas eqs false (dVar 9) (dVar 11)) (d2 eqD (dCall (dBody N__law_rests.length t__law_rests) 2 (dCons (dVar 1) (dCons (dVar 5) dNil))) (dCall (dBody N__law_rests.length t__law_rests) 2 (dCons (dVar 1) (dCons (dVar 7) dNil))))))))))))))))))))))))))))
theorem okg__law_products_right (Z : ZZ P K mg base T) : FnB P w K mg base T d__law_products_right 16 ["_law_draw", "_law_field_here"] (dBody N__law_products_right.length t__law_products_right) :=
  Z.toZk.fnB 42 rfl rfl rfl sc__law_products_right fun cdv A outer s H E B hcd hT hr => by
    subst hT
    exact (dss_cons (ds_par3 (i := 2) (j := 3) (l := 4) rfl sc__law_products_right.nd rfl rfl rfl (by decide) (by decide) (by decide) rfl rfl rfl (da_cons (de_call (ok__law_size Z) (hr.mono (by decide)) (by rfl) (da_cons (de_var 0 (pv 0)) da_nil)) (da_cons (de_call (ok__law_size Z) (hr.mono (by decide)) (by rfl) (da_cons (de_var 0 (pv 0)) da_nil)) (da_cons (de_call (ok__law_size Z) (hr.mono (by decide)) (by rfl) (da_cons (de_var 0 (pv 0)) da_nil)) da_nil))) (by rfl))
    (dss_cons (ds_par (i := 5) (j := 6) rfl sc__law_products_right.nd rfl rfl (by decide) rfl rfl (df_sh (de_call (ok__law_wild Z) (hr.mono (by decide)) (by rfl) (da_cons (de_var 0 (pv 0)) (da_cons (de_var 1 (pv 1)) (da_cons (de_var 2 (pv 2)) (da_cons (de_var 3 (pv 3)) da_nil)))))) (df_sh (de_call (ok__law_wild Z) (hr.mono (by decide)) (by rfl) (da_cons (de_var 0 (pv 0)) (da_cons (de_var 1 (pv 1)) (da_cons (de_var 3 (pv 3)) (da_cons (de_var 4 (pv 4)) da_nil)))))) (by rfl))
    (dss_cons (ds_set sc__law_products_right.nd (i := 7) rfl (by first | exact Or.inl rfl | exact Or.inr rfl) (de_call (ok__law_wild Z) (hr.mono (by decide)) (by rfl) (da_cons (de_var 0 (pv 0)) (da_cons (de_var 1 (pv 1)) (da_cons (de_var 2 (pv 2)) (da_cons (de_var 3 (pv 3)) da_nil))))))
    (dss_cons (ds_set sc__law_products_right.nd (i := 8) rfl (by first | exact Or.inl rfl | exact Or.inr rfl) (de_callB (call_reprX hr) (lc_reprX Z.sys) (by rfl) (Z.f 13 rfl) bt_repr (da_cons (de_lst (da_cons (de_var 5 (pv 5)) (da_cons (de_var 6 (pv 6)) da_nil))) da_nil)))
    (dss_cons (ds_asg (de_tup (da_cons (de_frz (df_make (ok_Table Z) (hr.mono (by decide)) (by rfl) (da_cons (de_var 1 (pv 1)) (da_cons (de_var 2 (pv 2)) (da_cons (de_var 3 (pv 3)) (da_cons (de_var 5 (pv 5)) da_nil)))))) (da_cons (de_frz (df_make (ok_Table Z) (hr.mono (by decide)) (by rfl) (da_cons (de_var 1 (pv 1)) (da_cons (de_var 3 (pv 3)) (da_cons (de_var 4 (pv 4)) (da_cons (de_var 6 (pv 6)) da_nil)))))) da_nil))) (dg_tup rfl (dgs_cons (dg_name (i := 9) sc__law_products_right.nd rfl (by first | exact Or.inl rfl | exact Or.inr rfl)) (dgs_cons (dg_name (i := 10) sc__law_products_right.nd rfl (by first | exact Or.inl rfl | exact Or.inr rfl)) dgs_nil))))
    (dss_cons (ds_if (dt_cmp (op_neD hr.u64) l_ne (de_callB (call_reprX hr) (lc_reprX Z.sys) (by rfl) (Z.f 13 rfl) bt_repr (da_cons (de_lst (da_cons (de_var 5 (pv 5)) (da_cons (de_var 6 (pv 6)) da_nil))) da_nil)) (de_var 8 (pv 8)) (by rfl)) (dss_one (ds_ret de_bl)) dss_nil)
    (dss_cons (ds_set sc__law_products_right.nd (i := 11) rfl (by first | exact Or.inl rfl | exact Or.inr rfl) (de_frz (df_make (ok_Table Z) (hr.mono (by decide)) (by rfl) (da_cons (de_var 1 (pv 1)) (da_cons (de_var 2 (pv 2)) (da_cons (de_var 3 (pv 3)) (da_cons (de_var 7 (pv 7)) da_nil)))))))
    (dss_cons (ds_if (dt_not (dt_val (de_call (ok__law_shows Z) (hr.mono (by decide)) (by rfl) (da_cons (de_callK0 (okk_times_two_one Z) (hr.mono (by decide)) (by rfl) (dk_cons (de_var 10 (pv 10)) (dk_cons (de_var 9 (pv 9)) dk_nil))) (da_cons (de_var 1 (pv 1)) (da_cons (de_var 2 (pv 2)) (da_cons (de_var 4 (pv 4)) (da_cons (de_call (ok__law_product Z) (hr.mono (by decide)) (by rfl) (da_cons (de_var 1 (pv 1)) (da_cons (de_var 5 (pv 5)) (da_cons (de_var 6 (pv 6)) (da_cons (de_var 4 (pv 4)) da_nil))))) da_nil)))))))) (dss_one (ds_ret de_bl)) dss_nil)
    (dss_cons (ds_comp (i := 12) (own := [("_law_a", 13), ("_law_b", 14)]) rfl sc__law_products_right.nd rfl rfl (sw_true rfl rfl rfl (by decide +kernel)) (di_zipB (by rfl) (Z.f 8 rfl) (da_cons (de_var 5 (pv 5)) (da_cons (de_var 7 (pv 7)) da_nil))) (blkOk_by (by rfl)) (fun _ _ _ _ _ => (dg_tup rfl (dgs_cons (dg_name (i := 13) sc__law_products_right.nd rfl (by first | exact Or.inl rfl | exact Or.inr rfl)) (dgs_cons (dg_name (i := 14) sc__law_products_right.nd rfl (by first | exact Or.inl rfl | exact Or.inr rfl)) dgs_nil)))) (fun _ _ _ _ _ => dts_nil) (fun _ _ _ _ _ => (de_frz (df_comp (own := [("_law_here", 15), ("_law_there", 16)]) rfl sc__law_products_right.nd (di_zipB (by rfl) (Z.f 8 rfl) (da_cons (de_var 13 (pv 13)) (da_cons (de_var 14 (pv 14)) da_nil))) (blkOk_by (by rfl)) (fun _ _ _ _ _ => (dg_tup rfl (dgs_cons (dg_name (i := 15) sc__law_products_right.nd rfl (by first | exact Or.inl rfl | exact Or.inr rfl)) (dgs_cons (dg_name (i := 16) sc__law_products_right.nd rfl (by first | exact Or.inl rfl | exact Or.inr rfl)) dgs_nil)))) (fun _ _ _ _ _ => dts_nil) (fun _ _ _ _ _ => (de_frz (df_add (de_var 15 (pv 15)) (de_var 16 (pv 16)))))))))
    (dss_cons (ds_comp (i := 17) (own := [("_law_a", 13), ("_law_b", 14)]) rfl sc__law_products_right.nd rfl rfl (sw_true rfl rfl rfl (by decide +kernel)) (di_zipB (by rfl) (Z.f 8 rfl) (da_cons (de_var 5 (pv 5)) (da_cons (de_var 7 (pv 7)) da_nil))) (blkOk_by (by rfl)) (fun _ _ _ _ _ => (dg_tup rfl (dgs_cons (dg_name (i := 13) sc__law_products_right.nd rfl (by first | exact Or.inl rfl | exact Or.inr rfl)) (dgs_cons (dg_name (i := 14) sc__law_products_right.nd rfl (by first | exact Or.inl rfl | exact Or.inr rfl)) dgs_nil)))) (fun _ _ _ _ _ => dts_nil) (fun _ _ _ _ _ => (de_frz (df_comp (own := [("_law_here", 15), ("_law_there", 16)]) rfl sc__law_products_right.nd (di_zipB (by rfl) (Z.f 8 rfl) (da_cons (de_var 13 (pv 13)) (da_cons (de_var 14 (pv 14)) da_nil))) (blkOk_by (by rfl)) (fun _ _ _ _ _ => (dg_tup rfl (dgs_cons (dg_name (i := 15) sc__law_products_right.nd rfl (by first | exact Or.inl rfl | exact Or.inr rfl)) (dgs_cons (dg_name (i := 16) sc__law_products_right.nd rfl (by first | exact Or.inl rfl | exact Or.inr rfl)) dgs_nil)))) (fun _ _ _ _ _ => dts_nil) (fun _ _ _ _ _ => (de_sub (de_var 15 (pv 15)) (de_var 16 (pv 16))))))))
    (dss_cons (ds_if (dt_not (dt_val (de_call (ok__law_shows Z) (hr.mono (by decide)) (by rfl) (da_cons (de_callK0 (okk_plus_two_one Z) (hr.mono (by decide)) (by rfl) (dk_cons (de_var 11 (pv 11)) (dk_cons (de_var 9 (pv 9)) dk_nil))) (da_cons (de_var 1 (pv 1)) (da_cons (de_var 2 (pv 2)) (da_cons (de_var 3 (pv 3)) (da_cons (de_var 12 (pv 12)) da_nil)))))))) (dss_one (ds_ret de_bl)) dss_nil)
    (dss_cons (ds_if (dt_not (dt_val (de_call (ok__law_shows Z) (hr.mono (by decide)) (by rfl) (da_cons (de_callK0 (okk_minus_two_one Z) (hr.mono (by decide)) (by rfl) (dk_cons (de_var 11 (pv 11)) (dk_cons (de_var 9 (pv 9)) dk_nil))) (da_cons (de_var 1 (pv 1)) (da_cons (de_var 2 (pv 2)) (da_cons (de_var 3 (pv 3)) (da_cons (de_var 17 (pv 17)) da_nil)))))))) (dss_one (ds_ret de_bl)) dss_nil)
    (dss_cons (ds_set sc__law_products_right.nd (i := 18) rfl (by first | exact Or.inl rfl | exact Or.inr rfl) (de_call (ok__law_pick Z) (hr.mono (by decide)) (by rfl) (da_cons (de_var 0 (pv 0)) (da_cons (de_lst (da_cons de_int (da_cons de_int (da_cons (de_neg de_int) (da_cons de_int (da_cons (de_var 1 (pv 1)) (da_cons (de_pow de_int de_int) (da_cons (de_neg de_int) da_nil)))))))) da_nil))))
    (dss_cons (ds_comp (i := 19) (own := [("_law_a", 13)]) rfl sc__law_products_right.nd rfl rfl (sw_true rfl rfl rfl (by decide +kernel)) (di_seq (de_var 5 (pv 5))) (blkOk_by (by rfl)) (fun _ _ _ _ _ => (dg_name (i := 13) sc__law_products_right.nd rfl (by first | exact Or.inl rfl | exact Or.inr rfl))) (fun _ _ _ _ _ => dts_nil) (fun _ _ _ _ _ => (de_frz (df_comp (own := [("_law_item", 20)]) rfl sc__law_products_right.nd (di_seq (de_var 13 (pv 13))) (blkOk_by (by rfl)) (fun _ _ _ _ _ => (dg_name (i := 20) sc__law_products_right.nd rfl (by first | exact Or.inl rfl | exact Or.inr rfl))) (fun _ _ _ _ _ => dts_nil) (fun _ _ _ _ _ => (de_frz (df_mulG (de_var 20 (pv 20)) (de_var 18 (pv 18)))))))))
    (dss_cons (ds_if (dt_not (dt_val (de_call (ok__law_shows Z) (hr.mono (by decide)) (by rfl) (da_cons (de_callK0 (okk_scaled_number_one Z) (hr.mono (by decide)) (by rfl) (dk_cons (de_var 18 (pv 18)) (dk_cons (de_var 9 (pv 9)) dk_nil))) (da_cons (de_var 1 (pv 1)) (da_cons (de_var 2 (pv 2)) (da_cons (de_var 3 (pv 3)) (da_cons (de_var 19 (pv 19)) da_nil)))))))) (dss_one (ds_ret de_bl)) dss_nil)
    (dss_cons (ds_if (dt_not (dt_val (de_call (ok__law_shows Z) (hr.mono (by decide)) (by rfl) (da_cons (de_call (ok_across Z) (hr.mono (by decide)) (by rfl) (da_cons (de_var 9 (pv 9)) da_nil)) (da_cons (de_var 1 (pv 1)) (da_cons (de_var 3 (pv 3)) (da_cons (de_var 2 (pv 2)) (da_cons (de_call (ok__law_turned Z) (hr.mono (by decide)) (by rfl) (da_cons (de_var 5 (pv 5)) (da_cons (de_var 3 (pv 3)) da_nil))) da_nil)))))))) (dss_one (ds_ret de_bl)) dss_nil)
    (dss_cons (ds_set sc__law_products_right.nd (i := 21) rfl (by first | exact Or.inl rfl | exact Or.inr rfl) (de_frz (df_make (ok_Table Z) (hr.mono (by decide)) (by rfl) (da_cons (de_var 1 (pv 1)) (da_cons (de_frz (df_add (de_var 3 (pv 3)) de_int)) (da_cons de_int (da_cons (de_frz (df_mulG (de_lst (da_cons (de_lst (da_cons de_int da_nil)) da_nil)) (de_frz (df_add (de_var 3 (pv 3)) de_int)))) da_nil)))))))
    (dss_cons (ds_if (dt_not (dt_val (de_lam (okc__law_is_bad Z) (hr.mono (by decide)) (by rfl) (Z.tb tq__law_products_right tin__law_products_right) hcd (Z.tm tq__law_products_right tin__law_products_right) (Z.tu tq__law_products_right tin__law_products_right) (LamX.lamS_by (by rfl)) rfl (fun _ _ _ _ _ => rfl) (fun f c2 A2 outer2 s2 H2 E2 B2 hT2 hr => by
      have Z := Z
      rw [← hT2] at Z
      exact (de_call (ok_times Z) (hr.mono (by decide)) (by rfl) (da_cons (de_var 9 (pv 9)) (da_cons (de_var 21 (pv 21)) da_nil))))))) (dss_one (ds_ret de_bl)) dss_nil)
    (dss_cons (ds_set sc__law_products_right.nd (i := 22) rfl (by first | exact Or.inl rfl | exact Or.inr rfl) (de_frz (df_make (ok_Table Z) (hr.mono (by decide)) (by rfl) (da_cons (de_ifExp (dt_cmp (op_neD hr.u64) l_ne (de_var 1 (pv 1)) de_int (by rfl)) de_int de_int) (da_cons (de_var 2 (pv 2)) (da_cons (de_var 3 (pv 3)) (da_cons (de_var 5 (pv 5)) da_nil)))))))
    (dss_cons (ds_set sc__law_products_right.nd (i := 23) rfl (by first | exact Or.inl rfl | exact Or.inr rfl) (de_frz (df_make (ok_Table Z) (hr.mono (by decide)) (by rfl) (da_cons (de_var 1 (pv 1)) (da_cons (de_frz (df_add (de_var 2 (pv 2)) de_int)) (da_cons (de_var 3 (pv 3)) (da_cons (de_frz (df_mulG (de_lst (da_cons (de_frz (df_mulG (de_lst (da_cons de_int da_nil)) (de_var 3 (pv 3)))) da_nil)) (de_frz (df_add (de_var 2 (pv 2)) de_int)))) da_nil)))))))
    (dss_cons (ds_for (passes_of rfl) rfl (di_seq (de_lst (da_cons (de_glo (by rfl) (Z.g 15 rfl)) (da_cons (de_glo (by rfl) (Z.g 16 rfl)) da_nil)))) (dg_name (i := 24) sc__law_products_right.nd rfl (by first | exact Or.inl rfl | exact Or.inr rfl)) (dss_cons (ds_if (dt_not (dt_val (de_lam (okc__law_is_bad Z) (hr.mono (by decide)) (by rfl) (Z.tb tq__law_products_right tin__law_products_right) hcd (Z.tm tq__law_products_right tin__law_products_right) (Z.tu tq__law_products_right tin__law_products_right) (LamX.lamS_by (by rfl)) rfl (fun _ _ _ _ _ => rfl) (fun f c2 A2 outer2 s2 H2 E2 B2 hT2 hr => by
      have Z := Z
      rw [← hT2] at Z
      exact (de_callV (held2_ok Z) (hr.mono (by decide)) (de_var 24 (pv 24)) (da_cons (de_var 9 (pv 9)) (da_cons (de_var 22 (pv 22)) da_nil))))))) (dss_one (ds_ret de_bl)) dss_nil)
    (dss_one (ds_if (dt_not (dt_val (de_lam (okc__law_is_bad Z) (hr.mono (by decide)) (by rfl) (Z.tb tq__law_products_right tin__law_products_right) hcd (Z.tm tq__law_products_right tin__law_products_right) (Z.tu tq__law_products_right tin__law_products_right) (LamX.lamS_by (by rfl)) rfl (fun _ _ _ _ _ => rfl) (fun f c2 A2 outer2 s2 H2 E2 B2 hT2 hr => by
      have Z := Z
      rw [← hT2] at Z
      exact (de_callV (held2_ok Z) (hr.mono (by decide)) (de_var 24 (pv 24)) (da_cons (de_var 9 (pv 9)) (da_cons (de_var 23 (pv 23)) da_nil))))))) (dss_one (ds_ret de_bl)) dss_nil))))
    (dss_one (ds_ret (de_and (de_neA (k := 3) (eqs_ok Z) (hr.mono (by decide)) (de_var 9 (pv 9)) (de_var 22 (pv 22))) (de_one (de_cmp (op_eqD hr.u64) l_eq (de_eqA (k := 3) (eqs_ok Z) (hr.mono (by decide)) (de_var 9 (pv 9)) (de_var 11 (pv 11))) (de_cmp (op_eqD hr.u64) l_eq (de_call (ok__law_rests Z) (hr.mono (by decide)) (by rfl) (da_cons (de_var 1 (pv 1)) (da_cons (de_var 5 (pv 5)) da_nil))) (de_call (ok__law_rests Z) (hr.mono (by decide)) (by rfl) (da_cons (de_var 1 (pv 1)) (da_cons (de_var 7 (pv 7)) da_nil))) (by rfl)) (by rfl)))))))))))))))))))))))))))
theorem ok__law_products_right (Z : ZZ P K mg base T) : FnD P w K mg base T "_law_products_right" 16 ["_law_draw", "_law_field_here"] (dBody N__law_products_right.length t__law_products_right) := (okg__law_products_right Z).fnD (Z.g 41 rfl) (fun _ _ _ _ _ _ us hl => match us, hl with | [_, _], _ => rfl)
theorem okk_beside_tables (Z : ZZ P K mg base T) : FnK P w K mg base T "beside" 6 ["tables"] (dBody N_beside.length t_beside) 0 ["tables"] [0] :=
  (okg_beside Z).fnK (Z.g 23 rfl) (fun _ _ _ _ _ _ us ws h1 h2 => match us, ws, h1, h2 with | [], [_], _, _ => by rfl)
theorem okk_corner_tables (Z : ZZ P K mg base T) : FnK P w K mg base T "corner" 6 ["tables"] (dBody N_corner.length t_corner) 0 ["tables"] [0] :=
  (okg_corner Z).fnK (Z.g 25 rfl) (fun _ _ _ _ _ _ us ws h1 h2 => match us, ws, h1, h2 with | [], [_], _, _ => by rfl)
theorem okk_over_tables (Z : ZZ P K mg base T) : FnK P w K mg base T "over" 6 ["tables"] (dBody N_over.length t_over) 0 ["tables"] [0] :=
  (okg_over Z).fnK (Z.g 24 rfl) (fun _ _ _ _ _ _ us ws h1 h2 => match us, ws, h1, h2 with | [], [_], _, _ => by rfl)
def t__law_lists_right : TDS := (dSeq (dAsg (dTup (dCons (dCall (dBody N__law_size.length t__law_size) 1 (dCons (dVar 0) dNil)) (dCons (dFrz (dComp (dRange1 (dCons (dFrz (f2 addF (dC (.int 1)) (dCall (dBody N__law_take.length t__law_take) 2 (dCons (dVar 0) (dCons (dC (.int 3)) dNil))))) dNil)) (gN 4) dYes (dCall (dBody N__law_size.length t__law_size) 1 (dCons (dVar 0) dNil)) [4])) dNil))) (gT 2 (gsCons (gN 2) (gsCons (gN 3) gsNil))))
    (dSeq (dSetX 5 (dComp (dSeqI (dVar 3)) (gN 6) dYes (dCall (dBody N__law_wild.length t__law_wild) 4 (dCons (dVar 0) (dCons (dVar 1) (dCons (dVar 2) (dCons (dVar 6) dNil))))) [6]))
    (dSeq (dSetX 7 (dComp (dZipB (dCons (dVar 3) (dCons (dVar 5) dNil))) (gT 2 (gsCons (gN 6) (gsCons (gN 8) gsNil))) dYes (dFrz (fMake "Table" wi_Table 4 (dCons (dVar 1) (dCons (dVar 2) (dCons (dVar 6) (dCons (dVar 8) dNil)))))) [6, 8]))
    (dSeq (dSetX 9 (dComp (dRange1 (dCons (dVar 2) dNil)) (gN 4) dYes (dFrz (fCB sumLF (dCons (dFrz (dComp (dSeqI (dVar 5)) (gN 8) dYes (d2 ixD (dVar 8) (dVar 4)) [8])) (dCons (dLst dNil) dNil)))) [4]))
    (dSeq (dIfS (dNot (dTest (dCall (dBody N__law_shows.length t__law_shows) 5 (dCons (dCallK (dBody N_beside.length t_beside) 1 0 1 [0] dNil (dCons (dVar 7) dNil)) (dCons (dVar 1) (dCons (dVar 2) (dCons (dCB (onL sumL) (dCons (dVar 3) dNil)) (dCons (dVar 9) dNil)))))))) (dRet (dC (.bl false))) dNext)
    (dSeq (dSetX 10 (dComp (dZipB (dCons (dVar 3) (dCons (dVar 5) dNil))) (gT 2 (gsCons (gN 6) (gsCons (gN 8) gsNil))) dYes (dFrz (fMake "Table" wi_Table 4 (dCons (dVar 1) (dCons (dVar 6) (dCons (dVar 2) (dCons (dCall (dBody N__law_turned.length t__law_turned) 2 (dCons (dVar 8) (dCons (dVar 6) dNil))) dNil)))))) [6, 8]))
    (dSeq (dIfS (dNot (dTest (dCall (dBody N__law_shows.length t__law_shows) 5 (dCons (dCallK (dBody N_over.length t_over) 1 0 1 [0] dNil (dCons (dCB tupD (dCons (dVar 10) dNil)) dNil)) (dCons (dVar 1) (dCons (dCB (onL sumL) (dCons (dVar 3) dNil)) (dCons (dVar 2) (dCons (dCall (dBody N__law_turned.length t__law_turned) 2 (dCons (dVar 9) (dCons (dCB (onL sumL) (dCons (dVar 3) dNil)) dNil))) dNil)))))))) (dRet (dC (.bl false))) dNext)
    (dSeq (dAsg (dTup (dCons (dLst dNil) (dCons (dC (.int 0)) dNil))) (gT 2 (gsCons (gN 11) (gsCons (gN 12) gsNil))))
    (dSeq (dFor (dZipB (dCons (dVar 3) (dCons (dVar 5) dNil))) (gT 2 (gsCons (gN 6) (gsCons (gN 8) gsNil))) (dSeq (dSet 13 (dFrz (f2 mulG (dLst (dCons (dC (.int 0)) dNil)) (d2 subD (d2 subD (dCB (onL sumL) (dCons (dVar 3) dNil)) (dVar 12)) (dVar 6)))))
    (dSeq (dSet 11 (dFrz (f2 addF (dVar 11) (dFrz (dComp (dSeqI (dVar 8)) (gN 14) dYes (dFrz (f2 addF (dFrz (f2 addF (dFrz (f2 mulG (dLst (dCons (dC (.int 0)) dNil)) (dVar 12))) (dVar 14))) (dVar 13))) [14])))))
    (dSet 12 (dFrz (f2 addF (dVar 12) (dVar 6)))))))
    (dSeq (dIfS (dNot (dTest (dCall (dBody N__law_shows.length t__law_shows) 5 (dCons (dCallK (dBody N_corner.length t_corner) 1 0 1 [0] dNil (dCons (dVar 7) dNil)) (dCons (dVar 1) (dCons (dFrz (f2 mulG (dVar 2) (dCB lenD (dCons (dVar 3) dNil)))) (dCons (dCB (onL sumL) (dCons (dVar 3) dNil)) (dCons (dVar 11) dNil)))))))) (dRet (dC (.bl false))) dNext)
    (dSeq (dSet 15 (dFrz (fMake "Table" wi_Table 4 (dCons (dIf (dTest (d2 neD (dVar 1) (dC (.int 5)))) (dC (.int 5)) (dC (.int 7))) (dCons (dVar 2) (dCons (dC (.int 0)) (dCons (dFrz (f2 mulG (dLst (dCons (dLst dNil) dNil)) (dVar 2))) dNil)))))))
    (dSeq (dFor (dSeqI (dLst (dCons (dC (.glo "beside")) (dCons (dC (.glo "over")) (dCons (dC (.glo "corner")) dNil))))) (gN 16) (dFor (dSeqI (dLst (dCons (dLst dNil) (dCons (dC .non) (dCons (dFrz (f2 addF (dVar 7) (dLst (dCons (dC .non) dNil)))) (dCons (dFrz (f2 addF (dVar 7) (dLst (dCons (dVar 15) dNil)))) dNil)))))) (gN 17) (dIfS (dNot (dTest (dLam wg__law_is_bad (dCallV held1 1 (dVar 16) (dCons (dVar 17) dNil))))) (dRet (dC (.bl false))) dNext)))
    (dSeq (dSet 18 (dFrz (fMake "Table" wi_Table 4 (dCons (dVar 1) (dCons (dFrz (f2 addF (dVar 2) (dC (.int 1)))) (dCons (dC (.int 1)) (dCons (dFrz (f2 mulG (dLst (dCons (dLst (dCons (dC (.int 0)) dNil)) dNil)) (dFrz (f2 addF (dVar 2) (dC (.int 1)))))) dNil)))))))
    (dRet (dLam wg__law_is_bad (dCall (dBody N_beside.length t_beside) 1 (dCons (dFrz (f2 addF (dVar 7) (dLst (dCons (dVar 18) dNil)))) dNil)))))))))))))))))
theorem okg__law_lists_right (Z : ZZ P K mg base T) : FnB P w K mg base T d__law_lists_right 16 ["_law_draw", "_law_field_here"] (dBody N__law_lists_right.length t__law_lists_right) :=
  Z.toZk.fnB 43 rfl rfl rfl sc__law_lists_right fun cdv A outer s H E B hcd hT hr => by
    subst hT
    exact (dss_cons (ds_asg (de_tup (da_cons (de_call (ok__law_size Z) (hr.mono (by decide)) (by rfl) (da_cons (de_var 0 (pv 0)) da_nil)) (da_cons (de_frz (df_comp (own := [("_law_k", 4)]) rfl sc__law_lists_right.nd (di_range1 (by rfl) (Z.f 10 rfl) (da_cons (de_frz (df_add de_int (de_call (ok__law_take Z) (hr.mono (by decide)) (by rfl) (da_cons (de_var 0 (pv 0)) (da_cons de_int da_nil))))) da_nil)) (blkOk_by (by rfl)) (fun _ _ _ _ _ => (dg_name (i := 4) sc__law_lists_right.nd rfl (by first | exact Or.inl rfl | exact Or.inr rfl))) (fun _ _ _ _ _ => dts_nil) (fun _ _ _ _ _ => (de_call (ok__law_size Z) (hr.mono (by decide)) (by rfl) (da_cons (de_var 0 (pv 0)) da_nil))))) da_nil))) (dg_tup rfl (dgs_cons (dg_name (i := 2) sc__law_lists_right.nd rfl (by first | exact Or.inl rfl | exact Or.inr rfl)) (dgs_cons (dg_name (i := 3) sc__law_lists_right.nd rfl (by first | exact Or.inl rfl | exact Or.inr rfl)) dgs_nil))))
    (dss_cons (ds_setX sc__law_lists_right.nd (i := 5) rfl (by first | exact Or.inl rfl | exact Or.inr rfl) (df_comp (own := [("_law_size_here", 6)]) rfl sc__law_lists_right.nd (di_seq (de_var 3 (pv 3))) (blkOk_by (by rfl)) (fun _ _ _ _ _ => (dg_name (i := 6) sc__law_lists_right.nd rfl (by first | exact Or.inl rfl | exact Or.inr rfl))) (fun _ _ _ _ _ => dts_nil) (fun _ _ _ _ _ => (de_call (ok__law_wild Z) (hr.mono (by decide)) (by rfl) (da_cons (de_var 0 (pv 0)) (da_cons (de_var 1 (pv 1)) (da_cons (de_var 2 (pv 2)) (da_cons (de_var 6 (pv 6)) da_nil))))))))
    (dss_cons (ds_setX sc__law_lists_right.nd (i := 7) rfl (by first | exact Or.inl rfl | exact Or.inr rfl) (df_comp (own := [("_law_size_here", 6), ("_law_some", 8)]) rfl sc__law_lists_right.nd (di_zipB (by rfl) (Z.f 8 rfl) (da_cons (de_var 3 (pv 3)) (da_cons (de_var 5 (pv 5)) da_nil))) (blkOk_by (by rfl)) (fun _ _ _ _ _ => (dg_tup rfl (dgs_cons (dg_name (i := 6) sc__law_lists_right.nd rfl (by first | exact Or.inl rfl | exact Or.inr rfl)) (dgs_cons (dg_name (i := 8) sc__law_lists_right.nd rfl (by first | exact Or.inl rfl | exact Or.inr rfl)) dgs_nil)))) (fun _ _ _ _ _ => dts_nil) (fun _ _ _ _ _ => (de_frz (df_make (ok_Table Z) (hr.mono (by decide)) (by rfl) (da_cons (de_var 1 (pv 1)) (da_cons (de_var 2 (pv 2)) (da_cons (de_var 6 (pv 6)) (da_cons (de_var 8 (pv 8)) da_nil)))))))))
    (dss_cons (ds_comp (i := 9) (own := [("_law_k", 4)]) rfl sc__law_lists_right.nd rfl rfl (sw_true rfl rfl rfl (by decide +kernel)) (di_range1 (by rfl) (Z.f 10 rfl) (da_cons (de_var 2 (pv 2)) da_nil)) (blkOk_by (by rfl)) (fun _ _ _ _ _ => (dg_name (i := 4) sc__law_lists_right.nd rfl (by first | exact Or.inl rfl | exact Or.inr rfl))) (fun _ _ _ _ _ => dts_nil) (fun _ _ _ _ _ => (de_frz (df_callB (cr_sumL (by rfl)) lf_sumL (by rfl) (Z.f 12 rfl) bt_sum (da_cons (de_frz (df_comp (own := [("_law_some", 8)]) rfl sc__law_lists_right.nd (di_seq (de_var 5 (pv 5))) (blkOk_by (by rfl)) (fun _ _ _ _ _ => (dg_name (i := 8) sc__law_lists_right.nd rfl (by first | exact Or.inl rfl | exact Or.inr rfl))) (fun _ _ _ _ _ => dts_nil) (fun _ _ _ _ _ => (de_ix (ix_all hr.u1) l_ix (de_var 8 (pv 8)) (de_var 4 (pv 4)) (by intro _ _; rfl))))) (da_cons (de_lst da_nil) da_nil))))))
    (dss_cons (ds_if (dt_not (dt_val (de_call (ok__law_shows Z) (hr.mono (by decide)) (by rfl) (da_cons (de_callK0 (okk_beside_tables Z) (hr.mono (by decide)) (by rfl) (dk_cons (de_var 7 (pv 7)) dk_nil)) (da_cons (de_var 1 (pv 1)) (da_cons (de_var 2 (pv 2)) (da_cons (de_callB (cr_sum (by rfl)) lc_sum (by rfl) (Z.f 12 rfl) bt_sum (da_cons (de_var 3 (pv 3)) da_nil)) (da_cons (de_var 9 (pv 9)) da_nil)))))))) (dss_one (ds_ret de_bl)) dss_nil)
    (dss_cons (ds_comp (i := 10) (own := [("_law_size_here", 6), ("_law_some", 8)]) rfl sc__law_lists_right.nd rfl rfl (sw_true rfl rfl rfl (by decide +kernel)) (di_zipB (by rfl) (Z.f 8 rfl) (da_cons (de_var 3 (pv 3)) (da_cons (de_var 5 (pv 5)) da_nil))) (blkOk_by (by rfl)) (fun _ _ _ _ _ => (dg_tup rfl (dgs_cons (dg_name (i := 6) sc__law_lists_right.nd rfl (by first | exact Or.inl rfl | exact Or.inr rfl)) (dgs_cons (dg_name (i := 8) sc__law_lists_right.nd rfl (by first | exact Or.inl rfl | exact Or.inr rfl)) dgs_nil)))) (fun _ _ _ _ _ => dts_nil) (fun _ _ _ _ _ => (de_frz (df_make (ok_Table Z) (hr.mono (by decide)) (by rfl) (da_cons (de_var 1 (pv 1)) (da_cons (de_var 6 (pv 6)) (da_cons (de_var 2 (pv 2)) (da_cons (de_call (ok__law_turned Z) (hr.mono (by decide)) (by rfl) (da_cons (de_var 8 (pv 8)) (da_cons (de_var 6 (pv 6)) da_nil))) da_nil))))))))
    (dss_cons (ds_if (dt_not (dt_val (de_call (ok__law_shows Z) (hr.mono (by decide)) (by rfl) (da_cons (de_callK0 (okk_over_tables Z) (hr.mono (by decide)) (by rfl) (dk_cons (de_callTy call_tuple_of lc_tup (by rfl) (Z.f 4 rfl) bt_tuple (da_cons (de_var 10 (pv 10)) da_nil)) dk_nil)) (da_cons (de_var 1 (pv 1)) (da_cons (de_callB (cr_sum (by rfl)) lc_sum (by rfl) (Z.f 12 rfl) bt_sum (da_cons (de_var 3 (pv 3)) da_nil)) (da_cons (de_var 2 (pv 2)) (da_cons (de_call (ok__law_turned Z) (hr.mono (by decide)) (by rfl) (da_cons (de_var 9 (pv 9)) (da_cons (de_callB (cr_sum (by rfl)) lc_sum (by rfl) (Z.f 12 rfl) bt_sum (da_cons (de_var 3 (pv 3)) da_nil)) da_nil))) da_nil)))))))) (dss_one (ds_ret de_bl)) dss_nil)
    (dss_cons (ds_asg (de_tup (da_cons (de_lst da_nil) (da_cons de_int da_nil))) (dg_tup rfl (dgs_cons (dg_name (i := 11) sc__law_lists_right.nd rfl (by first | exact Or.inl rfl | exact Or.inr rfl)) (dgs_cons (dg_name (i := 12) sc__law_lists_right.nd rfl (by first | exact Or.inl rfl | exact Or.inr rfl)) dgs_nil))))
    (dss_cons (ds_for (passes_of rfl) rfl (di_zipB (by rfl) (Z.f 8 rfl) (da_cons (de_var 3 (pv 3)) (da_cons (de_var 5 (pv 5)) da_nil))) (dg_tup rfl (dgs_cons (dg_name (i := 6) sc__law_lists_right.nd rfl (by first | exact Or.inl rfl | exact Or.inr rfl)) (dgs_cons (dg_name (i := 8) sc__law_lists_right.nd rfl (by first | exact Or.inl rfl | exact Or.inr rfl)) dgs_nil))) (dss_cons (ds_set sc__law_lists_right.nd (i := 13) rfl (by first | exact Or.inl rfl | exact Or.inr rfl) (de_frz (df_mulG (de_lst (da_cons de_int da_nil)) (de_sub (de_sub (de_callB (cr_sum (by rfl)) lc_sum (by rfl) (Z.f 12 rfl) bt_sum (da_cons (de_var 3 (pv 3)) da_nil)) (de_var 12 (pv 12))) (de_var 6 (pv 6))))))
    (dss_cons (ds_set sc__law_lists_right.nd (i := 11) rfl (by first | exact Or.inl rfl | exact Or.inr rfl) (de_frz (df_add (de_var 11 (pv 11)) (de_frz (df_comp (own := [("_law_line_here", 14)]) rfl sc__law_lists_right.nd (di_seq (de_var 8 (pv 8))) (blkOk_by (by rfl)) (fun _ _ _ _ _ => (dg_name (i := 14) sc__law_lists_right.nd rfl (by first | exact Or.inl rfl | exact Or.inr rfl))) (fun _ _ _ _ _ => dts_nil) (fun _ _ _ _ _ => (de_frz (df_add (de_frz (df_add (de_frz (df_mulG (de_lst (da_cons de_int da_nil)) (de_var 12 (pv 12)))) (de_var 14 (pv 14)))) (de_var 13 (pv 13))))))))))
    (dss_one (ds_set sc__law_lists_right.nd (i := 12) rfl (by first | exact Or.inl rfl | exact Or.inr rfl) (de_frz (df_add (de_var 12 (pv 12)) (de_var 6 (pv 6)))))))))
    (dss_cons (ds_if (dt_not (dt_val (de_call (ok__law_shows Z) (hr.mono (by decide)) (by rfl) (da_cons (de_callK0 (okk_corner_tables Z) (hr.mono (by decide)) (by rfl) (dk_cons (de_var 7 (pv 7)) dk_nil)) (da_cons (de_var 1 (pv 1)) (da_cons (de_frz (df_mulG (de_var 2 (pv 2)) (de_callB call_lenA lc_len (by rfl) (Z.f 5 rfl) bt_len (da_cons (de_var 3 (pv 3)) da_nil)))) (da_cons (de_callB (cr_sum (by rfl)) lc_sum (by rfl) (Z.f 12 rfl) bt_sum (da_cons (de_var 3 (pv 3)) da_nil)) (da_cons (de_var 11 (pv 11)) da_nil)))))))) (dss_one (ds_ret de_bl)) dss_nil)
    (dss_cons (ds_set sc__law_lists_right.nd (i := 15) rfl (by first | exact Or.inl rfl | exact Or.inr rfl) (de_frz (df_make (ok_Table Z) (hr.mono (by decide)) (by rfl) (da_cons (de_ifExp (dt_cmp (op_neD hr.u64) l_ne (de_var 1 (pv 1)) de_int (by rfl)) de_int de_int) (da_cons (de_var 2 (pv 2)) (da_cons de_int (da_cons (de_frz (df_mulG (de_lst (da_cons (de_lst da_nil) da_nil)) (de_var 2 (pv 2)))) da_nil)))))))
    (dss_cons (ds_for (passes_of rfl) rfl (di_seq (de_lst (da_cons (de_glo (by rfl) (Z.g 23 rfl)) (da_cons (de_glo (by rfl) (Z.g 24 rfl)) (da_cons (de_glo (by rfl) (Z.g 25 rfl)) da_nil))))) (dg_name (i := 16) sc__law_lists_right.nd rfl (by first | exact Or.inl rfl | exact Or.inr rfl)) (dss_one (ds_for (passes_of rfl) rfl (di_seq (de_lst (da_cons (de_lst da_nil) (da_cons de_non (da_cons (de_frz (df_add (de_var 7 (pv 7)) (de_lst (da_cons de_non da_nil)))) (da_cons (de_frz (df_add (de_var 7 (pv 7)) (de_lst (da_cons (de_var 15 (pv 15)) da_nil)))) da_nil)))))) (dg_name (i := 17) sc__law_lists_right.nd rfl (by first | exact Or.inl rfl | exact Or.inr rfl)) (dss_one (ds_if (dt_not (dt_val (de_lam (okc__law_is_bad Z) (hr.mono (by decide)) (by rfl) (Z.tb tq__law_lists_right tin__law_lists_right) hcd (Z.tm tq__law_lists_right tin__law_lists_right) (Z.tu tq__law_lists_right tin__law_lists_right) (LamX.lamS_by (by rfl)) rfl (fun _ _ _ _ _ => rfl) (fun f c2 A2 outer2 s2 H2 E2 B2 hT2 hr => by
      have Z := Z
      rw [← hT2] at Z
      exact (de_callV (held1_ok Z) (hr.mono (by decide)) (de_var 16 (pv 16)) (da_cons (de_var 17 (pv 17)) da_nil)))))) (dss_one (ds_ret de_bl)) dss_nil)))))
    (dss_cons (ds_set sc__law_lists_right.nd (i := 18) rfl (by first | exact Or.inl rfl | exact Or.inr rfl) (de_frz (df_make (ok_Table Z) (hr.mono (by decide)) (by rfl) (da_cons (de_var 1 (pv 1)) (da_cons (de_frz (df_add (de_var 2 (pv 2)) de_int)) (da_cons de_int (da_cons (de_frz (df_mulG (de_lst (da_cons (de_lst (da_cons de_int da_nil)) da_nil)) (de_frz (df_add (de_var 2 (pv 2)) de_int)))) da_nil)))))))
    (dss_one (ds_ret (de_lam (okc__law_is_bad Z) (hr.mono (by decide)) (by rfl) (Z.tb tq__law_lists_right tin__law_lists_right) hcd (Z.tm tq__law_lists_right tin__law_lists_right) (Z.tu tq__law_lists_right tin__law_lists_right) (LamX.lamS_by (by rfl)) rfl (fun _ _ _ _ _ => rfl) (fun f c2 A2 outer2 s2 H2 E2 B2 hT2 hr => by
      have Z := Z
      rw [← hT2] at Z
      exact (de_call (ok_beside Z) (hr.mono (by decide)) (by rfl) (da_cons (de_frz (df_add (de_var 7 (pv 7)) (de_lst (da_cons (de_var 18 (pv 18)) da_nil)))) da_nil)))))))))))))))))))
theorem ok__law_lists_right (Z : ZZ P K mg base T) : FnD P w K mg base T "_law_lists_right" 16 ["_law_draw", "_law_field_here"] (dBody N__law_lists_right.length t__law_lists_right) := (okg__law_lists_right Z).fnD (Z.g 42 rfl) (fun _ _ _ _ _ _ us hl => match us, hl with | [_, _], _ => rfl)
def t__law_is_prime : TDS := (dSeq (dIfS (dOr (dTest (d2 ltD (dVar 0) (dC (.int 2)))) (dTest (d2 gtD (dVar 0) (dC (.int 97))))) (dRet (dC (.bl false))) dNext)
    (dRet (d2 eqD (dFrz (dComp (dRange2 (dCons (dC (.int 2)) (dCons (dVar 0) dNil))) (gN 1) (dTest (d2 eqD (d2 modD (dVar 0) (dVar 1)) (dC (.int 0)))) (dVar 1) [1])) (dLst dNil))))
theorem okg__law_is_prime (Z : ZZ P K mg base T) : FnB P w K mg base T d__law_is_prime 1 ["_law_number"] (dBody N__law_is_prime.length t__law_is_prime) :=
  Z.toZk.fnB 44 rfl rfl rfl sc__law_is_prime fun cdv A outer s H E B hcd hT hr => by
    subst hT
    exact (dss_cons (ds_if (DWh.dt (dw_or (dt_cmp op_lt l_lt (de_var 0 (pv 0)) de_int (by rfl)) (dw_or1 (dt_cmp op_gt l_gt (de_var 0 (pv 0)) de_int (by rfl))))) (dss_one (ds_ret de_bl)) dss_nil)
    (dss_one (ds_ret (de_cmp (op_eqD hr.u64) l_eq (de_frz (df_comp (own := [("_law_k", 1)]) rfl sc__law_is_prime.nd (di_range2 (by rfl) (Z.f 10 rfl) (da_cons de_int (da_cons (de_var 0 (pv 0)) da_nil))) (blkOk_by (by rfl)) (fun _ _ _ _ _ => (dg_name (i := 1) sc__law_is_prime.nd rfl (by first | exact Or.inl rfl | exact Or.inr rfl))) (fun _ _ _ _ _ => (dts_one (dt_cmp (op_eqD hr.u64) l_eq (de_mod (de_var 0 (pv 0)) (de_var 1 (pv 1))) de_int (by rfl)))) (fun _ _ _ _ _ => (de_var 1 (pv 1))))) (de_lst da_nil) (by rfl)))))
theorem ok__law_is_prime (Z : ZZ P K mg base T) : FnD P w K mg base T "_law_is_prime" 1 ["_law_number"] (dBody N__law_is_prime.length t__law_is_prime) := (okg__law_is_prime Z).fnD (Z.g 43 rfl) (fun _ _ _ _ _ _ us hl => match us, hl with | [_], _ => rfl)
def t__law_primes_right : TDS := (dSeq (dSet 1 (dIf (dTest (d2 eqD (dCall (dBody N__law_take.length t__law_take) 2 (dCons (dVar 0) (dCons (dC (.int 4)) dNil))) (dC (.int 0)))) (dFrz (fListRg2 (d1 negD (dC (.int 1))) (dC (.int 102)))) (dFrz (dComp (dRange1 (dCons (dC (.int 6)) dNil)) (gN 2) dYes (d2 subD (dCall (dBody N__law_take.length t__law_take) 2 (dCons (dVar 0) (dCons (dC (.int 104)) dNil))) (dC (.int 1))) [2]))))
    (dSeq (dFor (dSeqI (dVar 1)) (gN 3) (dSeq (dSet 4 (dLam wg__law_caught (dFrz (fMake "Table" wi_Table 4 (dCons (dVar 3) (dCons (dC (.int 0)) (dCons (dC (.int 0)) (dCons (dLst dNil) dNil))))))))
    (dSeq (dIfS (dAnd (dTest (dCall (dBody N__law_is_prime.length t__law_is_prime) 1 (dCons (dVar 3) dNil))) (dTest (d2 isnD (dVar 4) (dC .non)))) (dRet (dC (.bl false))) dNext)
    (dIfS (dAnd (dNot (dTest (dCall (dBody N__law_is_prime.length t__law_is_prime) 1 (dCons (dVar 3) dNil)))) (dNot (dTest (dCB (isaD C.isas) (dCons (dVar 4) (dCons (dC (.glo "BadPrime")) dNil)))))) (dRet (dC (.bl false))) dNext))))
    (dRet (dC (.bl true)))))
theorem okg__law_primes_right (Z : ZZ P K mg base T) : FnB P w K mg base T d__law_primes_right 15 ["_law_draw"] (dBody N__law_primes_right.length t__law_primes_right) :=
  Z.toZk.fnB 45 rfl rfl rfl sc__law_primes_right fun cdv A outer s H E B hcd hT hr => by
    subst hT
    exact (dss_cons (ds_set sc__law_primes_right.nd (i := 1) rfl (by first | exact Or.inl rfl | exact Or.inr rfl) (de_ifExp (dt_cmp (op_eqD hr.u64) l_eq (de_call (ok__law_take Z) (hr.mono (by decide)) (by rfl) (da_cons (de_var 0 (pv 0)) (da_cons de_int da_nil))) de_int (by rfl)) (de_frz (df_listRg2 rfl (by rfl) (Z.f 3 rfl) (by rfl) (Z.f 10 rfl) (de_neg de_int) de_int)) (de_frz (df_comp (own := [("_law_lap", 2)]) rfl sc__law_primes_right.nd (di_range1 (by rfl) (Z.f 10 rfl) (da_cons de_int da_nil)) (blkOk_by (by rfl)) (fun _ _ _ _ _ => (dg_name (i := 2) sc__law_primes_right.nd rfl (by first | exact Or.inl rfl | exact Or.inr rfl))) (fun _ _ _ _ _ => dts_nil) (fun _ _ _ _ _ => (de_sub (de_call (ok__law_take Z) (hr.mono (by decide)) (by rfl) (da_cons (de_var 0 (pv 0)) (da_cons de_int da_nil))) de_int))))))
    (dss_cons (ds_for (passes_of rfl) rfl (di_seq (de_var 1 (pv 1))) (dg_name (i := 3) sc__law_primes_right.nd rfl (by first | exact Or.inl rfl | exact Or.inr rfl)) (dss_cons (ds_set sc__law_primes_right.nd (i := 4) rfl (by first | exact Or.inl rfl | exact Or.inr rfl) (de_lam (okc__law_caught Z) (hr.mono (by decide)) (by rfl) (Z.tb tq__law_primes_right tin__law_primes_right) hcd (Z.tm tq__law_primes_right tin__law_primes_right) (Z.tu tq__law_primes_right tin__law_primes_right) (LamX.lamS_by (by rfl)) rfl (fun _ _ _ _ _ => rfl) (fun f c2 A2 outer2 s2 H2 E2 B2 hT2 hr => by
      have Z := Z
      rw [← hT2] at Z
      exact (de_frz (df_make (ok_Table Z) (hr.mono (by decide)) (by rfl) (da_cons (de_var 3 (pv 3)) (da_cons de_int (da_cons de_int (da_cons (de_lst da_nil) da_nil)))))))))
    (dss_cons (ds_if (DWh.dt (dw_and (dt_val (de_call (ok__law_is_prime Z) (hr.mono (by decide)) (by rfl) (da_cons (de_var 3 (pv 3)) da_nil))) (dw_and1 (dt_cmp op_notN l_isn (de_var 4 (pv 4)) de_non (by rfl))))) (dss_one (ds_ret de_bl)) dss_nil)
    (dss_one (ds_if (DWh.dt (dw_and (dt_not (dt_val (de_call (ok__law_is_prime Z) (hr.mono (by decide)) (by rfl) (da_cons (de_var 3 (pv 3)) da_nil)))) (dw_and1 (dt_not (dt_val (de_callB call_isa (lc_isa Z.isa) (by rfl) (Z.f 1 rfl) bt_isinstance (da_cons (de_var 4 (pv 4)) (da_cons (de_glo (by rfl) (Z.g 5 rfl)) da_nil)))))))) (dss_one (ds_ret de_bl)) dss_nil)))))
    (dss_one (ds_ret de_bl))))
theorem ok__law_primes_right (Z : ZZ P K mg base T) : FnD P w K mg base T "_law_primes_right" 15 ["_law_draw"] (dBody N__law_primes_right.length t__law_primes_right) := (okg__law_primes_right Z).fnD (Z.g 44 rfl) (fun _ _ _ _ _ _ us hl => match us, hl with | [_], _ => rfl)
def t__law_unequal : TDS := (dSeq (dSet 1 (dIf (dTest (d2 neD (dVar 0) (dC (.int 5)))) (dC (.int 5)) (dC (.int 7))))
    (dSeq (dIfS (dOr (dTest (dEqA C.isas eqs false (dFrz (fMake "Table" wi_Table 4 (dCons (dVar 0) (dCons (dC (.int 0)) (dCons (dC (.int 2)) (dCons (dLst dNil) dNil)))))) (dFrz (fMake "Table" wi_Table 4 (dCons (dVar 0) (dCons (dC (.int 0)) (dCons (dC (.int 3)) (dCons (dLst dNil) dNil)))))))) (dTest (dEqA C.isas eqs false (dFrz (fMake "Table" wi_Table 4 (dCons (dVar 0) (dCons (dC (.int 0)) (dCons (dC (.int 2)) (dCons (dLst dNil) dNil)))))) (dFrz (fMake "Table" wi_Table 4 (dCons (dVar 1) (dCons (dC (.int 0)) (dCons (dC (.int 2)) (dCons (dLst dNil) dNil))))))))) (dRet (dC (.bl false))) dNext)
    (dSeq (dIfS (dTest (dEqA C.isas eqs false (dFrz (fMake "Table" wi_Table 4 (dCons (dVar 0) (dCons (dC (.int 2)) (dCons (dC (.int 0)) (dCons (dLst (dCons (dLst dNil) (dCons (dLst dNil) dNil))) dNil)))))) (dFrz (fMake "Table" wi_Table 4 (dCons (dVar 1) (dCons (dC (.int 2)) (dCons (dC (.int 0)) (dCons (dLst (dCons (dLst dNil) (dCons (dLst dNil) dNil))) dNil)))))))) (dRet (dC (.bl false))) dNext)
    (dRet (dEqA C.isas eqs false (dFrz (fMake "Table" wi_Table 4 (dCons (dVar 0) (dCons (dC (.int 0)) (dCons (dC (.int 0)) (dCons (dLst dNil) dNil)))))) (dFrz (fMake "Table" wi_Table 4 (dCons (dVar 0) (dCons (dC (.int 0)) (dCons (dC (.int 0)) (dCons (dTup dNil) dNil)))))))))))
theorem okg__law_unequal (Z : ZZ P K mg base T) : FnB P w K mg base T d__law_unequal 6 ["_law_field_here"] (dBody N__law_unequal.length t__law_unequal) :=
  Z.toZk.fnB 46 rfl rfl rfl sc__law_unequal fun cdv A outer s H E B hcd hT hr => by
    subst hT
    exact (dss_cons (ds_set sc__law_unequal.nd (i := 1) rfl (by first | exact Or.inl rfl | exact Or.inr rfl) (de_ifExp (dt_cmp (op_neD hr.u64) l_ne (de_var 0 (pv 0)) de_int (by rfl)) de_int de_int))
    (dss_cons (ds_if (DWh.dt (dw_or (dt_eqA (k := 3) (eqs_ok Z) (hr.mono (by decide)) (de_frz (df_make (ok_Table Z) (hr.mono (by decide)) (by rfl) (da_cons (de_var 0 (pv 0)) (da_cons de_int (da_cons de_int (da_cons (de_lst da_nil) da_nil)))))) (de_frz (df_make (ok_Table Z) (hr.mono (by decide)) (by rfl) (da_cons (de_var 0 (pv 0)) (da_cons de_int (da_cons de_int (da_cons (de_lst da_nil) da_nil))))))) (dw_or1 (dt_eqA (k := 3) (eqs_ok Z) (hr.mono (by decide)) (de_frz (df_make (ok_Table Z) (hr.mono (by decide)) (by rfl) (da_cons (de_var 0 (pv 0)) (da_cons de_int (da_cons de_int (da_cons (de_lst da_nil) da_nil)))))) (de_frz (df_make (ok_Table Z) (hr.mono (by decide)) (by rfl) (da_cons (de_var 1 (pv 1)) (da_cons de_int (da_cons de_int (da_cons (de_lst da_nil) da_nil)))))))))) (dss_one (ds_ret de_bl)) dss_nil)
    (dss_cons (ds_if (dt_eqA (k := 3) (eqs_ok Z) (hr.mono (by decide)) (de_frz (df_make (ok_Table Z) (hr.mono (by decide)) (by rfl) (da_cons (de_var 0 (pv 0)) (da_cons de_int (da_cons de_int (da_cons (de_lst (da_cons (de_lst da_nil) (da_cons (de_lst da_nil) da_nil))) da_nil)))))) (de_frz (df_make (ok_Table Z) (hr.mono (by decide)) (by rfl) (da_cons (de_var 1 (pv 1)) (da_cons de_int (da_cons de_int (da_cons (de_lst (da_cons (de_lst da_nil) (da_cons (de_lst da_nil) da_nil))) da_nil))))))) (dss_one (ds_ret de_bl)) dss_nil)
    (dss_one (ds_ret (de_eqA (k := 3) (eqs_ok Z) (hr.mono (by decide)) (de_frz (df_make (ok_Table Z) (hr.mono (by decide)) (by rfl) (da_cons (de_var 0 (pv 0)) (da_cons de_int (da_cons de_int (da_cons (de_lst da_nil) da_nil)))))) (de_frz (df_make (ok_Table Z) (hr.mono (by decide)) (by rfl) (da_cons (de_var 0 (pv 0)) (da_cons de_int (da_cons de_int (da_cons (de_tup da_nil) da_nil))))))))))))
theorem ok__law_unequal (Z : ZZ P K mg base T) : FnD P w K mg base T "_law_unequal" 6 ["_law_field_here"] (dBody N__law_unequal.length t__law_unequal) := (okg__law_unequal Z).fnD (Z.g 45 rfl) (fun _ _ _ _ _ _ us hl => match us, hl with | [_], _ => rfl)
def t__law_refused : TDS := (dSeq (dSet 2 (dCall (dBody N__law_pick.length t__law_pick) 2 (dCons (dVar 0) (dCons (dLst (dCons (dC .non) (dCons (dC (.bl true)) (dCons (dC (.str "2")) (dCons (dTup (dCons (dC (.int 2)) dNil)) (dCons (dC (.int 1)) (dCons (dC (.int 4)) (dCons (dC (.int 0)) (dCons (dC (.int 101)) (dCons (d1 negD (dC (.int 3))) dNil)))))))))) dNil))))
    (dSeq (dSet 3 (dCall (dBody N__law_pick.length t__law_pick) 2 (dCons (dVar 0) (dCons (dLst (dCons (dC .non) (dCons (dC (.bl true)) (dCons (d1 negD (dC (.int 1))) (dCons (dC (.int 61)) (dCons (dC (.str "1")) (dCons (dTup (dCons (dC (.int 1)) dNil)) dNil))))))) dNil))))
    (dSeq (dIfS (dNot (dTest (dCB (isaD C.isas) (dCons (dLam wg__law_caught (dFrz (fMake "Table" wi_Table 4 (dCons (dVar 2) (dCons (dVar 3) (dCons (dVar 3) (dCons (dC .non) dNil))))))) (dCons (dC (.glo "BadPrime")) dNil))))) (dRet (dC (.bl false))) dNext)
    (dLamSet 4 fun fl1 =>
    (dLamApp 4 fun fl2 =>
    (dLamApp 4 fun fl3 =>
    (dLamApp 4 fun fl4 =>
    (dLamApp 4 fun fl5 =>
    (dSeq (dFor (dSeqI (dLst (dCons (dLst (dCons (dLst (dCons (dC (.bl true)) dNil)) dNil)) (dCons (dLst (dCons (dC (.int 0)) dNil)) (dCons (dLst (dCons (dLst (dCons (dC (.int 0)) dNil)) (dCons (dLst (dCons (dC (.int 0)) dNil)) dNil))) (dCons (dLst (dCons (dLst (dCons (dC (.int 0)) (dCons (dC (.int 0)) dNil))) dNil)) (dCons (dC (.str "0")) (dCons (dC .non) (dCons (dLst (dCons (dLst (dCons (dC (.str "0")) dNil)) dNil)) dNil))))))))) (gN 5) (dIfS (dNot (dTest (dLam wg__law_is_bad (dFrz (fMake "Table" wi_Table 4 (dCons (dVar 1) (dCons (dC (.int 1)) (dCons (dC (.int 1)) (dCons (dVar 5) dNil))))))))) (dRet (dC (.bl false))) dNext))
    (dSeq (dFor (dSeqI (dVar 4)) (gN 6) (dIfS (dNot (dTest (dPassV 6 [(fl5, (dCall (dBody N_times.length t_times) 2 (dCons (dC .non) (dCons (dC .non) dNil)))), (fl4, (dCall (dBody N_scaled.length t_scaled) 2 (dCons (dLst (dCons (dLst (dCons (dC (.int 0)) dNil)) dNil)) (dCons (dC (.int 1)) dNil)))), (fl3, (dCall (dBody N_across.length t_across) 1 (dCons (dC .non) dNil))), (fl2, (dFrz (fMake "Table" wi_Table 4 (dCons (dVar 1) (dCons (dC (.int 1)) (dCons (dVar 3) (dCons (dLst (dCons (dLst (dCons (dC (.int 0)) dNil)) dNil)) dNil))))))), (fl1, (dFrz (fMake "Table" wi_Table 4 (dCons (dVar 1) (dCons (dVar 3) (dCons (dC (.int 1)) (dCons (dLst (dCons (dLst (dCons (dC (.int 0)) dNil)) dNil)) dNil)))))))] wg__law_is_bad))) (dRet (dC (.bl false))) dNext))
    (dSeq (dIfS (dNot (dTest (dCB (isaD C.isas) (dCons (dLam wg__law_caught (dCall (dBody N_plain.length t_plain) 2 (dCons (dVar 2) (dCons (dC (.int 1)) dNil)))) (dCons (dC (.glo "BadPrime")) dNil))))) (dRet (dC (.bl false))) dNext)
    (dSeq (dIfS (dNot (dTest (dCB (isaD C.isas) (dCons (dLam wg__law_caught (dCall (dBody N_empty.length t_empty) 3 (dCons (dVar 2) (dCons (dC (.int 1)) (dCons (dC (.int 1)) dNil))))) (dCons (dC (.glo "BadPrime")) dNil))))) (dRet (dC (.bl false))) dNext)
    (dSeq (dSetX 7 (dLstF (dCons (dLam wg__law_caught (dCall (dBody N_plain.length t_plain) 2 (dCons (dVar 1) (dCons (dVar 3) dNil)))) dNil)))
    (dSeq (dExpr (dMut 7 "list" mAppend (dCons (dLam wg__law_caught (dCall (dBody N_empty.length t_empty) 3 (dCons (dVar 1) (dCons (dVar 3) (dCons (dVar 3) dNil))))) dNil)))
    (dSeq (dExpr (dMut 7 "list" mAppend (dCons (dLam wg__law_caught (dCall (dBody N_empty.length t_empty) 3 (dCons (dVar 1) (dCons (dC (.int 1)) (dCons (dVar 3) dNil))))) dNil)))
    (dSeq (dExpr (dMut 7 "list" mAppend (dCons (dLam wg__law_caught (dCall (dBody N_scaled.length t_scaled) 2 (dCons (dFrz (fMake "Table" wi_Table 4 (dCons (dVar 1) (dCons (dC (.int 0)) (dCons (dC (.int 0)) (dCons (dLst dNil) dNil)))))) (dCons (dCall (dBody N__law_pick.length t__law_pick) 2 (dCons (dVar 0) (dCons (dLst (dCons (dC .non) (dCons (dC (.bl true)) (dCons (dC (.str "1")) dNil)))) dNil))) dNil)))) dNil)))
    (dSeq (dIfS (dBorT (dTest (d2 neD (dFrz (dComp (dSeqI (dVar 7)) (gN 8) dYes (dCB (isaD C.isas) (dCons (dVar 8) (dCons (dC (.glo "BadNumber")) dNil))) [8])) (dFrz (f2 mulF (dLst (dCons (dC (.bl true)) dNil)) (dC (.int 4))))))) (dRet (dC (.bl false))) dNext)
    (dRet (dBor (d2 eqD (dFrz (dComp (dSeqI (dVar 7)) (gN 8) dYes (dAttr C.tab "part" (dVar 8)) [8])) (dLst (dCons (dC (.str "size")) (dCons (dC (.str "tall")) (dCons (dC (.str "wide")) (dCons (dC (.str "number")) dNil)))))))))))))))))))))))))
theorem okg__law_refused (Z : ZZ P K mg base T) : FnB P w K mg base T d__law_refused 16 ["_law_draw", "_law_field_here"] (dBody N__law_refused.length t__law_refused) :=
  Z.toZk.fnB 47 rfl rfl rfl sc__law_refused fun cdv A outer s H E B hcd hT hr => by
    subst hT
    exact (dss_cons (ds_set sc__law_refused.nd (i := 2) rfl (by first | exact Or.inl rfl | exact Or.inr rfl) (de_call (ok__law_pick Z) (hr.mono (by decide)) (by rfl) (da_cons (de_var 0 (pv 0)) (da_cons (de_lst (da_cons de_non (da_cons de_bl (da_cons de_str (da_cons (de_tup (da_cons de_int da_nil)) (da_cons de_int (da_cons de_int (da_cons de_int (da_cons de_int (da_cons (de_neg de_int) da_nil)))))))))) da_nil))))
    (dss_cons (ds_set sc__law_refused.nd (i := 3) rfl (by first | exact Or.inl rfl | exact Or.inr rfl) (de_call (ok__law_pick Z) (hr.mono (by decide)) (by rfl) (da_cons (de_var 0 (pv 0)) (da_cons (de_lst (da_cons de_non (da_cons de_bl (da_cons (de_neg de_int) (da_cons de_int (da_cons de_str (da_cons (de_tup (da_cons de_int da_nil)) da_nil))))))) da_nil))))
    (dss_cons (ds_if (dt_not (dt_val (de_callB call_isa (lc_isa Z.isa) (by rfl) (Z.f 1 rfl) bt_isinstance (da_cons (de_lam (okc__law_caught Z) (hr.mono (by decide)) (by rfl) (Z.tb tq__law_refused tin__law_refused) hcd (Z.tm tq__law_refused tin__law_refused) (Z.tu tq__law_refused tin__law_refused) (LamX.lamS_by (by rfl)) rfl (fun _ _ _ _ _ => rfl) (fun f c2 A2 outer2 s2 H2 E2 B2 hT2 hr => by
      have Z := Z
      rw [← hT2] at Z
      exact (de_frz (df_make (ok_Table Z) (hr.mono (by decide)) (by rfl) (da_cons (de_var 2 (pv 2)) (da_cons (de_var 3 (pv 3)) (da_cons (de_var 3 (pv 3)) (da_cons de_non da_nil)))))))) (da_cons (de_glo (by rfl) (Z.g 5 rfl)) da_nil))))) (dss_one (ds_ret de_bl)) dss_nil)
    (dss_lamSet (i := 4) (kc := 12) (Z.tb tq__law_refused tin__law_refused) hcd (Z.tm tq__law_refused tin__law_refused) (Z.tu tq__law_refused tin__law_refused) sc__law_refused.nd rfl (by first | exact Or.inl rfl | exact Or.inr rfl) ⟨_, _, _, _, rfl, LamX.lamS_by (by rfl), rfl, fun _ _ _ _ _ => rfl, fun f c2 A2 outer2 s2 H2 E2 B2 hT2 hr => by
      have Z := Z
      rw [← hT2] at Z
      exact (de_frz (df_make (ok_Table Z) (hr.mono (by decide)) (by rfl) (da_cons (de_var 1 (pv 1)) (da_cons (de_var 3 (pv 3)) (da_cons de_int (da_cons (de_lst (da_cons (de_lst (da_cons de_int da_nil)) da_nil)) da_nil))))))⟩ (fun fl1 B2 LB => by
      have Z := Z
      rw [← LB.tabs] at Z
      have RO := RegOk.nil.cons LB
      exact (dss_lamApp (i := 4) (kc := 12) (Z.tb tq__law_refused tin__law_refused) hcd (Z.tm tq__law_refused tin__law_refused) (Z.tu tq__law_refused tin__law_refused) (pv 4) (show 4 < N__law_refused.length by decide) ⟨_, _, _, _, rfl, LamX.lamS_by (by rfl), rfl, fun _ _ _ _ _ => rfl, fun f c2 A2 outer2 s2 H2 E2 B2 hT2 hr => by
      have Z := Z
      rw [← hT2] at Z
      exact (de_frz (df_make (ok_Table Z) (hr.mono (by decide)) (by rfl) (da_cons (de_var 1 (pv 1)) (da_cons de_int (da_cons (de_var 3 (pv 3)) (da_cons (de_lst (da_cons (de_lst (da_cons de_int da_nil)) da_nil)) da_nil))))))⟩ (fun fl2 B2 LB => by
      have Z := Z
      rw [← LB.tabs] at Z
      have RO := RO.cons LB
      exact (dss_lamApp (i := 4) (kc := 12) (Z.tb tq__law_refused tin__law_refused) hcd (Z.tm tq__law_refused tin__law_refused) (Z.tu tq__law_refused tin__law_refused) (pv 4) (show 4 < N__law_refused.length by decide) ⟨_, _, _, _, rfl, LamX.lamS_by (by rfl), rfl, fun _ _ _ _ _ => rfl, fun f c2 A2 outer2 s2 H2 E2 B2 hT2 hr => by
      have Z := Z
      rw [← hT2] at Z
      exact (de_call (ok_across Z) (hr.mono (by decide)) (by rfl) (da_cons de_non da_nil))⟩ (fun fl3 B2 LB => by
      have Z := Z
      rw [← LB.tabs] at Z
      have RO := RO.cons LB
      exact (dss_lamApp (i := 4) (kc := 12) (Z.tb tq__law_refused tin__law_refused) hcd (Z.tm tq__law_refused tin__law_refused) (Z.tu tq__law_refused tin__law_refused) (pv 4) (show 4 < N__law_refused.length by decide) ⟨_, _, _, _, rfl, LamX.lamS_by (by rfl), rfl, fun _ _ _ _ _ => rfl, fun f c2 A2 outer2 s2 H2 E2 B2 hT2 hr => by
      have Z := Z
      rw [← hT2] at Z
      exact (de_call (ok_scaled Z) (hr.mono (by decide)) (by rfl) (da_cons (de_lst (da_cons (de_lst (da_cons de_int da_nil)) da_nil)) (da_cons de_int da_nil)))⟩ (fun fl4 B2 LB => by
      have Z := Z
      rw [← LB.tabs] at Z
      have RO := RO.cons LB
      exact (dss_lamApp (i := 4) (kc := 12) (Z.tb tq__law_refused tin__law_refused) hcd (Z.tm tq__law_refused tin__law_refused) (Z.tu tq__law_refused tin__law_refused) (pv 4) (show 4 < N__law_refused.length by decide) ⟨_, _, _, _, rfl, LamX.lamS_by (by rfl), rfl, fun _ _ _ _ _ => rfl, fun f c2 A2 outer2 s2 H2 E2 B2 hT2 hr => by
      have Z := Z
      rw [← hT2] at Z
      exact (de_call (ok_times Z) (hr.mono (by decide)) (by rfl) (da_cons de_non (da_cons de_non da_nil)))⟩ (fun fl5 B2 LB => by
      have Z := Z
      rw [← LB.tabs] at Z
      have RO := RO.cons LB
      exact (dss_cons (ds_for (passes_of rfl) rfl (di_seq (de_lst (da_cons (de_lst (da_cons (de_lst (da_cons de_bl da_nil)) da_nil)) (da_cons (de_lst (da_cons de_int da_nil)) (da_cons (de_lst (da_cons (de_lst (da_cons de_int da_nil)) (da_cons (de_lst (da_cons de_int da_nil)) da_nil))) (da_cons (de_lst (da_cons (de_lst (da_cons de_int (da_cons de_int da_nil))) da_nil)) (da_cons de_str (da_cons de_non (da_cons (de_lst (da_cons (de_lst (da_cons de_str da_nil)) da_nil)) da_nil))))))))) (dg_name (i := 5) sc__law_refused.nd rfl (by first | exact Or.inl rfl | exact Or.inr rfl)) (dss_one (ds_if (dt_not (dt_val (de_lam (okc__law_is_bad Z) (hr.mono (by decide)) (by rfl) (Z.tb tq__law_refused tin__law_refused) hcd (Z.tm tq__law_refused tin__law_refused) (Z.tu tq__law_refused tin__law_refused) (LamX.lamS_by (by rfl)) rfl (fun _ _ _ _ _ => rfl) (fun f c2 A2 outer2 s2 H2 E2 B2 hT2 hr => by
      have Z := Z
      rw [← hT2] at Z
      exact (de_frz (df_make (ok_Table Z) (hr.mono (by decide)) (by rfl) (da_cons (de_var 1 (pv 1)) (da_cons de_int (da_cons de_int (da_cons (de_var 5 (pv 5)) da_nil)))))))))) (dss_one (ds_ret de_bl)) dss_nil)))
    (dss_cons (ds_for (passes_of rfl) rfl (di_seq (de_var 4 (pv 4))) (dg_name (i := 6) sc__law_refused.nd rfl (by first | exact Or.inl rfl | exact Or.inr rfl)) (dss_one (ds_if (dt_not (dt_val (de_passV (okc__law_is_bad Z) RO (hr.mono (by decide)) (by rfl) (pv 6)))) (dss_one (ds_ret de_bl)) dss_nil)))
    (dss_cons (ds_if (dt_not (dt_val (de_callB call_isa (lc_isa Z.isa) (by rfl) (Z.f 1 rfl) bt_isinstance (da_cons (de_lam (okc__law_caught Z) (hr.mono (by decide)) (by rfl) (Z.tb tq__law_refused tin__law_refused) hcd (Z.tm tq__law_refused tin__law_refused) (Z.tu tq__law_refused tin__law_refused) (LamX.lamS_by (by rfl)) rfl (fun _ _ _ _ _ => rfl) (fun f c2 A2 outer2 s2 H2 E2 B2 hT2 hr => by
      have Z := Z
      rw [← hT2] at Z
      exact (de_call (ok_plain Z) (hr.mono (by decide)) (by rfl) (da_cons (de_var 2 (pv 2)) (da_cons de_int da_nil))))) (da_cons (de_glo (by rfl) (Z.g 5 rfl)) da_nil))))) (dss_one (ds_ret de_bl)) dss_nil)
    (dss_cons (ds_if (dt_not (dt_val (de_callB call_isa (lc_isa Z.isa) (by rfl) (Z.f 1 rfl) bt_isinstance (da_cons (de_lam (okc__law_caught Z) (hr.mono (by decide)) (by rfl) (Z.tb tq__law_refused tin__law_refused) hcd (Z.tm tq__law_refused tin__law_refused) (Z.tu tq__law_refused tin__law_refused) (LamX.lamS_by (by rfl)) rfl (fun _ _ _ _ _ => rfl) (fun f c2 A2 outer2 s2 H2 E2 B2 hT2 hr => by
      have Z := Z
      rw [← hT2] at Z
      exact (de_call (ok_empty Z) (hr.mono (by decide)) (by rfl) (da_cons (de_var 2 (pv 2)) (da_cons de_int (da_cons de_int da_nil)))))) (da_cons (de_glo (by rfl) (Z.g 5 rfl)) da_nil))))) (dss_one (ds_ret de_bl)) dss_nil)
    (dss_cons (ds_setX sc__law_refused.nd (i := 7) rfl (by first | exact Or.inl rfl | exact Or.inr rfl) (df_lst (da_cons (de_lam (okc__law_caught Z) (hr.mono (by decide)) (by rfl) (Z.tb tq__law_refused tin__law_refused) hcd (Z.tm tq__law_refused tin__law_refused) (Z.tu tq__law_refused tin__law_refused) (LamX.lamS_by (by rfl)) rfl (fun _ _ _ _ _ => rfl) (fun f c2 A2 outer2 s2 H2 E2 B2 hT2 hr => by
      have Z := Z
      rw [← hT2] at Z
      exact (de_call (ok_plain Z) (hr.mono (by decide)) (by rfl) (da_cons (de_var 1 (pv 1)) (da_cons (de_var 3 (pv 3)) da_nil))))) da_nil)))
    (dss_cons (ds_expr (de_mut (i := 7) (by decide) PySem.F.plainAttrs_list PySem.F.slot_list_append PySem.F.type_list_append mt_append mop_append (pv 7) (show 7 < N__law_refused.length by decide) (da_cons (de_lam (okc__law_caught Z) (hr.mono (by decide)) (by rfl) (Z.tb tq__law_refused tin__law_refused) hcd (Z.tm tq__law_refused tin__law_refused) (Z.tu tq__law_refused tin__law_refused) (LamX.lamS_by (by rfl)) rfl (fun _ _ _ _ _ => rfl) (fun f c2 A2 outer2 s2 H2 E2 B2 hT2 hr => by
      have Z := Z
      rw [← hT2] at Z
      exact (de_call (ok_empty Z) (hr.mono (by decide)) (by rfl) (da_cons (de_var 1 (pv 1)) (da_cons (de_var 3 (pv 3)) (da_cons (de_var 3 (pv 3)) da_nil)))))) da_nil)))
    (dss_cons (ds_expr (de_mut (i := 7) (by decide) PySem.F.plainAttrs_list PySem.F.slot_list_append PySem.F.type_list_append mt_append mop_append (pv 7) (show 7 < N__law_refused.length by decide) (da_cons (de_lam (okc__law_caught Z) (hr.mono (by decide)) (by rfl) (Z.tb tq__law_refused tin__law_refused) hcd (Z.tm tq__law_refused tin__law_refused) (Z.tu tq__law_refused tin__law_refused) (LamX.lamS_by (by rfl)) rfl (fun _ _ _ _ _ => rfl) (fun f c2 A2 outer2 s2 H2 E2 B2 hT2 hr => by
      have Z := Z
      rw [← hT2] at Z
      exact (de_call (ok_empty Z) (hr.mono (by decide)) (by rfl) (da_cons (de_var 1 (pv 1)) (da_cons de_int (da_cons (de_var 3 (pv 3)) da_nil)))))) da_nil)))
    (dss_cons (ds_expr (de_mut (i := 7) (by decide) PySem.F.plainAttrs_list PySem.F.slot_list_append PySem.F.type_list_append mt_append mop_append (pv 7) (show 7 < N__law_refused.length by decide) (da_cons (de_lam (okc__law_caught Z) (hr.mono (by decide)) (by rfl) (Z.tb tq__law_refused tin__law_refused) hcd (Z.tm tq__law_refused tin__law_refused) (Z.tu tq__law_refused tin__law_refused) (LamX.lamS_by (by rfl)) rfl (fun _ _ _ _ _ => rfl) (fun f c2 A2 outer2 s2 H2 E2 B2 hT2 hr => by
      have Z := Z
      rw [← hT2] at Z
      exact (de_call (ok_scaled Z) (hr.mono (by decide)) (by rfl) (da_cons (de_frz (df_make (ok_Table Z) (hr.mono (by decide)) (by rfl) (da_cons (de_var 1 (pv 1)) (da_cons de_int (da_cons de_int (da_cons (de_lst da_nil) da_nil)))))) (da_cons (de_call (ok__law_pick Z) (hr.mono (by decide)) (by rfl) (da_cons (de_var 0 (pv 0)) (da_cons (de_lst (da_cons de_non (da_cons de_bl (da_cons de_str da_nil)))) da_nil))) da_nil))))) da_nil)))
    (dss_cons (ds_if (dt_bor (dt_cmp (op_neD hr.u64) l_ne (de_frz (df_comp (own := [("_law_error", 8)]) rfl sc__law_refused.nd (di_seq (de_var 7 (pv 7))) (blkOk_by (by rfl)) (fun _ _ _ _ _ => (dg_name (i := 8) sc__law_refused.nd rfl (by first | exact Or.inl rfl | exact Or.inr rfl))) (fun _ _ _ _ _ => dts_nil) (fun _ _ _ _ _ => (de_callB call_isa (lc_isa Z.isa) (by rfl) (Z.f 1 rfl) bt_isinstance (da_cons (de_var 8 (pv 8)) (da_cons (de_glo (by rfl) (Z.g 17 rfl)) da_nil)))))) (de_frz (df_mul (de_lst (da_cons de_bl da_nil)) de_int)) (by rfl))) (dss_one (ds_ret de_bl)) dss_nil)
    (dss_one (ds_ret (de_bor (de_cmp (op_eqD hr.u64) l_eq (de_frz (df_comp (own := [("_law_error", 8)]) rfl sc__law_refused.nd (di_seq (de_var 7 (pv 7))) (blkOk_by (by rfl)) (fun _ _ _ _ _ => (dg_name (i := 8) sc__law_refused.nd rfl (by first | exact Or.inl rfl | exact Or.inr rfl))) (fun _ _ _ _ _ => dts_nil) (fun _ _ _ _ _ => (de_attr (k := 0) Z.ats (hr.mono (by decide)) (de_var 8 (pv 8)))))) (de_lst (da_cons de_str (da_cons de_str (da_cons de_str (da_cons de_str da_nil))))) (by rfl)))))))))))))))))))))))))))
theorem ok__law_refused (Z : ZZ P K mg base T) : FnD P w K mg base T "_law_refused" 16 ["_law_draw", "_law_field_here"] (dBody N__law_refused.length t__law_refused) := (okg__law_refused Z).fnD (Z.g 46 rfl) (fun _ _ _ _ _ _ us hl => match us, hl with | [_, _], _ => rfl)
theorem okk_empty_wide_tall_prime (Z : ZZ P K mg base T) : FnK P w K mg base T "empty" 6 ["prime", "tall", "wide"] (dBody N_empty.length t_empty) 0 ["wide", "tall", "prime"] [2, 1, 0] :=
  (okg_empty Z).fnK (Z.g 20 rfl) (fun _ _ _ _ _ _ us ws h1 h2 => match us, ws, h1, h2 with | [], [_, _, _], _, _ => by rfl)
def t_law : TDS := (dSeq (dFor (dRange1 (dCons (dFrz (f2 addF (dC (.int 1)) (dCB minD (dCons (dCB lenD (dCons (dVar 0) dNil)) (dCons (dC (.int 4)) dNil))))) dNil)) (gN 2) (dSeq (dSet 3 (dCall (dBody N__law_field.length t__law_field) 1 (dCons (dVar 1) dNil)))
    (dSeq (dIfS (dTest (d2 eqD (dCall (dBody N__law_take.length t__law_take) 2 (dCons (dVar 1) (dCons (dC (.int 3)) dNil))) (dC (.int 0)))) (dSet 3 (dCall (dBody N__law_pick.length t__law_pick) 2 (dCons (dVar 1) (dCons (dLst (dCons (dC (.int 11)) (dCons (dC (.int 13)) (dCons (dC (.int 17)) (dCons (dC (.int 19)) (dCons (dC (.int 23)) (dCons (dC (.int 29)) (dCons (dC (.int 31)) (dCons (dC (.int 37)) (dCons (dC (.int 41)) (dCons (dC (.int 43)) (dCons (dC (.int 47)) (dCons (dC (.int 53)) (dCons (dC (.int 59)) (dCons (dC (.int 61)) (dCons (dC (.int 67)) (dCons (dC (.int 71)) (dCons (dC (.int 73)) (dCons (dC (.int 79)) (dCons (dC (.int 83)) (dCons (dC (.int 89)) dNil))))))))))))))))))))) dNil)))) dNext)
    (dSeq (dIfS (dOr (dNot (dTest (dCall (dBody N__law_primes_right.length t__law_primes_right) 1 (dCons (dVar 1) dNil)))) (dNot (dTest (dCall (dBody N__law_unequal.length t__law_unequal) 1 (dCons (dVar 3) dNil))))) (dRet (dC (.bl false))) dNext)
    (dSeq (dIfS (dOr (dNot (dTest (dCall (dBody N__law_products_right.length t__law_products_right) 2 (dCons (dVar 1) (dCons (dVar 3) dNil))))) (dNot (dTest (dCall (dBody N__law_lists_right.length t__law_lists_right) 2 (dCons (dVar 1) (dCons (dVar 3) dNil)))))) (dRet (dC (.bl false))) dNext)
    (dSeq (dIfS (dNot (dTest (dCall (dBody N__law_refused.length t__law_refused) 2 (dCons (dVar 1) (dCons (dVar 3) dNil))))) (dRet (dC (.bl false))) dNext)
    (dSeq (dSet 4 (dFrz (fMake "Table" wi_Table 4 (dCons (dVar 3) (dCons (dC (.int 0)) (dCons (dC (.int 60)) (dCons (dLst dNil) dNil)))))))
    (dSeq (dIfS (dOr (dTest (dEqA C.isas eqs true (dCall (dBody N_beside.length t_beside) 1 (dCons (dLst (dCons (dVar 4) dNil)) dNil)) (dVar 4))) (dNot (dTest (dLam wg__law_is_bad (dCall (dBody N_beside.length t_beside) 1 (dCons (dLst (dCons (dVar 4) (dCons (dFrz (fMake "Table" wi_Table 4 (dCons (dVar 3) (dCons (dC (.int 0)) (dCons (dC (.int 1)) (dCons (dLst dNil) dNil)))))) dNil))) dNil)))))) (dRet (dC (.bl false))) dNext)
    (dSeq (dIfS (dNot (dTest (dLam wg__law_is_bad (dCall (dBody N_corner.length t_corner) 1 (dCons (dLst (dCons (dVar 4) (dCons (dFrz (fMake "Table" wi_Table 4 (dCons (dVar 3) (dCons (dC (.int 0)) (dCons (dC (.int 1)) (dCons (dLst dNil) dNil)))))) dNil))) dNil))))) (dRet (dC (.bl false))) dNext)
    (dSeq (dPar 5 6 (dSh (dCall (dBody N__law_pick.length t__law_pick) 2 (dCons (dVar 1) (dCons (dLst (dCons (dC (.int 0)) (dCons (dC (.int 1)) (dCons (dC (.int 3)) (dCons (dC (.int 60)) dNil))))) dNil)))) (dSh (dCall (dBody N__law_pick.length t__law_pick) 2 (dCons (dVar 1) (dCons (dLst (dCons (dC (.int 0)) (dCons (dC (.int 1)) (dCons (dC (.int 2)) (dCons (dC (.int 60)) dNil))))) dNil)))))
    (dSeq (dIfS (dNot (dTest (dCall (dBody N__law_shows.length t__law_shows) 5 (dCons (dCall (dBody N_plain.length t_plain) 2 (dCons (dVar 3) (dCons (dVar 5) dNil))) (dCons (dVar 3) (dCons (dVar 5) (dCons (dVar 5) (dCons (dCall (dBody N__law_unit.length t__law_unit) 1 (dCons (dVar 5) dNil)) dNil)))))))) (dRet (dC (.bl false))) dNext)
    (dIfS (dNot (dTest (dCall (dBody N__law_shows.length t__law_shows) 5 (dCons (dCallK (dBody N_empty.length t_empty) 3 0 3 [2, 1, 0] dNil (dCons (dVar 6) (dCons (dVar 5) (dCons (dVar 3) dNil)))) (dCons (dVar 3) (dCons (dVar 5) (dCons (dVar 6) (dCons (dFrz (f2 mulG (dLst (dCons (dFrz (f2 mulG (dLst (dCons (dC (.int 0)) dNil)) (dVar 6))) dNil)) (dVar 5))) dNil)))))))) (dRet (dC (.bl false))) dNext))))))))))))
    (dRet (dC (.bl true))))
theorem ok_law_rest (Z : ZZ P K mg base T) (cdv : Value) (A : Around) (outer : List PySem.Env) (s : Shared) (H : Hp) (E : XK) (B : Base) (hcd : cdv = .ref (codeAt K (He.ga K "law"))) (hT : B.T = T) (hr : Rm 16 (A.deeper (envOfC "law" d_law.scope s.heap.objs.size (He.ga K "law") cdv))) : DSs (cxOf (L2.CX P w) P w K mg base N_law "law" d_law.scope (He.ga K "law") cdv A outer s H E) B ((defBody s_law).drop 1) t_law := by
    subst hT
    exact (dss_cons (ds_for (passes_of rfl) rfl (di_range1 (by rfl) (Z.f 10 rfl) (da_cons (de_frz (df_add de_int (de_callB (call_minA (by rfl)) lc_min (by rfl) (Z.f 14 rfl) bt_min (da_cons (de_callB call_lenA lc_len (by rfl) (Z.f 5 rfl) bt_len (da_cons (de_var 0 (pv 0)) da_nil)) (da_cons de_int da_nil))))) da_nil)) (dg_name (i := 2) sc_law.nd rfl (by first | exact Or.inl rfl | exact Or.inr rfl)) (dss_cons (ds_set sc_law.nd (i := 3) rfl (by first | exact Or.inl rfl | exact Or.inr rfl) (de_call (ok__law_field Z) (hr.mono (by decide)) (by rfl) (da_cons (de_var 1 (pv 1)) da_nil)))
    (dss_cons (ds_if (dt_cmp (op_eqD hr.u64) l_eq (de_call (ok__law_take Z) (hr.mono (by decide)) (by rfl) (da_cons (de_var 1 (pv 1)) (da_cons de_int da_nil))) de_int (by rfl)) (dss_one (ds_set sc_law.nd (i := 3) rfl (by first | exact Or.inl rfl | exact Or.inr rfl) (de_call (ok__law_pick Z) (hr.mono (by decide)) (by rfl) (da_cons (de_var 1 (pv 1)) (da_cons (de_lst (da_cons de_int (da_cons de_int (da_cons de_int (da_cons de_int (da_cons de_int (da_cons de_int (da_cons de_int (da_cons de_int (da_cons de_int (da_cons de_int (da_cons de_int (da_cons de_int (da_cons de_int (da_cons de_int (da_cons de_int (da_cons de_int (da_cons de_int (da_cons de_int (da_cons de_int (da_cons de_int da_nil))))))))))))))))))))) da_nil))))) dss_nil)
    (dss_cons (ds_if (DWh.dt (dw_or (dt_not (dt_val (de_call (ok__law_primes_right Z) (hr.mono (by decide)) (by rfl) (da_cons (de_var 1 (pv 1)) da_nil)))) (dw_or1 (dt_not (dt_val (de_call (ok__law_unequal Z) (hr.mono (by decide)) (by rfl) (da_cons (de_var 3 (pv 3)) da_nil))))))) (dss_one (ds_ret de_bl)) dss_nil)
    (dss_cons (ds_if (DWh.dt (dw_or (dt_not (dt_val (de_call (ok__law_products_right Z) (hr.mono (by decide)) (by rfl) (da_cons (de_var 1 (pv 1)) (da_cons (de_var 3 (pv 3)) da_nil))))) (dw_or1 (dt_not (dt_val (de_call (ok__law_lists_right Z) (hr.mono (by decide)) (by rfl) (da_cons (de_var 1 (pv 1)) (da_cons (de_var 3 (pv 3)) da_nil)))))))) (dss_one (ds_ret de_bl)) dss_nil)
    (dss_cons (ds_if (dt_not (dt_val (de_call (ok__law_refused Z) (hr.mono (by decide)) (by rfl) (da_cons (de_var 1 (pv 1)) (da_cons (de_var 3 (pv 3)) da_nil))))) (dss_one (ds_ret de_bl)) dss_nil)
    (dss_cons (ds_set sc_law.nd (i := 4) rfl (by first | exact Or.inl rfl | exact Or.inr rfl) (de_frz (df_make (ok_Table Z) (hr.mono (by decide)) (by rfl) (da_cons (de_var 3 (pv 3)) (da_cons de_int (da_cons de_int (da_cons (de_lst da_nil) da_nil)))))))
    (dss_cons (ds_if (DWh.dt (dw_or (dt_neA (k := 3) (eqs_ok Z) (hr.mono (by decide)) (de_call (ok_beside Z) (hr.mono (by decide)) (by rfl) (da_cons (de_lst (da_cons (de_var 4 (pv 4)) da_nil)) da_nil)) (de_var 4 (pv 4))) (dw_or1 (dt_not (dt_val (de_lam (okc__law_is_bad Z) (hr.mono (by decide)) (by rfl) (Z.tb tq_law tin_law) hcd (Z.tm tq_law tin_law) (Z.tu tq_law tin_law) (LamX.lamS_by (by rfl)) rfl (fun _ _ _ _ _ => rfl) (fun f c2 A2 outer2 s2 H2 E2 B2 hT2 hr => by
      have Z := Z
      rw [← hT2] at Z
      exact (de_call (ok_beside Z) (hr.mono (by decide)) (by rfl) (da_cons (de_lst (da_cons (de_var 4 (pv 4)) (da_cons (de_frz (df_make (ok_Table Z) (hr.mono (by decide)) (by rfl) (da_cons (de_var 3 (pv 3)) (da_cons de_int (da_cons de_int (da_cons (de_lst da_nil) da_nil)))))) da_nil))) da_nil))))))))) (dss_one (ds_ret de_bl)) dss_nil)
    (dss_cons (ds_if (dt_not (dt_val (de_lam (okc__law_is_bad Z) (hr.mono (by decide)) (by rfl) (Z.tb tq_law tin_law) hcd (Z.tm tq_law tin_law) (Z.tu tq_law tin_law) (LamX.lamS_by (by rfl)) rfl (fun _ _ _ _ _ => rfl) (fun f c2 A2 outer2 s2 H2 E2 B2 hT2 hr => by
      have Z := Z
      rw [← hT2] at Z
      exact (de_call (ok_corner Z) (hr.mono (by decide)) (by rfl) (da_cons (de_lst (da_cons (de_var 4 (pv 4)) (da_cons (de_frz (df_make (ok_Table Z) (hr.mono (by decide)) (by rfl) (da_cons (de_var 3 (pv 3)) (da_cons de_int (da_cons de_int (da_cons (de_lst da_nil) da_nil)))))) da_nil))) da_nil)))))) (dss_one (ds_ret de_bl)) dss_nil)
    (dss_cons (ds_par (i := 5) (j := 6) rfl sc_law.nd rfl rfl (by decide) rfl rfl (df_sh (de_call (ok__law_pick Z) (hr.mono (by decide)) (by rfl) (da_cons (de_var 1 (pv 1)) (da_cons (de_lst (da_cons de_int (da_cons de_int (da_cons de_int (da_cons de_int da_nil))))) da_nil)))) (df_sh (de_call (ok__law_pick Z) (hr.mono (by decide)) (by rfl) (da_cons (de_var 1 (pv 1)) (da_cons (de_lst (da_cons de_int (da_cons de_int (da_cons de_int (da_cons de_int da_nil))))) da_nil)))) (by rfl))
    (dss_cons (ds_if (dt_not (dt_val (de_call (ok__law_shows Z) (hr.mono (by decide)) (by rfl) (da_cons (de_call (ok_plain Z) (hr.mono (by decide)) (by rfl) (da_cons (de_var 3 (pv 3)) (da_cons (de_var 5 (pv 5)) da_nil))) (da_cons (de_var 3 (pv 3)) (da_cons (de_var 5 (pv 5)) (da_cons (de_var 5 (pv 5)) (da_cons (de_call (ok__law_unit Z) (hr.mono (by decide)) (by rfl) (da_cons (de_var 5 (pv 5)) da_nil)) da_nil)))))))) (dss_one (ds_ret de_bl)) dss_nil)
    (dss_one (ds_if (dt_not (dt_val (de_call (ok__law_shows Z) (hr.mono (by decide)) (by rfl) (da_cons (de_callK0 (okk_empty_wide_tall_prime Z) (hr.mono (by decide)) (by rfl) (dk_cons (de_var 6 (pv 6)) (dk_cons (de_var 5 (pv 5)) (dk_cons (de_var 3 (pv 3)) dk_nil)))) (da_cons (de_var 3 (pv 3)) (da_cons (de_var 5 (pv 5)) (da_cons (de_var 6 (pv 6)) (da_cons (de_frz (df_mulG (de_lst (da_cons (de_frz (df_mulG (de_lst (da_cons de_int da_nil)) (de_var 6 (pv 6)))) da_nil)) (de_var 5 (pv 5)))) da_nil)))))))) (dss_one (ds_ret de_bl)) dss_nil)))))))))))))
    (dss_one (ds_ret de_bl)))
theorem okb (Z : ZZ P K mg base T) : ∃ fd, FunD K d__law_begun.name d__law_begun.qual d__law_begun.params d__law_begun.body d__law_begun.scope [] [] (He.ga K "_law_begun") fd ∧ FnG P w K mg base 2 (He.ga K "_law_begun") fd ["_law_script"] (spBegun K T) := by
  obtain ⟨fd, F⟩ := Z.toZk.fd (d := d__law_begun) 49 rfl rfl
  refine ⟨fd, F, begun_ok F sc__law_begun rfl (by decide) (by decide) (fun cdv A outer s H E B hT hr => ?_) (fun cdv A outer s H E B hT hr => ?_)⟩
  · subst hT
    exact (ds_comp (i := 1) (own := [("_law_grain", 2)]) rfl sc__law_begun.nd rfl rfl (sw_true rfl rfl rfl (by decide +kernel)) (di_seq (de_var 0 (pv 0))) (blkOk_by (by rfl)) (fun _ _ _ _ _ => (dg_name (i := 2) sc__law_begun.nd rfl (by first | exact Or.inl rfl | exact Or.inr rfl))) (fun _ _ _ _ _ => (dts_one (dt_cmp op_ge l_ge (de_callB call_abs lc_abs (by rfl) (Z.f 15 rfl) bt_abs (da_cons (de_var 2 (pv 2)) da_nil)) (de_pow de_int de_int) (by rfl)))) (fun _ _ _ _ _ => (de_sub (de_callB call_abs lc_abs (by rfl) (Z.f 15 rfl) bt_abs (da_cons (de_var 2 (pv 2)) da_nil)) (de_pow de_int de_int))))
  · subst hT
    exact (df_comp (own := [("_law_grain", 2)]) rfl sc__law_begun.nd (di_seq (de_var 0 (pv 0))) (blkOk_by (by rfl)) (fun _ _ _ _ _ => (dg_name (i := 2) sc__law_begun.nd rfl (by first | exact Or.inl rfl | exact Or.inr rfl))) (fun _ _ _ _ _ => dts_nil) (fun _ _ _ _ _ => (de_callB call_abs lc_abs (by rfl) (Z.f 15 rfl) bt_abs (da_cons (de_var 2 (pv 2)) da_nil))))
theorem bb_law : BindsD d_law ["_law_script"] := (fun _ _ _ _ _ _ us hl => match us, hl with | [_], _ => rfl)
theorem ok_law (Z : ZZ P K mg base T) (hwp : ∀ ms : List Int, ms.length ≤ 63 → t_law (fun _ => False) { nx := fun _ => False, rt := fun d => d = .bl true } (some (.sh (.kls (ms.map D.int))) :: some (.sh .drw) :: List.replicate (N_law.drop 2).length none)) :
    ∃ fd, FunD K d_law.name d_law.qual d_law.params d_law.body d_law.scope [] [] (He.ga K "law") fd ∧ FnG P w K mg base 17 (He.ga K "law") fd ["_law_script"] (spLaw K T) := by
  obtain ⟨fb, Fb, GB⟩ := okb Z
  obtain ⟨fd, F⟩ := Z.toZk.fd (d := d_law) 48 rfl rfl
  have bb := FunD.bindsA (ps := ["_law_script"]) Fb (fun _ _ _ _ _ _ us hl => match us, hl with | [_], _ => rfl)
  exact ⟨fd, F, law_ok (k := 16) F sc_law (GB.up (by decide)) (Z.g 48 rfl) Fb.kp (fun s u => bb s [u] rfl) rfl (.inl rfl) (.inl rfl) (by decide) (by decide) (by decide) (by intro _; rfl) (fun cdv A outer s H E B hcd hT hr => ok_law_rest Z cdv A outer s H E B hcd hT hr) hwp⟩
end
end K01

namespace K01
open PySem PySem.Spec L2 DL He
open PyProof.Rows hiding St
abbrev RW := PySem.Challenge.rw_boughwebs_k01_tables_put_together
def more : List (PySem.W.Frag → Bool) := [eqB "Table", suB RW.prog.main.file "BadNumber" "part", exfB "BadPrime", exfB "BadTable", tupB "PRIMES" [2, 3, 5, 7, 11, 13, 17, 19, 23, 29, 31, 37, 41, 43, 47, 53, 59, 61, 67, 71, 73, 79, 83, 89, 97]]
abbrev R : PySem.W.OpenRow := PySem.W.OpenLaw.row RW
abbrev chk : List (PySem.W.Frag → Bool) := chkOf C tfs "WebError" cs ++ more
abbrev hk : PySem.W.Hook := hookY 6 C.fns (tfs.map (·.1)) chk
def ob (s : PySem.W.SharedT) : AlY := obsY 6 C.fns (tfs.map (·.1)) chk (HandSHeadRun.getT s)
theorem ob_eq (s : PySem.W.SharedT) : ob s = hk.obs s.abs := obsY_eq (HandSHeadRun.getT_eq s)
def loose : List Str := [("__name__" : Str), ("WebError" : Str), ("BadPrime" : Str), ("BadTable" : Str), ("BadNumber" : Str), ("PRIMES" : Str), ("MOST_SIDE" : Str), ("is_number" : Str), ("is_between" : Str), ("is_list" : Str), ("is_prime" : Str), ("need_prime" : Str), ("are_lines" : Str), ("Table" : Str), ("need_table" : Str), ("need_two" : Str), ("need_same_size" : Str), ("product_lines" : Str), ("times" : Str), ("plus" : Str), ("minus" : Str), ("scaled" : Str), ("plain" : Str), ("empty" : Str), ("across" : Str), ("need_tables" : Str), ("beside" : Str), ("over" : Str), ("corner" : Str), ("_law_begun" : Str), ("_law_mixed" : Str), ("_law_take" : Str), ("_law_pick" : Str), ("_law_field" : Str), ("_law_lists" : Str), ("_law_product" : Str), ("_law_unit" : Str), ("_law_caught" : Str), ("_law_size" : Str), ("_law_wild" : Str), ("_law_shows" : Str), ("_law_turned" : Str), ("_law_rests" : Str), ("_law_is_bad" : Str), ("_law_products_right" : Str), ("_law_lists_right" : Str), ("_law_is_prime" : Str), ("_law_primes_right" : Str), ("_law_unequal" : Str), ("_law_refused" : Str)]
theorem run (w : World) : HandSHeadRun.RunEq R (PySem.W.view R.prog [52]) hk ob 20000 loose w := by
  intro os
  kernel_rfl
end K01

namespace K01
open PySem PySem.Spec L2 DL He
open PyProof.Rows hiding St
abbrev HWP : Prop := ∀ ms : List Int, ms.length ≤ 63 → t_law (fun _ => False) { nx := fun _ => False, rt := fun d => d = .bl true } (some (.sh (.kls (ms.map D.int))) :: some (.sh .drw) :: List.replicate (N_law.drop 2).length none)
section
variable {K : PySem.W.Frag} {mg : Str → Option Value} {h : Heap}
theorem atOk (c : SaysY C.fns (tfs.map (·.1)) chk h K) : AtOk K C.tab := by
  have ha : ∀ e ∈ C.tab, atB e K = true := all_ok (c.chk (fun K => C.tab.all fun e => atB e K) (by simp [chk, chkOf]))
  refine atOk_of ha fun x f g hm => ?_
  have hp := prop_ok ha hm
  simp only [C, List.mem_cons, List.not_mem_nil, or_false, Prod.mk.injEq, Atk.prop.injEq, reduceCtorEq, and_false, false_or] at hm
  rcases hm with ⟨⟨rfl, rfl⟩, rfl⟩ | ⟨⟨rfl, rfl⟩, rfl⟩ | ⟨⟨rfl, rfl⟩, rfl⟩ | ⟨⟨rfl, rfl⟩, rfl⟩
  · exact getK_of (d := d_Table_prime) (N := N_Table_prime) hp (c.fns d_Table_prime (by simp [C])).1 (c.fns d_Table_prime (by simp [C])).2 rfl rfl rfl sc_Table_prime rfl (fun _ _ _ _ _ _ _ _ => rfl)
  · exact getK_of (d := d_Table_tall) (N := N_Table_tall) hp (c.fns d_Table_tall (by simp [C])).1 (c.fns d_Table_tall (by simp [C])).2 rfl rfl rfl sc_Table_tall rfl (fun _ _ _ _ _ _ _ _ => rfl)
  · exact getK_of (d := d_Table_wide) (N := N_Table_wide) hp (c.fns d_Table_wide (by simp [C])).1 (c.fns d_Table_wide (by simp [C])).2 rfl rfl rfl sc_Table_wide rfl (fun _ _ _ _ _ _ _ _ => rfl)
  · exact getK_of (d := d_Table_lines) (N := N_Table_lines) hp (c.fns d_Table_lines (by simp [C])).1 (c.fns d_Table_lines (by simp [C])).2 rfl rfl rfl sc_Table_lines rfl (fun _ _ _ _ _ _ _ _ => rfl)
theorem su_BadNumber (c : SaysY C.fns (tfs.map (·.1)) chk h K) : SuE RW.prog K b_BadNumber "BadNumber" := by
  obtain ⟨fd, z⟩ := suB_ok (P := RW.prog) (b := b_BadNumber) (x := "BadNumber") (d := d_BadNumber_init) (c.chk (suB RW.prog.main.file "BadNumber" "part") (by simp [chk, more])) (c.fns d_BadNumber_init (by simp [C])).1 (c.fns d_BadNumber_init (by simp [C])).2 rfl rfl rfl (by decide +kernel) rfl rfl rfl rfl rfl rfl rfl rfl rfl rfl (by decide) (by decide) ⟨_, fun _ => rfl⟩ (fun _ _ _ _ _ _ _ _ _ => rfl)
  exact ⟨_, fd, z, suK_kw z (c.fns d_BadNumber_init (by simp [C])).1 (c.fns d_BadNumber_init (by simp [C])).2 (fun _ _ _ _ _ _ _ _ _ => rfl)⟩
theorem funD_same {x q : Str} {ps : Arguments} {b : List Stmt} {sc : Scope} {f : Addr} {fd fd' : FuncData} (F : FunD K x q ps b sc [] [] f fd) (F' : FunD K x q ps b sc [] [] f fd') : fd' = fd := by
  obtain ⟨oc, od, dV, kV, doc, pm, an, cdv, ct, osl, e, lk, _⟩ := F.ex
  obtain ⟨oc', od', dV', kV', doc', pm', an', cdv', ct', osl', e', lk', _⟩ := F'.ex
  have z := lk.symm.trans lk'
  simp only [Option.some.injEq, Obj.mk.injEq] at z
  exact Data.func.inj z.2.2.1.symm
theorem facts {w : World} {fa : Addr} (hwp : HWP) (X : K.In h) (G : h.Ns mainGlobals mg) (hfa : mg ("law" : Str) = some (.ref fa)) (c : SaysY C.fns (tfs.map (·.1)) chk h K) :
    ∃ (K : PySem.W.Frag) (fd : FuncData) (cs : List (Addr × Addr)) (T : List (Addr × Str)), K.In h ∧ (∀ p ∈ cs, h.get? p.2 = some { cls := .none, data := .fields #[] }) ∧ (∀ p ∈ cs, K.lookup p.2 = none) ∧ (∀ p ∈ cs, PySem.W.CodeHd h p.1 p.2) ∧ (∀ q ∈ T, ∃ p ∈ cs, p.2 = q.1) ∧
        (∀ (s : Shared) (u : Value), BindsTo s fd ⟨[u], []⟩ [(("_law_script" : Str), u)]) ∧ ∀ base : Heap, K.In base → base.Ns mainGlobals mg → (∀ p ∈ cs, LamX.TabB base mg p.1 p.2) → FnG RW.prog w K mg base 17 fa fd ["_law_script"] (spLaw K T) := by
  have e : fa = He.ga K "law" := by
    have z := hfa.symm.trans (He.glo_ok X G (all_ok (c.chk (fun K => C.glos.all fun x => (Fa.glo x).ok K) (by simp [chk, chkOf])) "law" (by simp [C])))
    cases z; rfl
  subst e
  obtain ⟨fd, F⟩ := FnA.funD (d := d_law) (c.fns d_law (by simp [C])).1 (c.fns d_law (by simp [C])).2 rfl
  refine ⟨K, fd, tfs.map (fun q => cTY K q.1), tfs.map (fun q => ((cTY K q.1).2, q.2)), X, fun p hp => ?_, fun p hp => ?_, fun p hp => ?_, fun q hq => ?_, fun s u => FunD.bindsA (ps := ["_law_script"]) F bb_law s [u] rfl, fun base _ hb tb => ?_⟩
  · obtain ⟨q, hq, rfl⟩ := List.mem_map.mp hp
    exact c.empty q.1 (List.mem_map.mpr ⟨q, hq, rfl⟩)
  · obtain ⟨q, hq, rfl⟩ := List.mem_map.mp hp
    exact c.out q.1 (List.mem_map.mpr ⟨q, hq, rfl⟩)
  · obtain ⟨q, hq, rfl⟩ := List.mem_map.mp hp
    exact PySem.W.codeHd_of_K X (c.hd q.1 (List.mem_map.mpr ⟨q, hq, rfl⟩))
  · obtain ⟨r, hr, rfl⟩ := List.mem_map.mp hq
    exact ⟨_, List.mem_map.mpr ⟨r, hr, rfl⟩, rfl⟩
  · have Z : ZZ RW.prog K mg base (tfs.map (fun q => ((cTY K q.1).2, q.2))) := { toZl := zl_of X G c (atOk c) tb, eq_Table := c.chk (eqB "Table") (by simp [chk, more]), su_BadNumber := su_BadNumber c, ef_BadPrime := exfB_ok (c.chk (exfB "BadPrime") (by simp [chk, more])), ef_BadTable := exfB_ok (c.chk (exfB "BadTable") (by simp [chk, more])), tp_PRIMES := tupB_ok (c.chk (tupB "PRIMES" [2, 3, 5, 7, 11, 13, 17, 19, 23, 29, 31, 37, 41, 43, 47, 53, 59, 61, 67, 71, 73, 79, 83, 89, 97]) (by simp [chk, more])) }
    obtain ⟨fd', F', g⟩ := ok_law (w := w) Z hwp
    have : fd' = fd := funD_same F F'
    subst this
    exact g
end
end K01
section
open PySem PySem.W PySem.Calls PyProof.Rows
theorem k01_of (hwp : K01.HWP) : PySem.Challenge.rw_boughwebs_k01_tables_put_together.Holds := by
  w_on; o_law
  refine HandSHeadRun.head_any (r := OpenLaw.row PySem.Challenge.rw_boughwebs_k01_tables_put_together) (q := view (OpenLaw.row PySem.Challenge.rw_boughwebs_k01_tables_put_together).prog [52]) (H := K01.hk) (ob := K01.ob) (M := 20000) (loose := K01.loose) (d := HandSHeadRun.topDef (OpenLaw.row PySem.Challenge.rw_boughwebs_k01_tables_put_together).prog 52) (kwd := []) K01.ob_eq
    (by kernel_rfl) (fun s => by kernel_rfl) K01.run (by kernel_rfl) (by kernel_rfl) (by kernel_rfl) (by rfl) (by first | assumption | decide +kernel) (by decide +kernel) ⟨rfl, rfl, rfl, rfl, rfl, by decide +kernel⟩ ?hw ?hc
  case hw => w_witness2
  case hc =>
    refine DL.walk_end (l := PySem.Challenge.rw_boughwebs_k01_tables_put_together) (k := 17) (x := "_law_script") rfl (by kernel_rfl) ⟨⟨rfl, by decide, by decide⟩, rfl⟩ ?F
    intro w mg fa h Y G hmg0
    obtain ⟨K, KX, c⟩ := Y
    have hmg : mg ("law" : PySem.Str) = some (.ref fa) := by
      have e : (HandSHeadRun.topDef (OpenLaw.row PySem.Challenge.rw_boughwebs_k01_tables_put_together).prog 52).name = ("law" : PySem.Str) := by kernel_rfl
      rw [← e]
      exact hmg0
    exact K01.facts hwp KX G hmg c
end

namespace K01
open PySem PySem.Spec L2 DL
open PyProof.Rows hiding St
/-! ### the plain law: tables -/
theorem iteB {b : Bool} {A B : Prop} (e : b = false) (h : B) : if b = true then A else B := by subst e; exact iteF h
theorem iteBt {b : Bool} {A B : Prop} (e : b = true) (h : A) : if b = true then A else B := by subst e; exact iteT h
theorem mul_small {c x : Int} {a b : Nat} (hc : c.natAbs < 2 ^ a) (hx : x.natAbs < 2 ^ b) (h : a + b ≤ 100000) : CMulX c x := mulx_ok hc hx (by omega)
abbrev Mx := List (List Int)
abbrev LI (r : List Int) : D := .lst (r.map D.int)
abbrev TI (r : List Int) : D := .tup (r.map D.int)
abbrev LL (m : Mx) : D := .lst (m.map LI)
abbrev TT (m : Mx) : D := .tup (m.map TI)
abbrev PL : List Int := [2, 3, 5, 7, 11, 13, 17, 19, 23, 29, 31, 37, 41, 43, 47, 53, 59, 61, 67, 71, 73, 79, 83, 89, 97]
def tbF (p : Int) (t w : Nat) (m : Mx) : List (Str × D) := [("own_prime", .int p), ("own_tall", .int (t : Int)), ("own_wide", .int (w : Int)), ("own_lines", TT m)]
abbrev tb (p : Int) (t w : Nat) (m : Mx) : D := .ob "Table" (tbF p t w m)
def modM (p : Int) (m : Mx) : Mx := m.map fun r => r.map fun x => x.fmod p
structure Sh (t w : Nat) (m : Mx) : Prop where
  tall : m.length = t
  wide : ∀ r ∈ m, r.length = w
theorem m_number {i : Int} {P E : D → Prop} (h : P (.bl true)) : dBody N_is_number.length t_is_number [.int i] P E := ⟨_, _, _, rfl, rfl, rfl, ⟨_, _, _, rfl, rfl, rfl, h⟩⟩
def OddV (d : D) : Prop := d = .non ∨ (∃ b, d = .bl b) ∨ (∃ s, d = .str s) ∨ ∃ l, d = .tup l
theorem m_odd {d : D} (h : OddV d) {P E : D → Prop} (k : P (.bl false)) : dBody N_is_number.length t_is_number [d] P E := by
  rcases h with rfl | ⟨b, rfl⟩ | ⟨s, rfl⟩ | ⟨l, rfl⟩
  · exact ⟨_, _, _, rfl, rfl, rfl, k⟩
  · exact ⟨_, _, _, rfl, rfl, rfl, ⟨_, _, _, rfl, rfl, rfl, k⟩⟩
  · exact ⟨_, _, _, rfl, rfl, rfl, k⟩
  · exact ⟨_, _, _, rfl, rfl, rfl, k⟩
theorem m_between {i lo hi : Int} {P E : D → Prop} (h : P (.bl (decide (lo ≤ i) && decide (i ≤ hi)))) : dBody N_is_between.length t_is_between [.int i, .int lo, .int hi] P E := by
  refine ⟨rfl, m_number ?_⟩
  show (match D.bl (decide (lo ≤ i)) with
      | .bl true => _
      | .bl false => _
      | _ => False)
  cases hb : decide (lo ≤ i) with
  | true =>
    show P (.bl (decide (i ≤ hi)))
    simpa [hb] using h
  | false =>
    show P (.bl false)
    simpa [hb] using h
theorem m_betweenT {i lo hi : Int} (h1 : lo ≤ i) (h2 : i ≤ hi) {P E : D → Prop} (h : P (.bl true)) : dBody N_is_between.length t_is_between [.int i, .int lo, .int hi] P E := m_between (by rw [decide_eq_true h1, decide_eq_true h2]; exact h)
/-- is_between is False -/
def Out (d : D) (lo hi : Int) : Prop := ∀ {P E : D → Prop}, P (.bl false) → dBody N_is_between.length t_is_between [d, .int lo, .int hi] P E
theorem out_odd {d : D} {lo hi : Int} (h : OddV d) : Out d lo hi := fun k => ⟨rfl, m_odd h k⟩
theorem out_int {i lo hi : Int} (h : i < lo ∨ hi < i) : Out (.int i) lo hi := fun k => m_between (by
  have e : (decide (lo ≤ i) && decide (i ≤ hi)) = false := by
    rcases h with h | h
    · rw [decide_eq_false (by omega), Bool.false_and]
    · rw [decide_eq_false (show ¬ i ≤ hi by omega), Bool.and_false]
  rw [e]; exact k)
theorem m_list {d : D} {l : List D} (hd : d = .lst l ∨ d = .tup l) {P E : D → Prop} (h : P (.bl true)) : dBody N_is_list.length t_is_list [d] P E := by
  rcases hd with rfl | rfl <;> exact ⟨by decide, _, _, _, rfl, rfl, rfl, h⟩
theorem m_need_prime {p : Int} (hp : p ∈ PL) {P E : D → Prop} (h : P .non) : dBody N_need_prime.length t_need_prime [.int p] P E := by
  refine ⟨rfl, rfl, m_number ⟨PL, rfl, ?_⟩⟩
  rw [decide_eq_true hp]
  exact h
/-- refused as no prime -/
def NoPr (d : D) : Prop := OddV d ∨ ∃ i, d = .int i ∧ i ∉ PL
theorem m_no_prime {d : D} (hd : NoPr d) {P E : D → Prop} (h : E (.exc "BadPrime" [])) : dBody N_need_prime.length t_need_prime [d] P E := by
  rcases hd with hd | ⟨i, rfl, hi⟩
  · exact ⟨rfl, rfl, m_odd hd h⟩
  · refine ⟨rfl, rfl, m_number ⟨PL, rfl, ?_⟩⟩
    rw [decide_eq_false hi]
    exact h
/-! lines -/
theorem lin_item {δ0 : DL.Env} {d : D} {t w : Nat} {it : List Int → D} (hit : it = LI ∨ it = TI) {r : List Int} (hr : r.length = w) {Q : Option D → DL.Env → Prop} (e : δ0 = [some (.sh d), some (.sh (.int (t : Int))), some (.sh (.int (w : Int))), none, none]) (hq : Q (some (.bl true)) δ0) (hl : r.length < 10000) :
    stepQ (gN 3) dYes (dAndV (dCall (dBody N_is_list.length t_is_list) 1 (dCons (dVar 3) dNil)) (dAndV (d2 eqD (dCB lenD (dCons (dVar 3) dNil)) (dVar 2)) (dCB (onL allL) (dCons (dFrz (dComp (dSeqI (dVar 3)) (gN 4) dYes (dCall (dBody N_is_number.length t_is_number) 1 (dCons (dVar 4) dNil)) [4])) dNil)))) [3] (it r) δ0 Q := by
  subst e
  have al : (r.map fun _ => true).all _root_.id = true := by simp
  rcases hit with rfl | rfl
  · refine ⟨rfl, m_list (l := r.map D.int) (.inl rfl) ⟨_, _, rfl, rfl, rfl, rfl, ?_⟩⟩
    rw [eqv_int, decide_eq_true (by rw [List.length_map]; omega)]
    refine q_compM (it := D.int) (f := fun _ => D.bl true) (δ0 := [some (.sh d), some (.sh (.int (t : Int))), some (.sh (.int (w : Int))), some (.sh (LI r)), none]) r (by omega) (fun a _ Q hq => ⟨rfl, m_number hq⟩) ?_
    refine ⟨_, asB_map (fun _ => true) r, ?_⟩
    rw [al]
    exact hq
  · refine ⟨rfl, m_list (l := r.map D.int) (.inr rfl) ⟨_, _, rfl, rfl, rfl, rfl, ?_⟩⟩
    rw [eqv_int, decide_eq_true (by rw [List.length_map]; omega)]
    refine q_compM (it := D.int) (f := fun _ => D.bl true) (δ0 := [some (.sh d), some (.sh (.int (t : Int))), some (.sh (.int (w : Int))), some (.sh (TI r)), none]) r (by omega) (fun a _ Q hq => ⟨rfl, m_number hq⟩) ?_
    refine ⟨_, asB_map (fun _ => true) r, ?_⟩
    rw [al]
    exact hq
theorem m_are_lines {d : D} {t w : Nat} {m : Mx} {it : List Int → D} (hit : it = LI ∨ it = TI) (hd : d = .lst (m.map it) ∨ d = .tup (m.map it)) (sh : Sh t w m) (ht : t ≤ 60) (hw : w ≤ 60) {P E : D → Prop} (h : P (.bl true)) : dBody N_are_lines.length t_are_lines [d, .int (t : Int), .int (w : Int)] P E := by
  have al : (m.map fun _ => true).all _root_.id = true := by simp
  have tl := sh.tall
  have go : ∀ d' : D, dCompL (gN 3) dYes (dAndV (dCall (dBody N_is_list.length t_is_list) 1 (dCons (dVar 3) dNil)) (dAndV (d2 eqD (dCB lenD (dCons (dVar 3) dNil)) (dVar 2)) (dCB (onL allL) (dCons (dFrz (dComp (dSeqI (dVar 3)) (gN 4) dYes (dCall (dBody N_is_number.length t_is_number) 1 (dCons (dVar 4) dNil)) [4])) dNil)))) [3] (fun acc δ2 => ∃ bs, asBls acc = some bs ∧ P (.bl (bs.all _root_.id))) (m.map it) [] [some (.sh d'), some (.sh (.int (t : Int))), some (.sh (.int (w : Int))), none, none] := fun d' => by
    refine q_compM (it := it) (f := fun _ => D.bl true) m (by omega) (fun r hr Q hq => lin_item hit (sh.wide r hr) rfl hq (by rw [sh.wide r hr]; omega)) ?_
    refine ⟨_, asB_map (fun _ => true) m, ?_⟩
    rw [al]
    exact h
  rcases hd with rfl | rfl
  · refine ⟨rfl, m_list (l := m.map it) (.inl rfl) (iteF ⟨_, _, rfl, rfl, rfl, rfl, iteB (b := !PyData.eqv (.int ((m.map it).length : Int)) (.int (t : Int))) (by rw [eqv_int, List.length_map, tl]; simp) ?_⟩)⟩
    exact go _
  · refine ⟨rfl, m_list (l := m.map it) (.inr rfl) (iteF ⟨_, _, rfl, rfl, rfl, rfl, iteB (b := !PyData.eqv (.int ((m.map it).length : Int)) (.int (t : Int))) (by rw [eqv_int, List.length_map, tl]; simp) ?_⟩)⟩
    exact go _
end K01

namespace K01
open PySem PySem.Spec L2 DL
open PyProof.Rows hiding St
/-! ### rows as plain data -/
abbrev pR (r : List Int) : PyData := .tuple (r.map PyData.int)
abbrev pM (m : Mx) : PyData := .tuple (m.map pR)
abbrev lR (r : List Int) : PyData := .list (r.map PyData.int)
abbrev lM (m : Mx) : PyData := .list (m.map lR)
theorem eqvAll_ints : ∀ l m : List Int, PyData.eqvAll (l.map PyData.int) (m.map PyData.int) = decide (l = m)
  | [], [] => by simp [PyData.eqvAll]
  | [], _ :: _ => by simp [PyData.eqvAll]
  | _ :: _, [] => by simp [PyData.eqvAll]
  | a :: l, b :: m => by
    rw [List.map_cons, List.map_cons, PyData.eqvAll, eqvAll_ints l m, eqv_int]
    by_cases h : a = b <;> by_cases h2 : l = m <;> simp [h, h2]
theorem eqv_rows {f : List Int → PyData} (hf : ∀ a b, PyData.eqv (f a) (f b) = decide (a = b)) : ∀ l m : Mx, PyData.eqvAll (l.map f) (m.map f) = decide (l = m)
  | [], [] => by simp [PyData.eqvAll]
  | [], _ :: _ => by simp [PyData.eqvAll]
  | _ :: _, [] => by simp [PyData.eqvAll]
  | a :: l, b :: m => by
    rw [List.map_cons, List.map_cons, PyData.eqvAll, eqv_rows hf l m, hf]
    by_cases h : a = b <;> by_cases h2 : l = m <;> simp [h, h2]
theorem eqv_pR (a b : List Int) : PyData.eqv (pR a) (pR b) = decide (a = b) := by rw [PyData.eqv, eqvAll_ints]
theorem eqv_lR (a b : List Int) : PyData.eqv (lR a) (lR b) = decide (a = b) := by rw [PyData.eqv, eqvAll_ints]
theorem eqv_pM (a b : Mx) : PyData.eqv (pM a) (pM b) = decide (a = b) := by rw [PyData.eqv, eqv_rows eqv_pR]
theorem eqv_lM (a b : Mx) : PyData.eqv (lM a) (lM b) = decide (a = b) := by rw [PyData.eqv, eqv_rows eqv_lR]
theorem lay_ints : ∀ l : List Int, PyData.canLayAll0 (l.map PyData.int) = true ∧ PyData.depthAll (l.map PyData.int) = 0
  | [] => ⟨rfl, rfl⟩
  | a :: l => by
    obtain ⟨h1, h2⟩ := lay_ints l
    refine ⟨?_, ?_⟩
    · show (PyData.canLay0 (.int a) && PyData.canLayAll0 (l.map PyData.int)) = true
      rw [h1]; rfl
    · show max (PyData.depth (.int a)) (PyData.depthAll (l.map PyData.int)) = 0
      rw [h2]; rfl
theorem lay_rows {f : List Int → PyData} (h1 : ∀ r, (f r).canLay0 = true) (h2 : ∀ r, (f r).depth = 1) : ∀ m : Mx, PyData.canLayAll0 (m.map f) = true ∧ PyData.depthAll (m.map f) ≤ 1
  | [] => ⟨rfl, Nat.zero_le _⟩
  | a :: l => by
    obtain ⟨z1, z2⟩ := lay_rows h1 h2 l
    refine ⟨?_, ?_⟩
    · show (PyData.canLay0 (f a) && PyData.canLayAll0 (l.map f)) = true
      rw [h1, z1]; rfl
    · show max (PyData.depth (f a)) (PyData.depthAll (l.map f)) ≤ 1
      rw [h2]; exact Nat.max_le.mpr ⟨Nat.le_refl _, z2⟩
theorem lay_pM (m : Mx) : PyData.canLayAll0 (m.map pR) = true ∧ PyData.depthAll (m.map pR) ≤ 1 := lay_rows (f := pR) (fun r => by show PyData.canLayAll0 (r.map PyData.int) = true; exact (lay_ints r).1) (fun r => by show PyData.depthAll (r.map PyData.int) + 1 = 1; rw [(lay_ints r).2]) m
theorem lay_lM (m : Mx) : PyData.canLayAll0 (m.map lR) = true ∧ PyData.depthAll (m.map lR) ≤ 1 := lay_rows (f := lR) (fun r => by show PyData.canLayAll0 (r.map PyData.int) = true; exact (lay_ints r).1) (fun r => by show PyData.depthAll (r.map PyData.int) + 1 = 1; rw [(lay_ints r).2]) m
theorem shaped_pM (m : Mx) : SeqAt.shaped (pM m) = true := by
  obtain ⟨h1, h2⟩ := lay_pM m
  show (PyData.canLayAll0 (m.map pR) && decide (PyData.depthAll (m.map pR) + 1 ≤ 64)) = true
  rw [h1, decide_eq_true (by omega)]; rfl
theorem shaped_lM (m : Mx) : SeqAt.shaped (lM m) = true := by
  obtain ⟨h1, h2⟩ := lay_lM m
  show (PyData.canLayAll0 (m.map lR) && decide (PyData.depthAll (m.map lR) + 1 ≤ 64)) = true
  rw [h1, decide_eq_true (by omega)]; rfl
theorem toPDs_rows {it : List Int → D} {f : List Int → PyData} (h : ∀ r, toPD (it r) = some (f r)) : ∀ m : Mx, toPDs (m.map it) = some (m.map f)
  | [] => rfl
  | a :: l => by
    show (match toPD (it a), toPDs (l.map it) with
      | some p, some ps => some (p :: ps)
      | _, _ => none) = _
    rw [h, toPDs_rows h l]; rfl
theorem pd_TT (m : Mx) : toPD (TT m) = some (pM m) := by
  have := toPDs_rows (it := TI) (f := pR) (fun r => by simp only [toPD, toPDs_ofInts, Option.map_some]) m
  simp only [toPD, this, Option.map_some]
theorem pd_LL (m : Mx) : toPD (LL m) = some (lM m) := by
  have := toPDs_rows (it := LI) (f := lR) (fun r => by simp only [toPD, toPDs_ofInts, Option.map_some]) m
  simp only [toPD, this, Option.map_some]
theorem toPDXs_ofInts : ∀ l : List Int, toPDXs (l.map D.int) = some (l.map PyData.int)
  | [] => rfl
  | a :: l => by
    show (match toPDX (D.int a), toPDXs (l.map D.int) with
      | some p, some ps => some (p :: ps)
      | _, _ => none) = _
    rw [toPDXs_ofInts l]; rfl
theorem toPDXs_rows {it : List Int → D} {f : List Int → PyData} (h : ∀ r, toPDX (it r) = some (f r)) : ∀ m : Mx, toPDXs (m.map it) = some (m.map f)
  | [] => rfl
  | a :: l => by
    show (match toPDX (it a), toPDXs (l.map it) with
      | some p, some ps => some (p :: ps)
      | _, _ => none) = _
    rw [h, toPDXs_rows h l]; rfl
theorem pdx_TT (m : Mx) : toPDX (TT m) = some (pM m) := by
  have := toPDXs_rows (it := TI) (f := pR) (fun r => by simp only [toPDX, toPDXs_ofInts, Option.map_some]) m
  simp only [toPDX, this, Option.map_some]
theorem pdx_LL (m : Mx) : toPDX (LL m) = some (lM m) := by
  have := toPDXs_rows (it := LI) (f := lR) (fun r => by simp only [toPDX, toPDXs_ofInts, Option.map_some]) m
  simp only [toPDX, this, Option.map_some]
/-- small numbers -/
def SmM (m : Mx) : Prop := ∀ r ∈ m, ∀ x ∈ r, x.natAbs < 10 ^ 12
theorem sms_ints : ∀ l : List Int, (∀ x ∈ l, x.natAbs < 10 ^ 12) → sms (l.map PyData.int) = true ∧ cnts (l.map PyData.int) = l.length
  | [], _ => ⟨rfl, rfl⟩
  | a :: l, h => by
    obtain ⟨h1, h2⟩ := sms_ints l fun x hx => h x (List.mem_cons_of_mem _ hx)
    refine ⟨?_, ?_⟩
    · simp only [List.map_cons, sms, sm, h1, decide_eq_true (h a List.mem_cons_self), Bool.and_self]
    · simp only [List.map_cons, cnts, cnt1, h2, List.length_cons]; omega
theorem sms_rows {f : List Int → PyData} (h1 : ∀ r, sm (f r) = sms (r.map PyData.int)) (h2 : ∀ r, cnt1 (f r) = cnts (r.map PyData.int)) {w : Nat} : ∀ m : Mx, SmM m → (∀ r ∈ m, r.length = w) → sms (m.map f) = true ∧ cnts (m.map f) = m.length * (w + 1)
  | [], _, _ => ⟨rfl, by simp [cnts]⟩
  | a :: l, h, hw => by
    obtain ⟨z1, z2⟩ := sms_rows h1 h2 l (fun r hr => h r (List.mem_cons_of_mem _ hr)) fun r hr => hw r (List.mem_cons_of_mem _ hr)
    obtain ⟨y1, y2⟩ := sms_ints a (h a List.mem_cons_self)
    have la := hw a List.mem_cons_self
    refine ⟨?_, ?_⟩
    · simp only [List.map_cons, sms, h1, y1, z1, Bool.and_self]
    · simp only [List.map_cons, cnts, h2, y2, z2, List.length_cons, la, Nat.succ_mul]; omega
structure RT (d : D) (p : PyData) : Prop where
  f1 : toPDX d = some p
  f2 : p.showable = true
  f3 : p.depth ≤ 60
  f4 : p.shown.length ≤ sizeLine
  ok : SeqAt.shaped (.str p.shown) = true
theorem rt_of {d : D} {p : PyData} (e : toPDX d = some p) (h : sm p = true) (hc : cnt1 p ≤ 20000) (hd : p.depth ≤ 60) : RT d p := by
  obtain ⟨a1, a2, a3, a4⟩ := sm_facts p h
  have wt : p.weight ≤ 2 ^ 20 := Nat.le_trans a3 (Nat.le_trans (show 41 + 42 * cnt1 p ≤ 41 + 42 * 20000 by omega) (by decide))
  exact ⟨e, a1, hd, PyData.shown_fits (by decide) (by decide) a2 wt, shaped_str (okT_shown p a4)⟩
theorem mul_le60 {t w : Nat} (ht : t ≤ 60) (hw : w ≤ 60) : t * (w + 1) ≤ 3660 := Nat.le_trans (Nat.mul_le_mul ht (show w + 1 ≤ 61 by omega)) (by decide)
theorem rTT {t w : Nat} {m : Mx} (sh : Sh t w m) (ht : t ≤ 60) (hw : w ≤ 60) (h : SmM m) : RT (TT m) (pM m) := by
  obtain ⟨z1, z2⟩ := sms_rows (f := pR) (fun r => rfl) (fun r => rfl) m h sh.wide
  have k := mul_le60 ht hw
  have tl := sh.tall
  refine rt_of (pdx_TT m) z1 (show cnts (m.map pR) ≤ 20000 by rw [z2, tl]; omega) ?_
  show PyData.depthAll (m.map pR) + 1 ≤ 60
  have := (lay_pM m).2
  omega
theorem rLL2 {t w t' w' : Nat} {m n : Mx} (sh : Sh t w m) (sh' : Sh t' w' n) (ht : t ≤ 60) (hw : w ≤ 60) (ht' : t' ≤ 60) (hw' : w' ≤ 60) (h : SmM m) (h' : SmM n) : RT (.lst [LL m, LL n]) (.list [lM m, lM n]) := by
  obtain ⟨z1, z2⟩ := sms_rows (f := lR) (fun r => rfl) (fun r => rfl) m h sh.wide
  obtain ⟨y1, y2⟩ := sms_rows (f := lR) (fun r => rfl) (fun r => rfl) n h' sh'.wide
  have k := mul_le60 ht hw
  have k' := mul_le60 ht' hw'
  have tl := sh.tall
  have tl' := sh'.tall
  refine rt_of ?_ ?_ ?_ ?_
  · show (toPDXs [LL m, LL n]).map PyData.list = _
    have : toPDXs [LL m, LL n] = some [lM m, lM n] := by
      show (match toPDX (LL m), toPDXs [LL n] with
        | some p, some ps => some (p :: ps)
        | _, _ => none) = _
      rw [pdx_LL, show toPDXs [LL n] = some [lM n] from by
        show (match toPDX (LL n), toPDXs [] with
          | some p, some ps => some (p :: ps)
          | _, _ => none) = _
        rw [pdx_LL]; rfl]
    rw [this]; rfl
  · show (sms (m.map lR) && (sms (n.map lR) && true)) = true
    rw [z1, y1]; rfl
  · show cnts (m.map lR) + 1 + (cnts (n.map lR) + 1 + 0) ≤ 20000
    rw [z2, y2, tl, tl']; omega
  · show max (PyData.depthAll (m.map lR) + 1) (max (PyData.depthAll (n.map lR) + 1) 0) + 1 ≤ 60
    have a := (lay_lM m).2
    have b := (lay_lM n).2
    omega
theorem eqv_ss (x : Str) : (!PyData.eqv (.str x) (.str x)) = false := by rw [eqv_str_refl]; rfl
end K01

namespace K01
open PySem PySem.Spec L2 DL
open PyProof.Rows hiding St
/-! ### Table -/
theorem pl_ne {p : Int} (hp : p ∈ PL) : p ≠ 0 := by rintro rfl; exact absurd hp (by decide)
theorem pl_pos {p : Int} (hp : p ∈ PL) : 2 ≤ p ∧ p ≤ 97 := by
  simp only [List.mem_cons, List.not_mem_nil, or_false] at hp
  omega
theorem modM_TT (p : Int) (m : Mx) : (m.map fun r => D.tup (r.map fun x => D.int (x.fmod p))) = (modM p m).map TI := by
  unfold modM
  rw [List.map_map]
  refine List.map_congr_left fun r _ => ?_
  show D.tup _ = D.tup _
  rw [List.map_map]; rfl
theorem tab_item {p : Int} (hp : p ≠ 0) {s0 s2 s3 s4 : Option Sl} {it : List Int → D} (hit : it = LI ∨ it = TI) {r : List Int} (hl : r.length < 10000) {Q : Option D → DL.Env → Prop}
    (hq : Q (some (.tup (r.map fun x => D.int (x.fmod p)))) [s0, some (.sh (.int p)), s2, s3, s4, none, none]) :
    stepQ (gN 5) dYes (dCB tupD (dCons (dFrz (dComp (dSeqI (dVar 5)) (gN 6) dYes (d2 modG (dVar 6) (dVar 1)) [6])) dNil)) [5] (it r) [s0, some (.sh (.int p)), s2, s3, s4, none, none] Q := by
  rcases hit with rfl | rfl
  · exact q_compM (it := D.int) (f := fun x => D.int (x.fmod p)) (δ0 := [s0, some (.sh (.int p)), s2, s3, s4, some (.sh (LI r)), none]) r (by omega) (fun x _ Q hq => ⟨hp, hq⟩) hq
  · exact q_compM (it := D.int) (f := fun x => D.int (x.fmod p)) (δ0 := [s0, some (.sh (.int p)), s2, s3, s4, some (.sh (TI r)), none]) r (by omega) (fun x _ Q hq => ⟨hp, hq⟩) hq
theorem tab_rows {p : Int} (hp : p ≠ 0) {s0 s2 s3 s4 : Option Sl} {it : List Int → D} (hit : it = LI ∨ it = TI) {m : Mx} {t w : Nat} (sh : Sh t w m) (ht : t ≤ 60) (hw : w ≤ 60) {P : List D → DL.Env → Prop} (h : P ((modM p m).map TI) [s0, some (.sh (.int p)), s2, s3, s4, none, none]) :
    dCompL (gN 5) dYes (dCB tupD (dCons (dFrz (dComp (dSeqI (dVar 5)) (gN 6) dYes (d2 modG (dVar 6) (dVar 1)) [6])) dNil)) [5] P (m.map it) [] [s0, some (.sh (.int p)), s2, s3, s4, none, none] := by
  have tl := sh.tall
  refine q_compM (it := it) (f := fun r => D.tup (r.map fun x => D.int (x.fmod p))) m (by omega) (fun r hr Q hq => tab_item hp hit (by rw [sh.wide r hr]; omega) hq) ?_
  rw [modM_TT]
  exact h
theorem mk_Table {p : Int} {t w : Nat} {m : Mx} {d : D} {it : List Int → D} (hp : p ∈ PL) (ht : t ≤ 60) (hw : w ≤ 60) (hit : it = LI ∨ it = TI) (hd : d = .lst (m.map it) ∨ d = .tup (m.map it)) (sh : Sh t w m) {Q : List (Str × D) → Prop} {E : D → Prop} (h : Q (tbF p t w (modM p m))) : wi_Table [.int p, .int (t : Int), .int (w : Int), d] Q E := by
  intro a
  refine ⟨rfl, m_need_prime hp ⟨rfl, m_betweenT (by omega) (by omega) (iteF ⟨rfl, m_betweenT (by omega) (by omega) (iteF ⟨rfl, m_are_lines hit hd sh ht hw (iteF ?_)⟩)⟩)⟩⟩
  refine ⟨rfl, (by decide : 0 < 1000), ⟨rfl, (by decide : 1 < 1000), ⟨rfl, (by decide : 2 < 1000), ?_⟩⟩⟩
  rcases hd with rfl | rfl
  · refine tab_rows (s0 := some (.oi (some a) "Table" [("own_prime", .int p), ("own_tall", .int (t : Int)), ("own_wide", .int (w : Int))])) (pl_ne hp) hit sh ht hw ?_
    exact ⟨rfl, (by decide : 3 < 1000), _, rfl, h⟩
  · refine tab_rows (s0 := some (.oi (some a) "Table" [("own_prime", .int p), ("own_tall", .int (t : Int)), ("own_wide", .int (w : Int))])) (pl_ne hp) hit sh ht hw ?_
    exact ⟨rfl, (by decide : 3 < 1000), _, rfl, h⟩
theorem x_prime {d a b c : D} (hd : NoPr d) {Q : List (Str × D) → Prop} {E : D → Prop} (h : E (.exc "BadPrime" [])) : wi_Table [d, a, b, c] Q E := fun a => ⟨rfl, m_no_prime hd h⟩
theorem x_tall {p : Int} {d b c : D} (hp : p ∈ PL) (o : Out d 0 60) {Q : List (Str × D) → Prop} {E : D → Prop} (h : E (.exc "BadTable" [])) : wi_Table [.int p, d, b, c] Q E := fun a => ⟨rfl, m_need_prime hp ⟨rfl, o h⟩⟩
theorem x_wide {p : Int} {t : Nat} {d c : D} (hp : p ∈ PL) (ht : t ≤ 60) (o : Out d 0 60) {Q : List (Str × D) → Prop} {E : D → Prop} (h : E (.exc "BadTable" [])) : wi_Table [.int p, .int (t : Int), d, c] Q E := fun a =>
  ⟨rfl, m_need_prime hp ⟨rfl, m_betweenT (by omega) (by omega) (iteF ⟨rfl, o h⟩)⟩⟩
def NoL (d : D) (t w : Nat) : Prop := ∀ {P E : D → Prop}, P (.bl false) → dBody N_are_lines.length t_are_lines [d, .int (t : Int), .int (w : Int)] P E
theorem x_lines {p : Int} {t w : Nat} {c : D} (hp : p ∈ PL) (ht : t ≤ 60) (hw : w ≤ 60) (o : NoL c t w) {Q : List (Str × D) → Prop} {E : D → Prop} (h : E (.exc "BadTable" [])) : wi_Table [.int p, .int (t : Int), .int (w : Int), c] Q E := fun a =>
  ⟨rfl, m_need_prime hp ⟨rfl, m_betweenT (by omega) (by omega) (iteF ⟨rfl, m_betweenT (by omega) (by omega) (iteF ⟨rfl, o h⟩)⟩)⟩⟩
/-! equal tables -/
theorem m_eqT {p p' : Int} {t w t' w' : Nat} {m m' : Mx} {P E : D → Prop} (h : P (.bl (decide (p = p' ∧ t = t' ∧ w = w' ∧ m = m')))) : dBody N_Table_eq.length t_Table_eq [tb p t w m, tb p' t' w' m'] P E := by
  refine ⟨_, _, _, rfl, rfl, rfl, ⟨_, rfl, _, rfl, _, _, rfl, rfl, rfl, rfl, ?_⟩⟩
  rw [eqv_int]
  by_cases c1 : p = p'
  · rw [decide_eq_true c1]
    refine ⟨_, rfl, _, rfl, _, _, rfl, rfl, rfl, rfl, ?_⟩
    rw [eqv_int]
    by_cases c2 : t = t'
    · rw [decide_eq_true (show (t : Int) = (t' : Int) by omega)]
      refine ⟨_, rfl, _, rfl, _, _, rfl, rfl, rfl, rfl, ?_⟩
      rw [eqv_int]
      by_cases c3 : w = w'
      · rw [decide_eq_true (show (w : Int) = (w' : Int) by omega)]
        refine ⟨_, rfl, _, rfl, _, _, pd_TT m, pd_TT m', shaped_pM m, shaped_pM m', ?_⟩
        rw [eqv_pM]
        rw [show decide (m = m') = decide (p = p' ∧ t = t' ∧ w = w' ∧ m = m') from decide_eq_decide.mpr ⟨fun z => ⟨c1, c2, c3, z⟩, fun z => z.2.2.2⟩]
        exact h
      · rw [decide_eq_false (show ¬ (w : Int) = (w' : Int) by omega)]
        rw [decide_eq_false (fun z => c3 z.2.2.1)] at h
        exact h
    · rw [decide_eq_false (show ¬ (t : Int) = (t' : Int) by omega)]
      rw [decide_eq_false (fun z => c2 z.2.1)] at h
      exact h
  · rw [decide_eq_false c1]
    rw [decide_eq_false (fun z => c1 z.1)] at h
    exact h
end K01

namespace K01
open PySem PySem.Spec L2 DL
open PyProof.Rows hiding St
theorem fmod_fmod {p : Int} (hp : 0 < p) (x : Int) : (x.fmod p).fmod p = x.fmod p := by
  rw [Int.fmod_eq_emod_of_nonneg _ (by omega), Int.fmod_eq_emod_of_nonneg _ (by omega), Int.emod_emod_of_dvd _ (Int.dvd_refl p)]
theorem modM_modM {p : Int} (hp : 0 < p) (m : Mx) : modM p (modM p m) = modM p m := by
  unfold modM
  rw [List.map_map]
  refine List.map_congr_left fun r _ => ?_
  show (r.map fun x => x.fmod p).map _ = _
  rw [List.map_map]
  exact List.map_congr_left fun x _ => fmod_fmod hp x
theorem sh_modM {p : Int} {t w : Nat} {m : Mx} (sh : Sh t w m) : Sh t w (modM p m) := ⟨by unfold modM; rw [List.length_map]; exact sh.tall, fun r hr => by
  obtain ⟨q, hq, rfl⟩ := List.mem_map.mp hr
  rw [List.length_map]; exact sh.wide q hq⟩
theorem sm_modM {p : Int} (hp : p ∈ PL) (m : Mx) : SmM (modM p m) := fun r hr x hx => by
  obtain ⟨q, hq, rfl⟩ := List.mem_map.mp hr
  obtain ⟨y, hy, rfl⟩ := List.mem_map.mp hx
  obtain ⟨h2, h97⟩ := pl_pos hp
  rw [Int.fmod_eq_emod_of_nonneg _ (by omega)]
  have a := Int.emod_nonneg y (show p ≠ 0 by omega)
  have b := Int.emod_lt_of_pos y (show 0 < p by omega)
  omega
theorem sh_item {p : Int} (hp : p ≠ 0) {s0 s2 s3 s4 s5 : Option Sl} {it : List Int → D} (hit : it = LI ∨ it = TI) {r : List Int} (hl : r.length < 10000) {Q : Option D → DL.Env → Prop}
    (hq : Q (some (.tup (r.map fun x => D.int (x.fmod p)))) [s0, some (.sh (.int p)), s2, s3, s4, s5, none, none]) :
    stepQ (gN 6) dYes (dCB tupD (dCons (dFrz (dComp (dSeqI (dVar 6)) (gN 7) dYes (d2 modG (dVar 7) (dVar 1)) [7])) dNil)) [6] (it r) [s0, some (.sh (.int p)), s2, s3, s4, s5, none, none] Q := by
  rcases hit with rfl | rfl
  · exact q_compM (it := D.int) (f := fun x => D.int (x.fmod p)) (δ0 := [s0, some (.sh (.int p)), s2, s3, s4, s5, some (.sh (LI r)), none]) r (by omega) (fun x _ Q hq => ⟨hp, hq⟩) hq
  · exact q_compM (it := D.int) (f := fun x => D.int (x.fmod p)) (δ0 := [s0, some (.sh (.int p)), s2, s3, s4, s5, some (.sh (TI r)), none]) r (by omega) (fun x _ Q hq => ⟨hp, hq⟩) hq
theorem sh_rows {p : Int} (hp : p ≠ 0) {s0 s2 s3 s4 s5 : Option Sl} {it : List Int → D} (hit : it = LI ∨ it = TI) {m : Mx} {t w : Nat} (sh : Sh t w m) (ht : t ≤ 60) (hw : w ≤ 60) {P : List D → DL.Env → Prop} (h : P ((modM p m).map TI) [s0, some (.sh (.int p)), s2, s3, s4, s5, none, none]) :
    dCompL (gN 6) dYes (dCB tupD (dCons (dFrz (dComp (dSeqI (dVar 6)) (gN 7) dYes (d2 modG (dVar 7) (dVar 1)) [7])) dNil)) [6] P (m.map it) [] [s0, some (.sh (.int p)), s2, s3, s4, s5, none, none] := by
  have tl := sh.tall
  refine q_compM (it := it) (f := fun r => D.tup (r.map fun x => D.int (x.fmod p))) m (by omega) (fun r hr Q hq => sh_item hp hit (by rw [sh.wide r hr]; omega) hq) ?_
  rw [modM_TT]
  exact h
theorem m_shows {p : Int} {t w : Nat} {S M : Mx} {d : D} {it : List Int → D} (hp : p ∈ PL) (ht : t ≤ 60) (hw : w ≤ 60) (hit : it = LI ∨ it = TI) (hd : d = .lst (S.map it)) (sh : Sh t w S) (hM : M = modM p S) {P E : D → Prop} (h : P (.bl true)) :
    dBody N__law_shows.length t__law_shows [tb p t w M, .int p, .int (t : Int), .int (w : Int), d] P E := by
  subst hd
  obtain ⟨p2, p97⟩ := pl_pos hp
  refine sh_rows (pl_ne hp) hit sh ht hw ?_
  rw [← hM]
  have sM : Sh t w M := by rw [hM]; exact sh_modM sh
  have rM := rTT sM ht hw (by rw [hM]; exact sm_modM hp S)
  refine ⟨_, _, _, rfl, rfl, rfl, ⟨_, rfl, _, _, rfl, rfl, rfl, rfl, iteB (b := !PyData.eqv (.int p) (.int p)) (by rw [eqv_int]; simp) ?_⟩⟩
  refine ⟨_, rfl, _, _, rfl, rfl, rfl, rfl, iteB (b := !PyData.eqv (.int (t : Int)) (.int (t : Int))) (by rw [eqv_int]; simp) ?_⟩
  refine ⟨_, rfl, _, _, rfl, rfl, rfl, rfl, iteB (b := !PyData.eqv (.int (w : Int)) (.int (w : Int))) (by rw [eqv_int]; simp) ?_⟩
  refine ⟨_, rfl, _, rM.f1, rM.f2, rM.f3, rM.f4, _, rM.f1, rM.f2, rM.f3, rM.f4, _, _, rfl, rfl, rM.ok, rM.ok, ?_⟩
  rw [eqv_str_refl]
  refine ⟨rfl, mk_Table (m := M) hp ht hw (.inr rfl) (.inr rfl) sM ⟨_, rfl, ⟨_, rfl, .inl rfl⟩, m_eqT ⟨_, rfl, ?_⟩⟩⟩
  have e : M = modM p M := by rw [hM, modM_modM (by omega)]
  rw [decide_eq_true (show p = p ∧ t = t ∧ w = w ∧ M = modM p M from ⟨rfl, rfl, rfl, e⟩)]
  exact h
/-! need_table and its kin -/
theorem m_need_table {p : Int} {t w : Nat} {m : Mx} {P E : D → Prop} (h : P .non) : dBody N_need_table.length t_need_table [tb p t w m] P E := ⟨_, _, _, rfl, rfl, rfl, h⟩
theorem m_need_two {p : Int} {t w t' w' : Nat} {m m' : Mx} {P E : D → Prop} (h : P .non) : dBody N_need_two.length t_need_two [tb p t w m, tb p t' w' m'] P E := by
  refine ⟨rfl, m_need_table ⟨rfl, m_need_table ⟨_, rfl, _, rfl, _, _, rfl, rfl, rfl, rfl, iteB (b := !PyData.eqv (.int p) (.int p)) (by rw [eqv_int]; simp) ?_⟩⟩⟩
  exact h
theorem x_need_two {p p' : Int} {t w t' w' : Nat} {m m' : Mx} (hp : p ≠ p') {P E : D → Prop} (h : E (.exc "BadTable" [])) : dBody N_need_two.length t_need_two [tb p t w m, tb p' t' w' m'] P E := by
  refine ⟨rfl, m_need_table ⟨rfl, m_need_table ⟨_, rfl, _, rfl, _, _, rfl, rfl, rfl, rfl, iteBt (b := !PyData.eqv (.int p) (.int p')) (by rw [eqv_int, decide_eq_false hp]; rfl) ?_⟩⟩⟩
  exact h
theorem m_same {p : Int} {t w : Nat} {m m' : Mx} {P E : D → Prop} (h : P .non) : dBody N_need_same_size.length t_need_same_size [tb p t w m, tb p t w m'] P E := by
  refine ⟨rfl, m_need_two ⟨_, rfl, _, rfl, _, _, rfl, rfl, rfl, rfl, iteB (b := !PyData.eqv (.int (t : Int)) (.int (t : Int))) (by rw [eqv_int]; simp) ?_⟩⟩
  refine ⟨_, rfl, _, rfl, _, _, rfl, rfl, rfl, rfl, iteB (b := !PyData.eqv (.int (w : Int)) (.int (w : Int))) (by rw [eqv_int]; simp) ?_⟩
  exact h
theorem x_same_p {p p' : Int} {t w t' w' : Nat} {m m' : Mx} (hp : p ≠ p') {P E : D → Prop} (h : E (.exc "BadTable" [])) : dBody N_need_same_size.length t_need_same_size [tb p t w m, tb p' t' w' m'] P E := ⟨rfl, x_need_two hp h⟩
theorem x_same_t {p : Int} {t w t' w' : Nat} {m m' : Mx} (ht : t ≠ t') {P E : D → Prop} (h : E (.exc "BadTable" [])) : dBody N_need_same_size.length t_need_same_size [tb p t w m, tb p t' w' m'] P E := by
  refine ⟨rfl, m_need_two ⟨_, rfl, _, rfl, _, _, rfl, rfl, rfl, rfl, iteBt (b := !PyData.eqv (.int (t : Int)) (.int (t' : Int))) (by rw [eqv_int, decide_eq_false (by omega)]; rfl) ?_⟩⟩
  exact h
end K01

namespace K01
open PySem PySem.Spec L2 DL
open PyProof.Rows hiding St
/-! ### rows modulo a prime: plain mathematics -/
def modR (p : Int) (r : List Int) : List Int := r.map fun x => x.fmod p
theorem modM_def (p : Int) (m : Mx) : modM p m = m.map (modR p) := rfl
def zw (f : Int → Int → Int) (a b : List Int) : List Int := (a.zip b).map fun q => f q.1 q.2
theorem zw_nil (f : Int → Int → Int) (b : List Int) : zw f [] b = [] := rfl
theorem zw_nil2 (f : Int → Int → Int) (a : List Int) : zw f a [] = [] := by cases a <;> rfl
theorem zw_cons (f : Int → Int → Int) (x y : Int) (a b : List Int) : zw f (x :: a) (y :: b) = f x y :: zw f a b := rfl
theorem len_zw (f : Int → Int → Int) (a b : List Int) : (zw f a b).length = min a.length b.length := by
  unfold zw; rw [List.length_map, List.length_zip]
theorem modR_cons (p x : Int) (r : List Int) : modR p (x :: r) = x.fmod p :: modR p r := rfl
/-- the same modulo p -/
abbrev Cg (p x y : Int) : Prop := x.fmod p = y.fmod p
abbrev CR (p : Int) (a b : List Int) : Prop := modR p a = modR p b
theorem cg_add {p x y x' y' : Int} (hp : 0 < p) (h1 : Cg p x x') (h2 : Cg p y y') : Cg p (x + y) (x' + y') := by
  unfold Cg at *
  simp only [Int.fmod_eq_emod_of_nonneg _ (show 0 ≤ p by omega)] at *
  rw [Int.add_emod, h1, h2, ← Int.add_emod]
theorem cg_sub {p x y x' y' : Int} (hp : 0 < p) (h1 : Cg p x x') (h2 : Cg p y y') : Cg p (x - y) (x' - y') := by
  unfold Cg at *
  simp only [Int.fmod_eq_emod_of_nonneg _ (show 0 ≤ p by omega)] at *
  rw [Int.sub_emod, h1, h2, ← Int.sub_emod]
theorem cg_mul {p x y x' y' : Int} (hp : 0 < p) (h1 : Cg p x x') (h2 : Cg p y y') : Cg p (x * y) (x' * y') := by
  unfold Cg at *
  simp only [Int.fmod_eq_emod_of_nonneg _ (show 0 ≤ p by omega)] at *
  rw [Int.mul_emod, h1, h2, ← Int.mul_emod]
theorem cg_mod {p : Int} (hp : 0 < p) (x : Int) : Cg p (x.fmod p) x := fmod_fmod hp x
theorem cr_modR {p : Int} (hp : 0 < p) (r : List Int) : CR p (modR p r) r := by
  unfold CR modR
  rw [List.map_map]
  exact List.map_congr_left fun x _ => fmod_fmod hp x
theorem cr_len {p : Int} {a b : List Int} (h : CR p a b) : a.length = b.length := by
  have := congrArg List.length h
  simpa [modR] using this
theorem cr_zw {p : Int} {f g : Int → Int → Int} (hf : ∀ x y x' y', Cg p x x' → Cg p y y' → Cg p (f x y) (g x' y')) : ∀ {a a' b b' : List Int}, CR p a a' → CR p b b' → CR p (zw f a b) (zw g a' b')
  | [], [], _, _, _, _ => rfl
  | [], _ :: _, _, _, h, _ => by cases h
  | _ :: _, [], _, _, h, _ => by cases h
  | x :: a, x' :: a', [], [], _, _ => rfl
  | x :: a, x' :: a', [], _ :: _, _, h => by cases h
  | x :: a, x' :: a', _ :: _, [], _, h => by cases h
  | x :: a, x' :: a', y :: b, y' :: b', h1, h2 => by
    unfold CR at h1 h2
    rw [modR_cons, modR_cons, List.cons.injEq] at h1 h2
    unfold CR
    rw [zw_cons, zw_cons, modR_cons, modR_cons, hf x y x' y' h1.1 h2.1]
    rw [show modR p (zw f a b) = modR p (zw g a' b') from cr_zw hf h1.2 h2.2]
/-- tables alike modulo p -/
inductive CM (p : Int) : Mx → Mx → Prop
  | nil : CM p [] []
  | cons {a b : List Int} {A B : Mx} : CR p a b → CM p A B → CM p (a :: A) (b :: B)
theorem cm_modM {p : Int} (hp : 0 < p) : ∀ A : Mx, CM p (modM p A) A
  | [] => .nil
  | a :: A => .cons (cr_modR hp a) (cm_modM hp A)
theorem cm_eq {p : Int} {A B : Mx} (h : CM p A B) : modM p A = modM p B := by
  induction h with
  | nil => rfl
  | cons h _ ih =>
    rw [modM_def, modM_def, List.map_cons, List.map_cons, h]
    rw [modM_def, modM_def] at ih
    rw [ih]
theorem cm_map {p : Int} {f g : List Int → List Int} (hf : ∀ a b, CR p a b → CR p (f a) (g b)) {A B : Mx} (h : CM p A B) : CM p (A.map f) (B.map g) := by
  induction h with
  | nil => exact .nil
  | cons h _ ih => exact .cons (hf _ _ h) ih
/-- sums row by row -/
def zM (f : Int → Int → Int) (A B : Mx) : Mx := (A.zip B).map fun q => zw f q.1 q.2
theorem cm_zM {p : Int} {f g : Int → Int → Int} (hf : ∀ x y x' y', Cg p x x' → Cg p y y' → Cg p (f x y) (g x' y')) {A A' : Mx} (h1 : CM p A A') : ∀ {B B' : Mx}, CM p B B' → CM p (zM f A B) (zM g A' B') := by
  induction h1 with
  | nil => intro B B' _; exact .nil
  | cons h _ ih =>
    intro B B' h2
    cases h2 with
    | nil => exact .nil
    | cons h' t => exact .cons (cr_zw hf h h') (ih t)
theorem sh_zM {f : Int → Int → Int} {t w : Nat} {A B : Mx} (sa : Sh t w A) (sb : Sh t w B) : Sh t w (zM f A B) := ⟨by
  unfold zM; rw [List.length_map, List.length_zip, sa.tall, sb.tall]; exact Nat.min_self t, fun r hr => by
  obtain ⟨q, hq, rfl⟩ := List.mem_map.mp hr
  obtain ⟨ha, hb⟩ := List.of_mem_zip (a := q.1) (b := q.2) hq
  rw [len_zw, sa.wide _ ha, sb.wide _ hb]; exact Nat.min_self w⟩
/-- a row times a table -/
def accR (s : List Int) : List Int → Mx → List Int
  | [], _ => s
  | x :: r, b :: B => accR (zw (fun u v => u + x * v) s b) r B
  | _ :: _, [] => s
def prodM (w : Nat) (A B : Mx) : Mx := A.map fun r => accR (List.replicate w 0) r B
theorem len_accR {w : Nat} : ∀ (r : List Int) (B : Mx) (s : List Int), s.length = w → (∀ b ∈ B, b.length = w) → (accR s r B).length = w
  | [], _, s, h, _ => h
  | x :: r, [], s, h, _ => h
  | x :: r, b :: B, s, h, hB => len_accR r B _ (by rw [len_zw, h, hB b List.mem_cons_self]; exact Nat.min_self w) fun c hc => hB c (List.mem_cons_of_mem _ hc)
theorem cr_accR {p : Int} (hp : 0 < p) {B B' : Mx} (hB : CM p B B') : ∀ {r r' s s' : List Int}, CR p r r' → CR p s s' → CR p (accR s r B) (accR s' r' B') := by
  induction hB with
  | nil =>
    intro r r' s s' h1 h2
    cases r <;> cases r' <;> first | exact h2 | cases h1
  | cons hb _ ih =>
    intro r r' s s' h1 h2
    cases r with
    | nil =>
      cases r' with
      | nil => exact h2
      | cons _ _ => cases h1
    | cons x r =>
      cases r' with
      | nil => cases h1
      | cons x' r' =>
        unfold CR at h1
        rw [modR_cons, modR_cons, List.cons.injEq] at h1
        exact ih h1.2 (cr_zw (fun u v u' v' hu hv => cg_add hp hu (cg_mul hp h1.1 hv)) h2 hb)
theorem cm_prodM {p : Int} (hp : 0 < p) {w : Nat} {A A' B B' : Mx} (h1 : CM p A A') (h2 : CM p B B') : CM p (prodM w A B) (prodM w A' B') := cm_map (fun a b h => cr_accR hp h2 h rfl) h1
theorem sh_prodM {t m w : Nat} {A B : Mx} (sa : Sh t m A) (sb : Sh m w B) : Sh t w (prodM w A B) := ⟨by unfold prodM; rw [List.length_map]; exact sa.tall, fun r hr => by
  obtain ⟨q, hq, rfl⟩ := List.mem_map.mp hr
  exact len_accR q B _ (by simp) sb.wide⟩
theorem zw_zero {s b : List Int} (h : s.length ≤ b.length) : zw (fun u v => u + 0 * v) s b = s := by
  unfold zw
  have e : (fun q : Int × Int => q.1 + 0 * q.2) = fun q => q.1 := by funext q; omega
  rw [e]
  exact List.map_fst_zip h
end K01

namespace K01
open PySem PySem.Spec L2 DL
open PyProof.Rows hiding St
/-! ### the products -/
theorem zipD_ints : ∀ a b : List Int, DL.zipD (a.map D.int) (b.map D.int) = (a.zip b).map fun q => .tup [.int q.1, .int q.2]
  | [], _ => by simp [DL.zipD]
  | _ :: _, [] => by simp [DL.zipD]
  | x :: a, y :: b => by
    rw [List.map_cons, List.map_cons, DL.zipD, zipD_ints a b]; rfl
theorem zipD_rows {it : List Int → D} : ∀ a b : Mx, DL.zipD (a.map it) (b.map it) = (a.zip b).map fun q => .tup [it q.1, it q.2]
  | [], _ => by simp [DL.zipD]
  | _ :: _, [] => by simp [DL.zipD]
  | x :: a, y :: b => by
    rw [List.map_cons, List.map_cons, DL.zipD, zipD_rows a b]; rfl
theorem rep0 (n : Nat) : (List.replicate n [D.int 0]).flatten = (List.replicate n (0 : Int)).map D.int := by
  induction n with
  | zero => rfl
  | succ n ih => rw [List.replicate_succ, List.replicate_succ, List.flatten_cons, ih]; rfl
def SmR (r : List Int) : Prop := ∀ x ∈ r, x.natAbs < 10 ^ 12
theorem sm12 {c y : Int} (hc : c.natAbs < 10 ^ 12) (hy : y.natAbs < 10 ^ 12) : CMulX c y := mul_small (a := 40) (b := 40) (Nat.lt_trans hc (by decide)) (Nat.lt_trans hy (by decide)) (by decide)
abbrev zipFrom (j : Nat) (b : List Int) : List D := ((b.map D.int).zipIdx j).map fun q => .tup [.int (q.2 : Nat), q.1]
theorem zipFrom_cons {j : Nat} {x : Int} {b : List Int} : zipFrom j (x :: b) = .tup [.int (j : Nat), .int x] :: zipFrom (j + 1) b := by
  unfold zipFrom
  rw [List.map_cons, List.zipIdx_cons, List.map_cons]
theorem atI_nat {α : Type} {l : List α} {i : Nat} (h : i < l.length) : atI l (i : Int) = some l[i] := by
  have e : ixN l.length (i : Int) = some i := by
    unfold ixN
    rw [if_pos (by omega), if_pos (by omega)]; rfl
  unfold atI
  rw [e]
  exact List.getElem?_eq_getElem h
/-- the comprehension that adds a row so many times -/
abbrev cpAdd : TDF := dComp (dZipB (dCons (dVar 6) (dCons (d2 ixD (dVar 2) (dVar 7)) dNil))) (gT 2 (gsCons (gN 9) (gsCons (gN 10) gsNil))) dYes (dFrz (f2 addF (dVar 9) (dFrz (f2 mulG (dVar 8) (dVar 10))))) [9, 10]
abbrev eP (q A B w : D) (F : List D) (r : D) (s6 : Option Sl) (s7 s8 : Option Sl) : DL.Env := [some (.sh q), some (.sh A), some (.sh B), some (.sh w), some (.ol F), some (.sh r), s6, s7, s8, none, none]
def s6Ok (s6 : Option Sl) (s : List Int) : Prop := s6 = some (.sh (LI s)) ∨ s6 = some (.ol (s.map D.int))
theorem st_add {rx : D → Prop} {DD : DEnds} {q A w r : D} {F : List D} {s6 : Option Sl} {k : Nat} {c : Int} {s b : List Int} {B : Mx} {it : List Int → D} {Bd : D} (hit : it = LI ∨ it = TI) (hB : Bd = .lst (B.map it) ∨ Bd = .tup (B.map it)) (hk : k < B.length) (eb : B[k] = b) (h6 : s6Ok s6 s) (hc : c.natAbs < 10 ^ 12) (hb : SmR b) (hl : s.length < 10000)
    (h : DD.nx (eP q A Bd w F r (some (.ol ((zw (fun u v => u + c * v) s b).map D.int))) (some (.sh (.int (k : Int)))) (some (.sh (.int c))))) :
    dSetX 6 cpAdd rx DD (eP q A Bd w F r s6 (some (.sh (.int (k : Int)))) (some (.sh (.int c)))) := by
  have e1 : atI (B.map it) (k : Int) = some (it b) := by rw [atI_nat (by simpa using hk), List.getElem_map, eb]
  have fin : ∀ s6' : Option Sl, dCompL (gT 2 (gsCons (gN 9) (gsCons (gN 10) gsNil))) dYes (dFrz (f2 addF (dVar 9) (dFrz (f2 mulG (dVar 8) (dVar 10))))) [9, 10] (fun acc δ2 => DD.nx ((backD (eP q A Bd w F r s6' (some (.sh (.int (k : Int)))) (some (.sh (.int c)))) δ2 [9, 10]).set 6 (some (.ol acc)))) (DL.zipD (s.map D.int) (b.map D.int)) [] (eP q A Bd w F r s6' (some (.sh (.int (k : Int)))) (some (.sh (.int c)))) := fun s6' => by
    rw [zipD_ints]
    refine q_compM (it := fun q : Int × Int => D.tup [.int q.1, .int q.2]) (f := fun q : Int × Int => D.int (q.1 + c * q.2)) (δ0 := eP q A Bd w F r s6' (some (.sh (.int (k : Int)))) (some (.sh (.int c)))) (s.zip b) (by rw [List.length_zip]; omega) (fun x hx Q hq => ?_) ?_
    · exact ⟨rfl, sm12 hc (hb _ (List.of_mem_zip (a := x.1) (b := x.2) hx).2), hq⟩
    · have e : (s.zip b).map (fun q : Int × Int => D.int (q.1 + c * q.2)) = (zw (fun u v => u + c * v) s b).map D.int := by
        unfold zw; rw [List.map_map]; rfl
      rw [e]
      exact h
  rcases hB with rfl | rfl
  · rcases h6 with rfl | rfl
    · refine ⟨_, e1, ?_⟩
      rcases hit with rfl | rfl
      · exact fin _
      · exact fin _
    · refine ⟨_, e1, ?_⟩
      rcases hit with rfl | rfl
      · exact fin _
      · exact fin _
  · rcases h6 with rfl | rfl
    · refine ⟨_, e1, ?_⟩
      rcases hit with rfl | rfl
      · exact fin _
      · exact fin _
    · refine ⟨_, e1, ?_⟩
      rcases hit with rfl | rfl
      · exact fin _
      · exact fin _
end K01

namespace K01
open PySem PySem.Spec L2 DL
open PyProof.Rows hiding St
abbrev tg78 : TDG := gT 2 (gsCons (gN 7) (gsCons (gN 8) gsNil))
abbrev bodyP : TDS := dIfS (dTest (d2 neD (dVar 8) (dC (.int 0)))) (dSetX 6 cpAdd) dNext
abbrev bodyL : TDS := dSetX 6 cpAdd
def DoesAdd (tb : TDS) (q A Bd w : D) (B : Mx) (wn : Nat) : Prop := ∀ {rx : D → Prop} {DD : DEnds} {F : List D} {r : D} {k : Nat} {c : Int} {s6 : Option Sl} {s : List Int} (hk : k < B.length), c.natAbs < 10 ^ 12 → s6Ok s6 s → s.length = wn →
  (∀ s6', s6Ok s6' (zw (fun u v => u + c * v) s B[k]) → DD.nx (eP q A Bd w F r s6' (some (.sh (.int (k : Int)))) (some (.sh (.int c))))) → tb rx DD (eP q A Bd w F r s6 (some (.sh (.int (k : Int)))) (some (.sh (.int c))))
theorem does_L {q A Bd w : D} {B : Mx} {wn : Nat} {it : List Int → D} (hit : it = LI ∨ it = TI) (hB : Bd = .lst (B.map it) ∨ Bd = .tup (B.map it)) (hw : wn ≤ 60) (hb : SmM B) : DoesAdd bodyL q A Bd w B wn := fun hk hc h6 hl h =>
  st_add hit hB hk rfl h6 hc (hb _ (List.getElem_mem hk)) (by omega) (h _ (.inr rfl))
theorem does_P {q A Bd w : D} {B : Mx} {wn : Nat} {it : List Int → D} (hit : it = LI ∨ it = TI) (hB : Bd = .lst (B.map it) ∨ Bd = .tup (B.map it)) (hw : wn ≤ 60) (hb : SmM B) (hbw : ∀ b ∈ B, b.length = wn) : DoesAdd bodyP q A Bd w B wn := fun {rx DD F r k c s6 s} hk hc h6 hl h => by
  refine ⟨_, _, rfl, rfl, rfl, rfl, ?_⟩
  rw [eqv_int]
  by_cases c0 : c = 0
  · subst c0
    refine h s6 ?_
    rw [zw_zero (by rw [hl, hbw _ (List.getElem_mem hk)]; exact Nat.le_refl _)]
    exact h6
  · rw [decide_eq_false c0]
    exact st_add hit hB hk rfl h6 hc (hb _ (List.getElem_mem hk)) (by omega) (h _ (.inr rfl))
theorem pl_row {tb : TDS} {q A Bd w : D} {B : Mx} {wn : Nat} (ha : DoesAdd tb q A Bd w B wn) (hbw : ∀ b ∈ B, b.length = wn) {rx : D → Prop} {DD : DEnds} {F : List D} {rr : D} : ∀ (r : List Int) (k : Nat) (s : List Int) (s6 s7 s8 : Option Sl), k + r.length ≤ B.length → SmR r → s6Ok s6 s → s.length = wn →
    (∀ s6' s7 s8, s6Ok s6' (accR s r (B.drop k)) → DD.nx (eP q A Bd w F rr s6' s7 s8)) → dForL tg78 tb rx DD (zipFrom k r) (eP q A Bd w F rr s6 s7 s8)
  | [], k, s, s6, s7, s8, _, _, h6, _, h => h s6 s7 s8 h6
  | c :: r, k, s, s6, s7, s8, hk, hr, h6, hl, h => by
    rw [List.length_cons] at hk
    rw [zipFrom_cons]
    have e : B.drop k = B[k] :: B.drop (k + 1) := List.drop_eq_getElem_cons (by omega)
    rw [e] at h
    refine ⟨rfl, ?_⟩
    exact ha (k := k) (by omega) (hr c List.mem_cons_self) h6 hl fun s6' h6' => pl_row ha hbw r (k + 1) _ s6' _ _ (by omega) (fun x hx => hr x (List.mem_cons_of_mem _ hx)) h6' (by rw [len_zw, hl, hbw _ (List.getElem_mem _)]; exact Nat.min_self _) h
abbrev stApp : TDS := dExpr (dMut 4 "list" mAppend (dCons (dFrz (dComp (dSeqI (dVar 6)) (gN 8) dYes (d2 modG (dVar 8) (dVar 0)) [8])) dNil))
theorem st_app {p : Int} (hp : p ≠ 0) {rx : D → Prop} {DD : DEnds} {A B w r : D} {F : List D} {s6 s7 s8 : Option Sl} {s : List Int} (h6 : s6Ok s6 s) (hl : s.length < 10000) (hF : F.length < 1000) (h : ∀ s6' s8', DD.nx (eP (.int p) A B w (F ++ [LI (modR p s)]) r s6' s7 s8')) :
    stApp rx DD (eP (.int p) A B w F r s6 s7 s8) := by
  have e : (s.map fun x => D.int (x.fmod p)) = (modR p s).map D.int := by unfold modR; rw [List.map_map]; rfl
  have hsz : F.length < sizeLine := Nat.lt_of_lt_of_le hF (by decide)
  rcases h6 with rfl | rfl
  · refine ⟨rfl, ?_⟩
    refine q_compM (it := D.int) (f := fun x => D.int (x.fmod p)) (δ0 := eP (.int p) A B w F r (some (.sh (LI s))) s7 none) s (by omega) (fun x _ Q hq => ⟨hp, hq⟩) ?_
    rw [e]
    exact ⟨rfl, hsz, h _ _⟩
  · refine ⟨rfl, ?_⟩
    refine q_compM (it := D.int) (f := fun x => D.int (x.fmod p)) (δ0 := eP (.int p) A B w F r (some (.sh (LI s))) s7 none) s (by omega) (fun x _ Q hq => ⟨hp, hq⟩) ?_
    rw [e]
    exact ⟨rfl, hsz, h _ _⟩
abbrev rowSt (tb : TDS) : TDS := dSeq (dSet 6 (dFrz (f2 mulG (dLst (dCons (dC (.int 0)) dNil)) (dVar 3)))) (dSeq (dFor (dEnumB (dVar 5)) tg78 tb) stApp)
theorem pl_rows {tb : TDS} {p : Int} (hp : p ≠ 0) {A Bd : D} {B : Mx} {wn : Nat} (hw : wn ≤ 60) (ha : DoesAdd tb (.int p) A Bd (.int (wn : Int)) B wn) (hbw : ∀ b ∈ B, b.length = wn) {it : List Int → D} (hit : it = LI ∨ it = TI) {rx : D → Prop} {DD : DEnds} : ∀ (m : Mx) (F : Mx) (s5 s6 s7 s8 : Option Sl), F.length + m.length < 1000 → (∀ r ∈ m, r.length = B.length) → SmM m →
    (∀ s5 s6 s7 s8, DD.nx [some (.sh (.int p)), some (.sh A), some (.sh Bd), some (.sh (.int (wn : Int))), some (.ol ((F ++ modM p (prodM wn m B)).map LI)), s5, s6, s7, s8, none, none]) →
    dForL (gN 5) (rowSt tb) rx DD (m.map it) [some (.sh (.int p)), some (.sh A), some (.sh Bd), some (.sh (.int (wn : Int))), some (.ol (F.map LI)), s5, s6, s7, s8, none, none]
  | [], F, s5, s6, s7, s8, _, _, _, h => by
    show DD.nx _
    have := h s5 s6 s7 s8
    simpa [prodM, modM] using this
  | r :: m, F, s5, s6, s7, s8, hl, hr, hs, h => by
    rw [List.length_cons] at hl
    have lr := hr r List.mem_cons_self
    have row : ∀ D2 : DEnds, (∀ δ', stApp rx { nx := dForL (gN 5) (rowSt tb) rx DD (m.map it), ct := dForL (gN 5) (rowSt tb) rx DD (m.map it), bk := DD.nx, rt := DD.rt } δ' → D2.nx δ') → ∀ s6', s6Ok s6' (List.replicate wn 0) → ∀ s7 s8, dForL tg78 tb rx D2 (zipFrom 0 r) (eP (.int p) A Bd (.int (wn : Int)) (F.map LI) (it r) s6' s7 s8) := fun D2 hD s6' h6 s7 s8 => by
      refine pl_row ha hbw r 0 (List.replicate wn 0) s6' s7 s8 (by omega) (hs r List.mem_cons_self) h6 (by simp) fun s6' s7 s8 h6' => ?_
      refine hD _ (st_app hp h6' (by rw [len_accR r _ _ (by simp) fun b hb => hbw b (List.mem_of_mem_drop hb)]; omega) (by rw [List.length_map]; omega) fun s6'' s8' => ?_)
      rw [List.drop_zero] at *
      have ih := pl_rows (tb := tb) hp hw (@ha) hbw hit (rx := rx) (DD := DD) m (F ++ [modR p (accR (List.replicate wn 0) r B)]) (some (.sh (it r))) s6'' s7 s8' (by rw [List.length_append]; simp; omega) (fun x hx => hr x (List.mem_cons_of_mem _ hx)) (fun x hx => hs x (List.mem_cons_of_mem _ hx)) (by
        intro s5 s6 s7 s8
        have := h s5 s6 s7 s8
        rw [List.append_assoc]
        exact this)
      rw [List.map_append] at ih
      exact ih
    refine ⟨(by decide : 1 ≤ sizeLine), ⟨by omega, by omega, Nat.le_trans (show 1 * ((wn : Int).toNat) ≤ 60 by omega) (by decide)⟩, ?_⟩
    have z : s6Ok (some (.sh (.lst (List.replicate (wn : Int).toNat [D.int 0]).flatten))) (List.replicate wn 0) := .inl (by rw [Int.toNat_natCast, rep0])
    rcases hit with rfl | rfl
    · exact row _ (fun _ h => h) _ z _ _
    · exact row _ (fun _ h => h) _ z _ _
theorem m_product_lines {p : Int} (hp : p ≠ 0) {A B : Mx} {t m w : Nat} (sa : Sh t m A) (sb : Sh m w B) (ht : t ≤ 60) (hw : w ≤ 60) (ha : SmM A) (hb : SmM B) {P E : D → Prop} (h : P (LL (modM p (prodM w A B)))) : dBody N_product_lines.length t_product_lines [.int p, TT A, TT B, .int (w : Int)] P E := by
  have ta := sa.tall
  refine ⟨Nat.zero_le _, ?_⟩
  show dForL (gN 5) (rowSt bodyP) _ _ (A.map TI) [some (.sh (.int p)), some (.sh (TT A)), some (.sh (TT B)), some (.sh (.int (w : Int))), some (.ol (([] : Mx).map LI)), none, none, none, none, none, none]
  refine pl_rows hp hw (tb := bodyP) (does_P (.inr rfl) (.inr rfl) hw hb sb.wide) sb.wide (.inr rfl) A [] none none none none (by simp; omega) (fun r hr => by rw [sa.wide r hr, sb.tall]) ha fun s5 s6 s7 s8 => ?_
  exact h
theorem m_law_product {p : Int} (hp : p ≠ 0) {A B : Mx} {t m w : Nat} (sa : Sh t m A) (sb : Sh m w B) (ht : t ≤ 60) (hw : w ≤ 60) (ha : SmM A) (hb : SmM B) {P E : D → Prop} (h : P (LL (modM p (prodM w A B)))) : dBody N__law_product.length t__law_product [.int p, LL A, LL B, .int (w : Int)] P E := by
  have ta := sa.tall
  refine ⟨Nat.zero_le _, ?_⟩
  show dForL (gN 5) (rowSt bodyL) _ _ (A.map LI) [some (.sh (.int p)), some (.sh (LL A)), some (.sh (LL B)), some (.sh (.int (w : Int))), some (.ol (([] : Mx).map LI)), none, none, none, none, none, none]
  refine pl_rows hp hw (tb := bodyL) (does_L (.inl rfl) (.inl rfl) hw hb) sb.wide (.inl rfl) A [] none none none none (by simp; omega) (fun r hr => by rw [sa.wide r hr, sb.tall]) ha fun s5 s6 s7 s8 => ?_
  exact h
end K01

namespace K01
open PySem PySem.Spec L2 DL
open PyProof.Rows hiding St
/-! ### sums, multiples, turned tables -/
theorem zM_map (f : Int → Int → Int) (A B : Mx) : (A.zip B).map (fun q => LI (zw f q.1 q.2)) = (zM f A B).map LI := by unfold zM; rw [List.map_map]; rfl
theorem zw_map (f : Int → Int → Int) (a b : List Int) : (a.zip b).map (fun q => D.int (f q.1 q.2)) = (zw f a b).map D.int := by unfold zw; rw [List.map_map]; rfl
abbrev e5 (o1 o2 : D) (s3 s4 s5 s6 : Option Sl) : DL.Env := [some (.sh o1), some (.sh o2), none, s3, s4, s5, s6]
theorem q_adds {te : TDX} {f : Int → Int → Int} {o1 o2 : D} {A B : Mx} {t w : Nat} (sa : Sh t w A) (ht : t ≤ 60) (hw : w ≤ 60)
    (hte : ∀ (x y : Int) (s3 s4 : Option Sl) (Q : D → DL.Env → Prop), Q (.int (f x y)) (e5 o1 o2 s3 s4 (some (.sh (.int x))) (some (.sh (.int y)))) → te (fun _ => False) (e5 o1 o2 s3 s4 (some (.sh (.int x))) (some (.sh (.int y)))) Q)
    {P : List D → DL.Env → Prop} (h : P ((zM f A B).map LI) (e5 o1 o2 none none none none)) :
    dCompL (gT 2 (gsCons (gN 3) (gsCons (gN 4) gsNil))) dYes (dFrz (dComp (dZipB (dCons (dVar 3) (dCons (dVar 4) dNil))) (gT 2 (gsCons (gN 5) (gsCons (gN 6) gsNil))) dYes te [5, 6])) [3, 4] P (DL.zipD (A.map TI) (B.map TI)) [] (e5 o1 o2 none none none none) := by
  have ta := sa.tall
  rw [zipD_rows]
  refine q_compM (it := fun q : List Int × List Int => D.tup [TI q.1, TI q.2]) (f := fun q : List Int × List Int => LI (zw f q.1 q.2)) (A.zip B) (by rw [List.length_zip]; omega) (fun q hq Q hQ => ⟨rfl, ?_⟩) ?_
  · have la := sa.wide q.1 (List.of_mem_zip (a := q.1) (b := q.2) hq).1
    show dCompL _ _ _ _ _ (DL.zipD (q.1.map D.int) (q.2.map D.int)) [] (e5 o1 o2 (some (.sh (TI q.1))) (some (.sh (TI q.2))) none none)
    rw [zipD_ints]
    refine q_compM (it := fun q : Int × Int => D.tup [.int q.1, .int q.2]) (f := fun q : Int × Int => D.int (f q.1 q.2)) (δ0 := e5 o1 o2 (some (.sh (TI q.1))) (some (.sh (TI q.2))) none none) (q.1.zip q.2) (by rw [List.length_zip]; omega) (fun x hx Q hQ => ⟨rfl, hte x.1 x.2 _ _ _ hQ⟩) ?_
    rw [zw_map]
    exact hQ
  · rw [zM_map]
    exact h
theorem m_plus {p : Int} {t w : Nat} {A B : Mx} (hp : p ∈ PL) (ht : t ≤ 60) (hw : w ≤ 60) (sa : Sh t w A) (sb : Sh t w B) {P E : D → Prop} (h : P (tb p t w (modM p (zM (· + ·) A B)))) : dBody N_plus.length t_plus [tb p t w A, tb p t w B] P E := by
  refine ⟨rfl, m_same ⟨_, rfl, _, rfl, ?_⟩⟩
  refine q_adds (f := (· + ·)) (o1 := tb p t w A) (o2 := tb p t w B) sa ht hw (fun x y s3 s4 Q hQ => hQ) ?_
  exact ⟨_, rfl, _, rfl, _, rfl, rfl, mk_Table hp ht hw (.inl rfl) (.inl rfl) (sh_zM sa sb) h⟩
theorem m_minus {p : Int} {t w : Nat} {A B : Mx} (hp : p ∈ PL) (ht : t ≤ 60) (hw : w ≤ 60) (sa : Sh t w A) (sb : Sh t w B) {P E : D → Prop} (h : P (tb p t w (modM p (zM (· - ·) A B)))) : dBody N_minus.length t_minus [tb p t w A, tb p t w B] P E := by
  refine ⟨rfl, m_same ⟨_, rfl, _, rfl, ?_⟩⟩
  refine q_adds (f := (· - ·)) (o1 := tb p t w A) (o2 := tb p t w B) sa ht hw (fun x y s3 s4 Q hQ => hQ) ?_
  exact ⟨_, rfl, _, rfl, _, rfl, rfl, mk_Table hp ht hw (.inl rfl) (.inl rfl) (sh_zM sa sb) h⟩
theorem m_times {p : Int} {t m w : Nat} {A B : Mx} (hp : p ∈ PL) (ht : t ≤ 60) (hm : m ≤ 60) (hw : w ≤ 60) (sa : Sh t m A) (sb : Sh m w B) (ha : SmM A) (hb : SmM B) {P E : D → Prop} (h : P (tb p t w (modM p (prodM w A B)))) : dBody N_times.length t_times [tb p t m A, tb p m w B] P E := by
  obtain ⟨p2, p97⟩ := pl_pos hp
  refine ⟨rfl, m_need_two ⟨_, rfl, _, rfl, _, _, rfl, rfl, rfl, rfl, iteB (b := !PyData.eqv (.int (m : Int)) (.int (m : Int))) (by rw [eqv_int]; simp) ?_⟩⟩
  refine ⟨_, rfl, _, rfl, _, rfl, _, rfl, _, rfl, _, rfl, _, rfl, rfl, m_product_lines (pl_ne hp) sa sb ht hw ha hb ?_⟩
  refine ⟨rfl, mk_Table hp ht hw (.inl rfl) (.inl rfl) (sh_modM (sh_prodM sa sb)) ?_⟩
  rw [modM_modM (by omega)]
  exact h
theorem x_times_sz {p : Int} {t m w m' : Nat} {A B : Mx} (hm : m ≠ m') {P E : D → Prop} (h : E (.exc "BadTable" [])) : dBody N_times.length t_times [tb p t m A, tb p m' w B] P E := by
  refine ⟨rfl, m_need_two ⟨_, rfl, _, rfl, _, _, rfl, rfl, rfl, rfl, iteBt (b := !PyData.eqv (.int (m : Int)) (.int (m' : Int))) (by rw [eqv_int, decide_eq_false (by omega)]; rfl) ?_⟩⟩
  exact h
/-! scaled -/
def mapM' (g : Int → Int) (A : Mx) : Mx := A.map fun r => r.map g
theorem sh_map {g : Int → Int} {t w : Nat} {A : Mx} (sa : Sh t w A) : Sh t w (mapM' g A) := ⟨by unfold mapM'; rw [List.length_map]; exact sa.tall, fun r hr => by
  obtain ⟨q, hq, rfl⟩ := List.mem_map.mp hr
  rw [List.length_map]; exact sa.wide q hq⟩
theorem cr_map {p : Int} {g : Int → Int} (hg : ∀ x y, Cg p x y → Cg p (g x) (g y)) : ∀ {a b : List Int}, CR p a b → CR p (a.map g) (b.map g)
  | [], [], _ => rfl
  | [], _ :: _, h => by cases h
  | _ :: _, [], h => by cases h
  | x :: a, y :: b, h => by
    unfold CR at h
    rw [modR_cons, modR_cons, List.cons.injEq] at h
    unfold CR
    rw [List.map_cons, List.map_cons, modR_cons, modR_cons, hg x y h.1, show modR p (a.map g) = modR p (b.map g) from cr_map hg h.2]
theorem cm_mapM {p : Int} {g : Int → Int} (hg : ∀ x y, Cg p x y → Cg p (g x) (g y)) {A B : Mx} (h : CM p A B) : CM p (mapM' g A) (mapM' g B) := cm_map (fun a b h => cr_map hg h) h
theorem mapM_map (g : Int → Int) (A : Mx) : A.map (fun r => D.lst (r.map fun x => D.int (g x))) = (mapM' g A).map LI := by
  unfold mapM'
  rw [List.map_map]
  refine List.map_congr_left fun r _ => ?_
  show D.lst _ = D.lst _
  rw [List.map_map]; rfl
theorem m_scaled {p n : Int} {t w : Nat} {A : Mx} (hp : p ∈ PL) (ht : t ≤ 60) (hw : w ≤ 60) (sa : Sh t w A) (ha : SmM A) (hn : n.natAbs < 2 ^ 100) {P E : D → Prop} (h : P (tb p t w (modM p (mapM' (· * n) A)))) : dBody N_scaled.length t_scaled [tb p t w A, .int n] P E := by
  have ta := sa.tall
  refine ⟨rfl, m_need_table ⟨rfl, m_number (iteF ⟨_, rfl, _, rfl, _, rfl, _, rfl, ?_⟩)⟩⟩
  refine q_compM (it := TI) (f := fun r => D.lst (r.map fun x => D.int (x * n))) (δ0 := [some (.sh (tb p t w A)), some (.sh (.int n)), none, none]) A (by omega) (fun r hr Q hQ => ?_) ?_
  · have lr := sa.wide r hr
    refine q_compM (it := D.int) (f := fun x => D.int (x * n)) (δ0 := [some (.sh (tb p t w A)), some (.sh (.int n)), some (.sh (TI r)), none]) r (by omega) (fun x hx Q hQ => ⟨mul_small (a := 40) (b := 100) (Nat.lt_trans (ha r hr x hx) (by decide)) hn (by decide), hQ⟩) hQ
  · rw [mapM_map (· * n)]
    exact ⟨rfl, mk_Table hp ht hw (.inl rfl) (.inl rfl) (sh_map sa) h⟩
end K01

namespace K01
open PySem PySem.Spec L2 DL
open PyProof.Rows hiding St
theorem rangeN (n : Nat) : rangeD 0 (n : Int) = (List.range n).map fun (i : Nat) => D.int (i : Int) := by
  unfold rangeD
  rw [Int.sub_zero, Int.toNat_natCast]
  refine List.map_congr_left fun k _ => ?_
  rw [Int.zero_add]
def cel (r : List Int) (k : Nat) : Int := (r[k]?).getD 0
theorem atI_cel {r : List Int} {k : Nat} (h : k < r.length) : atI (r.map D.int) (k : Int) = some (.int (cel r k)) := by
  rw [atI_nat (by simpa using h), List.getElem_map]
  unfold cel
  rw [List.getElem?_eq_getElem h]; rfl
def turnM (A : Mx) (w : Nat) : Mx := (List.range w).map fun k => A.map fun r => cel r k
theorem sh_turn {t w : Nat} {A : Mx} (sa : Sh t w A) (w' : Nat) : Sh w' t (turnM A w') := ⟨by unfold turnM; simp, fun r hr => by
  obtain ⟨k, _, rfl⟩ := List.mem_map.mp hr
  rw [List.length_map]; exact sa.tall⟩
theorem cr_cel {p : Int} : ∀ {a b : List Int}, CR p a b → ∀ k, Cg p (cel a k) (cel b k)
  | [], [], _, _ => rfl
  | [], _ :: _, h, _ => by cases h
  | _ :: _, [], h, _ => by cases h
  | x :: a, y :: b, h, k => by
    unfold CR at h
    rw [modR_cons, modR_cons, List.cons.injEq] at h
    cases k with
    | zero => exact h.1
    | succ k => exact cr_cel h.2 k
theorem cr_col {p : Int} (k : Nat) {A B : Mx} (h : CM p A B) : CR p (A.map fun r => cel r k) (B.map fun r => cel r k) := by
  induction h with
  | nil => rfl
  | cons h _ ih =>
    unfold CR
    rw [List.map_cons, List.map_cons, modR_cons, modR_cons, cr_cel h k, ih]
theorem cm_of {p : Int} {α : Type} {f g : α → List Int} (h : ∀ k, CR p (f k) (g k)) : ∀ l : List α, CM p (l.map f) (l.map g)
  | [] => .nil
  | a :: l => .cons (h a) (cm_of h l)
theorem cm_turn {p : Int} {A B : Mx} (h : CM p A B) (w : Nat) : CM p (turnM A w) (turnM B w) := cm_of (fun k => cr_col k h) _
theorem turn_map (A : Mx) (w : Nat) : (List.range w).map (fun k => D.lst (A.map fun r => D.int (cel r k))) = (turnM A w).map LI := by
  unfold turnM
  rw [List.map_map]
  refine List.map_congr_left fun k _ => ?_
  show D.lst _ = D.lst _
  rw [List.map_map]; rfl
theorem m_across {p : Int} {t w : Nat} {A : Mx} (hp : p ∈ PL) (ht : t ≤ 60) (hw : w ≤ 60) (sa : Sh t w A) {P E : D → Prop} (h : P (tb p w t (modM p (turnM A w)))) : dBody N_across.length t_across [tb p t w A] P E := by
  have ta := sa.tall
  refine ⟨rfl, m_need_table ⟨_, rfl, ⟨by omega, by omega⟩, ?_⟩⟩
  rw [rangeN]
  refine q_compM (it := fun (i : Nat) => D.int (i : Int)) (f := fun k => D.lst (A.map fun r => D.int (cel r k))) (δ0 := [some (.sh (tb p t w A)), none, none, none]) (List.range w) (by rw [List.length_range]; omega) (fun k hk Q hQ => ⟨_, rfl, ?_⟩) ?_
  · have kw := List.mem_range.mp hk
    exact q_compM (it := TI) (f := fun r => D.int (cel r k)) (δ0 := [some (.sh (tb p t w A)), none, some (.sh (.int (k : Int))), none]) A (by omega) (fun r hr Q hQ => ⟨_, atI_cel (by rw [sa.wide r hr]; exact kw), hQ⟩) hQ
  · rw [turn_map]
    exact ⟨_, rfl, _, rfl, _, rfl, rfl, mk_Table hp hw ht (.inl rfl) (.inl rfl) (sh_turn sa w) h⟩
theorem m_turned {t w : Nat} {A : Mx} (ht : t ≤ 60) (hw : w ≤ 60) (sa : Sh t w A) {P E : D → Prop} (h : P (LL (turnM A w))) : dBody N__law_turned.length t__law_turned [LL A, .int (w : Int)] P E := by
  have ta := sa.tall
  refine ⟨⟨by omega, by omega⟩, ?_⟩
  rw [rangeN]
  refine q_compM (it := fun (i : Nat) => D.int (i : Int)) (f := fun k => D.lst (A.map fun r => D.int (cel r k))) (δ0 := [some (.sh (LL A)), some (.sh (.int (w : Int))), none, none]) (List.range w) (by rw [List.length_range]; omega) (fun k hk Q hQ => ?_) ?_
  · have kw := List.mem_range.mp hk
    exact q_compM (it := LI) (f := fun r => D.int (cel r k)) (δ0 := [some (.sh (LL A)), some (.sh (.int (w : Int))), some (.sh (.int (k : Int))), none]) A (by omega) (fun r hr Q hQ => ⟨_, atI_cel (by rw [sa.wide r hr]; exact kw), hQ⟩) hQ
  · rw [turn_map]
    exact h
theorem m_rests {p : Int} {t w : Nat} {A : Mx} (hp : p ∈ PL) (ht : t ≤ 60) (hw : w ≤ 60) (sa : Sh t w A) {P E : D → Prop} (h : P (LL (modM p A))) : dBody N__law_rests.length t__law_rests [.int p, LL A] P E := by
  have ta := sa.tall
  refine q_compM (it := LI) (f := fun r => D.lst (r.map fun x => D.int (x.fmod p))) (δ0 := [some (.sh (.int p)), some (.sh (LL A)), none, none]) A (by omega) (fun r hr Q hQ => ?_) ?_
  · have lr := sa.wide r hr
    exact q_compM (it := D.int) (f := fun x => D.int (x.fmod p)) (δ0 := [some (.sh (.int p)), some (.sh (LL A)), some (.sh (LI r)), none]) r (by omega) (fun x hx Q hQ => ⟨pl_ne hp, hQ⟩) hQ
  · rw [mapM_map (fun x => x.fmod p)]
    exact h
/-! units and noughts -/
def unitM (n : Nat) : Mx := (List.range n).map fun (k : Nat) => (List.range n).map fun (s : Nat) => if decide ((k : Int) = (s : Int)) = true then (1 : Int) else 0
theorem sh_unit (n : Nat) : Sh n n (unitM n) := ⟨by unfold unitM; simp, fun r hr => by
  obtain ⟨k, _, rfl⟩ := List.mem_map.mp hr
  simp⟩
theorem unit_map (n : Nat) : (List.range n).map (fun (k : Nat) => D.lst ((List.range n).map fun (s : Nat) => D.int (if decide ((k : Int) = (s : Int)) = true then (1 : Int) else 0))) = (unitM n).map LI := by
  unfold unitM
  rw [List.map_map]
  refine List.map_congr_left fun k _ => ?_
  show D.lst _ = D.lst _
  rw [List.map_map]; rfl
theorem m_plain {p : Int} {n : Nat} (hp : p ∈ PL) (hn : n ≤ 60) {P E : D → Prop} (h : P (tb p n n (modM p (unitM n)))) : dBody N_plain.length t_plain [.int p, .int (n : Int)] P E := by
  refine ⟨rfl, m_need_prime hp ⟨rfl, m_betweenT (by omega) (by omega) (iteF ⟨⟨by omega, by omega⟩, ?_⟩)⟩⟩
  rw [rangeN]
  refine q_compM (it := fun (i : Nat) => D.int (i : Int)) (f := fun (k : Nat) => D.lst ((List.range n).map fun (s : Nat) => D.int (if decide ((k : Int) = (s : Int)) = true then (1 : Int) else 0))) (δ0 := [some (.sh (.int p)), some (.sh (.int (n : Int))), none, none]) (List.range n) (by rw [List.length_range]; omega) (fun k hk Q hQ => ⟨⟨by omega, by omega⟩, ?_⟩) ?_
  · rw [rangeN]
    refine q_compM (it := fun (i : Nat) => D.int (i : Int)) (f := fun (s : Nat) => D.int (if decide ((k : Int) = (s : Int)) = true then (1 : Int) else 0)) (δ0 := [some (.sh (.int p)), some (.sh (.int (n : Int))), some (.sh (.int (k : Int))), none]) (List.range n) (by rw [List.length_range]; omega) (fun s hs Q hQ => ⟨_, _, rfl, rfl, rfl, rfl, ?_⟩) hQ
    rw [eqv_int]
    exact hQ
  · rw [unit_map]
    exact ⟨rfl, mk_Table hp hn hn (.inl rfl) (.inl rfl) (sh_unit n) h⟩
theorem m_unit {n : Nat} (hn : n ≤ 60) {P E : D → Prop} (h : P (LL (unitM n))) : dBody N__law_unit.length t__law_unit [.int (n : Int)] P E := by
  refine ⟨⟨by omega, by omega⟩, ?_⟩
  rw [rangeN]
  refine q_compM (it := fun (i : Nat) => D.int (i : Int)) (f := fun (k : Nat) => D.lst ((List.range n).map fun (s : Nat) => D.int (if decide ((k : Int) = (s : Int)) = true then (1 : Int) else 0))) (δ0 := [some (.sh (.int (n : Int))), none, none]) (List.range n) (by rw [List.length_range]; omega) (fun k hk Q hQ => ⟨⟨by omega, by omega⟩, ?_⟩) ?_
  · rw [rangeN]
    refine q_compM (it := fun (i : Nat) => D.int (i : Int)) (f := fun (s : Nat) => D.int (if decide ((k : Int) = (s : Int)) = true then (1 : Int) else 0)) (δ0 := [some (.sh (.int (n : Int))), some (.sh (.int (k : Int))), none]) (List.range n) (by rw [List.length_range]; omega) (fun s hs Q hQ => ⟨_, _, rfl, rfl, rfl, rfl, ?_⟩) hQ
    rw [eqv_int]
    exact hQ
  · rw [unit_map]
    exact h
def zeroM (t w : Nat) : Mx := List.replicate t (List.replicate w 0)
theorem sh_zero (t w : Nat) : Sh t w (zeroM t w) := ⟨by unfold zeroM; simp, fun r hr => by
  rw [(List.mem_replicate.mp hr).2]; simp⟩
theorem zero_map (t w : Nat) : (List.range t).map (fun _ => LI (List.replicate w 0)) = (zeroM t w).map LI := by
  unfold zeroM
  rw [List.map_replicate]
  refine List.ext_getElem (by simp) fun i h1 h2 => ?_
  simp
theorem zero_flat (t w : Nat) : (List.replicate t [LI (List.replicate w 0)]).flatten = (zeroM t w).map LI := by
  unfold zeroM
  rw [List.map_replicate]
  induction t with
  | zero => rfl
  | succ n ih => rw [List.replicate_succ, List.replicate_succ, List.flatten_cons, ih]; rfl
theorem m_empty {p : Int} {t w : Nat} (hp : p ∈ PL) (ht : t ≤ 60) (hw : w ≤ 60) {P E : D → Prop} (h : P (tb p t w (modM p (zeroM t w)))) : dBody N_empty.length t_empty [.int p, .int (t : Int), .int (w : Int)] P E := by
  refine ⟨rfl, m_need_prime hp ⟨rfl, m_betweenT (by omega) (by omega) (iteF ⟨rfl, m_betweenT (by omega) (by omega) (iteF ⟨⟨by omega, by omega⟩, ?_⟩)⟩)⟩⟩
  rw [rangeN]
  refine q_compM (it := fun (i : Nat) => D.int (i : Int)) (f := fun _ => LI (List.replicate w 0)) (δ0 := [some (.sh (.int p)), some (.sh (.int (t : Int))), some (.sh (.int (w : Int))), none]) (List.range t) (by rw [List.length_range]; omega) (fun k hk Q hQ => ⟨(by decide : 1 ≤ sizeLine), ⟨by omega, by omega, Nat.le_trans (show 1 * ((w : Int).toNat) ≤ 60 by omega) (by decide)⟩, ?_⟩) ?_
  · show Q (some (.lst (List.replicate (w : Int).toNat [D.int 0]).flatten)) _
    rw [Int.toNat_natCast, rep0]
    exact hQ
  · rw [zero_map]
    exact ⟨rfl, mk_Table hp ht hw (.inl rfl) (.inl rfl) (sh_zero t w) h⟩
end K01

namespace K01
open PySem PySem.Spec L2 DL
open PyProof.Rows hiding St
/-! ### what is drawn -/
theorem q_compR {α : Type} {it : α → D} {tg : TDG} {tt : TDB} {te : TDX} {vs : List Nat} {P : List D → DL.Env → Prop} {R : D → Prop} {δ0 : DL.Env} : ∀ (l : List α) (acc : List D), acc.length + l.length < 16777216 →
    (∀ a ∈ l, ∀ Q : Option D → DL.Env → Prop, (∀ d, R d → Q (some d) δ0) → stepQ tg tt te vs (it a) δ0 Q) → (∀ ds : List D, ds.length = l.length → (∀ d ∈ ds, R d) → P (acc ++ ds) δ0) → dCompL tg tt te vs P (l.map it) acc δ0
  | [], acc, _, _, h => by
    show P acc δ0
    simpa using h [] rfl nofun
  | a :: l, acc, hl, hs, h => by
    rw [List.length_cons] at hl
    refine hs a List.mem_cons_self (fun o δ => match o with
      | some y => acc.length < sizeLine ∧ dCompL tg tt te vs P (l.map it) (acc ++ [y]) δ
      | none => dCompL tg tt te vs P (l.map it) acc δ) fun d hd => ?_
    refine ⟨Nat.lt_of_lt_of_le (show acc.length < 16777216 by omega) (by decide), q_compR l (acc ++ [d]) (by rw [List.length_append]; simp; omega) (fun b hb => hs b (List.mem_cons_of_mem _ hb)) fun ds hl hr => ?_⟩
    rw [List.append_assoc]
    exact h (d :: ds) (by simp [hl]) fun e he => by
      rcases List.mem_cons.mp he with rfl | he
      · exact hd
      · exact hr e he
theorem ints_of {b : Int → Prop} : ∀ ds : List D, (∀ d ∈ ds, ∃ x, d = .int x ∧ b x) → ∃ xs : List Int, ds = xs.map D.int ∧ ∀ x ∈ xs, b x
  | [], _ => ⟨[], rfl, nofun⟩
  | d :: ds, h => by
    obtain ⟨x, rfl, hx⟩ := h d List.mem_cons_self
    obtain ⟨xs, rfl, hxs⟩ := ints_of ds fun e he => h e (List.mem_cons_of_mem _ he)
    exact ⟨x :: xs, rfl, fun y hy => by
      rcases List.mem_cons.mp hy with rfl | hy
      · exact hx
      · exact hxs y hy⟩
theorem rows_of {b : List Int → Prop} : ∀ ds : List D, (∀ d ∈ ds, ∃ r, d = LI r ∧ b r) → ∃ m : Mx, ds = m.map LI ∧ ∀ r ∈ m, b r
  | [], _ => ⟨[], rfl, nofun⟩
  | d :: ds, h => by
    obtain ⟨x, rfl, hx⟩ := h d List.mem_cons_self
    obtain ⟨xs, rfl, hxs⟩ := rows_of ds fun e he => h e (List.mem_cons_of_mem _ he)
    exact ⟨x :: xs, rfl, fun y hy => by
      rcases List.mem_cons.mp hy with rfl | hy
      · exact hx
      · exact hxs y hy⟩
abbrev sizes : List Int := [0, 1, 1, 2, 2, 3, 4, 5]
theorem m_size {P E : D → Prop} (h : ∀ n : Nat, n ≤ 5 → P (.int (n : Int))) : dBody N__law_size.length t__law_size [.drw] P E := by
  refine ⟨(by decide : 8 ≤ sizeLine), rfl, p_pick (l := sizes.map D.int) (.inl rfl) (by decide) (by decide) fun x hx => ?_⟩
  obtain ⟨q, hq, rfl⟩ := List.mem_map.mp hx
  have b : 0 ≤ q ∧ q ≤ 5 := by
    simp only [List.mem_cons, List.not_mem_nil, or_false] at hq
    omega
  obtain ⟨n, rfl⟩ := Int.eq_ofNat_of_zero_le b.1
  exact h n (by omega)
def RowD (p : Int) (w : Nat) (r : List Int) : Prop := r.length = w ∧ ∀ x ∈ r, 0 ≤ x ∧ x < p
abbrev eL (p : Int) (t w : Nat) (F : List D) (s5 s6 : Option Sl) : DL.Env := [some (.sh .drw), some (.sh (.int p)), some (.sh (.int (t : Int))), some (.sh (.int (w : Int))), some (.ol F), s5, s6]
theorem m_lists {p : Int} {t w : Nat} (hp : p ∈ PL) (ht : t ≤ 60) (hw : w ≤ 60) {P E : D → Prop} (h : ∀ S : Mx, S.length = t → (∀ r ∈ S, RowD p w r) → P (LL S)) : dBody N__law_lists.length t__law_lists [.drw, .int p, .int (t : Int), .int (w : Int)] P E := by
  obtain ⟨p2, p97⟩ := pl_pos hp
  refine ⟨Nat.zero_le _, ⟨by omega, by omega⟩, ?_⟩
  rw [rangeN]
  have go : ∀ (l : List Nat) (F : Mx) (s5 : Option Sl), F.length + l.length ≤ t → F.length + l.length = t → (∀ r ∈ F, RowD p w r) →
      dForL (gN 5) (dExpr (dMut 4 "list" mAppend (dCons (dFrz (dComp (dRange1 (dCons (dVar 3) dNil)) (gN 6) dYes (dIf (dTest (d2 eqD (dCall (dBody N__law_take.length t__law_take) 2 (dCons (dVar 0) (dCons (dC (.int 3)) dNil))) (dC (.int 0)))) (dC (.int 0)) (dCall (dBody N__law_take.length t__law_take) 2 (dCons (dVar 0) (dCons (dVar 1) dNil)))) [6])) dNil))) E
        { nx := fun δ' => dRet (dVar 4) E { nx := fun _ => P .non, rt := P } δ', rt := P } (l.map fun (i : Nat) => D.int (i : Int)) (eL p t w (F.map LI) s5 none) := by
    intro l
    induction l with
    | nil =>
      intro F s5 _ hl hF
      exact h F (by simpa using hl) hF
    | cons i l ih =>
      intro F s5 h1 hl hF
      rw [List.length_cons] at h1 hl
      refine ⟨rfl, ⟨by omega, by omega⟩, ?_⟩
      rw [rangeN]
      refine q_compR (R := fun d => ∃ x, d = .int x ∧ (0 ≤ x ∧ x < p)) (δ0 := eL p t w (F.map LI) (some (.sh (.int (i : Int)))) none) (List.range w) [] (by rw [List.length_range]; simp; omega) (fun k hk Q hQ => ⟨rfl, p_take (by decide) (by decide) fun y y0 y1 => ⟨_, _, rfl, rfl, rfl, rfl, ?_⟩⟩) fun ds hd hr => ?_
      · rw [eqv_int]
        by_cases c : y = 0
        · rw [decide_eq_true c]
          exact hQ _ ⟨0, rfl, by omega, by omega⟩
        · rw [decide_eq_false c]
          exact ⟨rfl, p_take (by omega) (by omega) fun z z0 z1 => hQ _ ⟨z, rfl, z0, z1⟩⟩
      · obtain ⟨xs, rfl, hx⟩ := ints_of ds hr
        rw [List.length_map, List.length_range] at hd
        refine ⟨rfl, Nat.lt_of_le_of_lt (show _ ≤ 60 by rw [List.length_map]; omega) (by decide), ?_⟩
        have z := ih (F ++ [xs]) (some (.sh (.int (i : Int)))) (by rw [List.length_append]; simp; omega) (by rw [List.length_append]; simp; omega) (fun r hr => by
          rcases List.mem_append.mp hr with a | a
          · exact hF r a
          · rw [List.mem_singleton.mp a]; exact ⟨hd, hx⟩)
        rw [List.map_append] at z
        exact z
  exact go (List.range t) [] none (by simp) (by simp) nofun
theorem wild_b {p x k : Int} (hp : p ≤ 97) (hp0 : 0 < p) (h0 : 0 ≤ x) (h1 : x < p) (k0 : 0 ≤ k) (k1 : k < 5) : (x + p * (k - 2)).natAbs < 10 ^ 12 := by
  have hk : k = 0 ∨ k = 1 ∨ k = 2 ∨ k = 3 ∨ k = 4 := by omega
  rcases hk with rfl | rfl | rfl | rfl | rfl <;> omega
theorem m_wild {p : Int} {t w : Nat} (hp : p ∈ PL) (ht : t ≤ 60) (hw : w ≤ 60) {P E : D → Prop} (h : ∀ S : Mx, Sh t w S → SmM S → P (LL S)) : dBody N__law_wild.length t__law_wild [.drw, .int p, .int (t : Int), .int (w : Int)] P E := by
  obtain ⟨p2, p97⟩ := pl_pos hp
  refine ⟨rfl, m_lists hp ht hw fun S hS hR => ?_⟩
  refine q_compR (it := LI) (R := fun d => ∃ r, d = LI r ∧ (r.length = w ∧ SmR r)) (δ0 := [some (.sh .drw), some (.sh (.int p)), some (.sh (.int (t : Int))), some (.sh (.int (w : Int))), some (.sh (LL S)), none, none]) S [] (by simp; omega) (fun r hr Q hQ => ?_) fun ds hd hr => ?_
  · obtain ⟨lr, br⟩ := hR r hr
    refine q_compR (it := D.int) (R := fun d => ∃ x, d = .int x ∧ x.natAbs < 10 ^ 12) (δ0 := [some (.sh .drw), some (.sh (.int p)), some (.sh (.int (t : Int))), some (.sh (.int (w : Int))), some (.sh (LL S)), some (.sh (LI r)), none]) r [] (by simp; omega) (fun x hx Q hQ => ⟨rfl, p_take (by decide) (by decide) fun k k0 k1 => ⟨mul_small (a := 7) (b := 7) (by omega) (by omega) (by decide), hQ _ ⟨_, rfl, wild_b p97 (by omega) (br x hx).1 (br x hx).2 k0 k1⟩⟩⟩) fun es he hre => ?_
    obtain ⟨xs, rfl, hx⟩ := ints_of es hre
    rw [List.length_map] at he
    exact hQ _ ⟨xs, rfl, by omega, hx⟩
  · obtain ⟨m, rfl, hm⟩ := rows_of ds hr
    rw [List.length_map] at hd
    exact h m ⟨by omega, fun r hr => (hm r hr).1⟩ fun r hr => (hm r hr).2
end K01

namespace K01
open PySem PySem.Spec L2 DL
open PyProof.Rows hiding St
/-! ### lists of tables -/
structure T3 where
  t : Nat
  w : Nat
  m : Mx
abbrev it3 (p : Int) (x : T3) : D := tb p x.t x.w x.m
structure Ok3 (x : T3) : Prop where
  sh : Sh x.t x.w x.m
  ht : x.t ≤ 60
  hw : x.w ≤ 60
theorem at0 {p : Int} {x : T3} {Ts : List T3} {l : List D} : atI ((x :: Ts).map (it3 p) ++ l) 0 = some (it3 p x) := by
  have h := atI_nat (l := (x :: Ts).map (it3 p) ++ l) (i := 0) (by simp)
  simpa using h
abbrev ntB : TDS := (dExpr (dCall (dBody N_need_two.length t_need_two) 2 (dCons (d2 ixD (dVar 0) (dC (.int 0))) (dCons (dVar 1) dNil))))
theorem need_loop {rx : D → Prop} {DD : DEnds} {p : Int} {d : D} {x : T3} {Ts0 : List T3} {l0 : List D} (hd : d = .lst ((x :: Ts0).map (it3 p) ++ l0) ∨ d = .tup ((x :: Ts0).map (it3 p) ++ l0)) {l : List D} (hlast : ∀ s, dForL (gN 1) ntB rx DD l [some (.sh d), s]) : ∀ (Ts : List T3) (s : Option Sl),
    dForL (gN 1) ntB rx DD (Ts.map (it3 p) ++ l) [some (.sh d), s]
  | [], s => hlast s
  | y :: Ts, s => by
    have ih := need_loop hd hlast Ts (some (.sh (it3 p y)))
    rcases hd with rfl | rfl
    · exact ⟨_, at0, rfl, m_need_two ih⟩
    · exact ⟨_, at0, rfl, m_need_two ih⟩
theorem m_need_tables {p : Int} {d : D} {x : T3} {Ts : List T3} (hd : d = .lst ((x :: Ts).map (it3 p)) ∨ d = .tup ((x :: Ts).map (it3 p))) {P E : D → Prop} (h : P .non) : dBody N_need_tables.length t_need_tables [d] P E := by
  have e : (x :: Ts).map (it3 p) = (x :: Ts).map (it3 p) ++ [] := (List.append_nil _).symm
  rcases hd with rfl | rfl
  · refine ⟨rfl, m_list (.inl rfl) (iteF ⟨_, _, rfl, rfl, rfl, rfl, iteB (b := PyData.eqv (.int (((x :: Ts).map (it3 p)).length : Int)) (.int 0)) (by rw [eqv_int]; exact decide_eq_false (by rw [List.length_map, List.length_cons]; omega)) ?_⟩)⟩
    show dForL (gN 1) ntB E { nx := fun _ => P .non, rt := P } ((x :: Ts).map (it3 p)) [some (.sh (.lst ((x :: Ts).map (it3 p)))), none]
    have := need_loop (rx := E) (DD := { nx := fun _ => P .non, rt := P }) (p := p) (d := .lst ((x :: Ts).map (it3 p))) (x := x) (Ts0 := Ts) (l0 := []) (.inl (by rw [List.append_nil])) (l := []) (fun s => h) (x :: Ts) none
    rw [List.append_nil] at this
    exact this
  · refine ⟨rfl, m_list (.inr rfl) (iteF ⟨_, _, rfl, rfl, rfl, rfl, iteB (b := PyData.eqv (.int (((x :: Ts).map (it3 p)).length : Int)) (.int 0)) (by rw [eqv_int]; exact decide_eq_false (by rw [List.length_map, List.length_cons]; omega)) ?_⟩)⟩
    show dForL (gN 1) ntB E { nx := fun _ => P .non, rt := P } ((x :: Ts).map (it3 p)) [some (.sh (.tup ((x :: Ts).map (it3 p)))), none]
    have := need_loop (rx := E) (DD := { nx := fun _ => P .non, rt := P }) (p := p) (d := .tup ((x :: Ts).map (it3 p))) (x := x) (Ts0 := Ts) (l0 := []) (.inr (by rw [List.append_nil])) (l := []) (fun s => h) (x :: Ts) none
    rw [List.append_nil] at this
    exact this
/-- what need_tables refuses -/
def BadL (p : Int) (x : T3) (Ts : List T3) (d : D) : Prop := d = .lst [] ∨ d = .non ∨ ∃ y, d = .lst ((x :: Ts).map (it3 p) ++ [y]) ∧ ∀ {P E : D → Prop}, E (.exc "BadTable" []) → dBody N_need_two.length t_need_two [it3 p x, y] P E
theorem x_tables {p : Int} {x : T3} {Ts : List T3} {d : D} (hd : BadL p x Ts d) {P E : D → Prop} (h : E (.exc "BadTable" [])) : dBody N_need_tables.length t_need_tables [d] P E := by
  rcases hd with rfl | rfl | ⟨y, rfl, hy⟩
  · refine ⟨rfl, m_list (l := []) (.inl rfl) (iteF ⟨_, _, rfl, rfl, rfl, rfl, iteBt (b := PyData.eqv (.int (([] : List D).length : Int)) (.int 0)) (by rw [eqv_int]; rfl) h⟩)⟩
  · exact ⟨rfl, by decide, _, _, _, rfl, rfl, rfl, h⟩
  · refine ⟨rfl, m_list (.inl rfl) (iteF ⟨_, _, rfl, rfl, rfl, rfl, iteB (b := PyData.eqv (.int (((x :: Ts).map (it3 p) ++ [y]).length : Int)) (.int 0)) (by rw [eqv_int]; exact decide_eq_false (by simp; omega)) ?_⟩)⟩
    show dForL (gN 1) ntB E { nx := fun _ => P .non, rt := P } ((x :: Ts).map (it3 p) ++ [y]) [some (.sh (.lst ((x :: Ts).map (it3 p) ++ [y]))), none]
    exact need_loop (rx := E) (DD := { nx := fun _ => P .non, rt := P }) (p := p) (d := .lst ((x :: Ts).map (it3 p) ++ [y])) (x := x) (Ts0 := Ts) (l0 := [y]) (l := [y]) (.inl rfl) (fun s => ⟨_, at0 (l := [y]), rfl, hy h⟩) (x :: Ts) none
/-! two clauses -/
theorem q_comp2 {α : Type} {it : α → D} {tg1 tg2 : TDG} {te1 te : TDX} {v1 v2 : List Nat} {P : List D → DL.Env → Prop} {g : α → List D} {δ0 : DL.Env} {N : Nat} : ∀ (l : List α) (acc : List D), acc.length + ((l.map g).flatten).length ≤ N →
    (∀ a ∈ l, ∀ (acc : List D) (P' : List D → DL.Env → Prop), acc.length + (g a).length ≤ N → P' (acc ++ g a) δ0 → tg1 (it a) δ0 fun δ1 => te1 (fun _ => False) δ1 fun e δ2 => match seqOf e with
      | some es => dCompL tg2 dYes te v2 (fun acc' δ3 => P' acc' (wipeD δ3 (v1 ++ v2))) es acc (wipeD δ2 v2)
      | none => False) → P (acc ++ (l.map g).flatten) δ0 → dComp2L tg1 te1 tg2 te v1 v2 P (l.map it) acc δ0
  | [], acc, _, _, h => by
    show P acc δ0
    simpa using h
  | a :: l, acc, hz, hs, h => by
    rw [List.map_cons, List.flatten_cons, List.length_append] at hz
    refine hs a List.mem_cons_self acc (fun acc' δ => dComp2L tg1 te1 tg2 te v1 v2 P (l.map it) acc' δ) (by omega) ?_
    refine q_comp2 l (acc ++ g a) (by rw [List.length_append]; omega) (fun b hb => hs b (List.mem_cons_of_mem _ hb)) ?_
    rw [List.append_assoc]
    exact h
end K01

namespace K01
open PySem PySem.Spec L2 DL
open PyProof.Rows hiding St
/-! ### beside: mathematics -/
def rwo (m : Mx) (k : Nat) : List Int := (m[k]?).getD []
def wN (L : List T3) : Nat := (L.map (·.w)).sum
def tN (L : List T3) : Nat := (L.map (·.t)).sum
theorem wN_cons (x : T3) (L : List T3) : wN (x :: L) = x.w + wN L := by unfold wN; simp
theorem tN_cons (x : T3) (L : List T3) : tN (x :: L) = x.t + tN L := by unfold tN; simp
theorem wN_int : ∀ L : List T3, (L.map fun y => (y.w : Int)).sum = (wN L : Int)
  | [] => rfl
  | x :: L => by rw [wN_cons, List.map_cons, List.sum_cons, wN_int L]; omega
theorem tN_int : ∀ L : List T3, (L.map fun y => (y.t : Int)).sum = (tN L : Int)
  | [] => rfl
  | x :: L => by rw [tN_cons, List.map_cons, List.sum_cons, tN_int L]; omega
def besR (L : List T3) (k : Nat) : List Int := (L.map fun y => rwo y.m k).flatten
def besM (L : List T3) (t : Nat) : Mx := (List.range t).map (besR L)
theorem besR_cons (x : T3) (L : List T3) (k : Nat) : besR (x :: L) k = rwo x.m k ++ besR L k := rfl
theorem rwo_lt {m : Mx} {k : Nat} (h : k < m.length) : rwo m k = m[k] := by unfold rwo; rw [List.getElem?_eq_getElem h]; rfl
theorem len_rwo {t w : Nat} {m : Mx} (sh : Sh t w m) {k : Nat} (h : k < t) : (rwo m k).length = w := by
  rw [rwo_lt (by rw [sh.tall]; exact h)]
  exact sh.wide _ (List.getElem_mem _)
theorem len_besR {k : Nat} : ∀ L : List T3, (∀ y ∈ L, Sh y.t y.w y.m ∧ k < y.t) → (besR L k).length = wN L
  | [], _ => rfl
  | x :: L, h => by
    obtain ⟨s, hk⟩ := h x List.mem_cons_self
    rw [besR_cons, wN_cons, List.length_append, len_rwo s hk, len_besR L fun y hy => h y (List.mem_cons_of_mem _ hy)]
theorem sh_besM {L : List T3} {t : Nat} (h : ∀ y ∈ L, Sh y.t y.w y.m ∧ y.t = t) : Sh t (wN L) (besM L t) := ⟨by unfold besM; simp, fun r hr => by
  obtain ⟨k, hk, rfl⟩ := List.mem_map.mp hr
  have hk := List.mem_range.mp hk
  exact len_besR L fun y hy => ⟨(h y hy).1, by rw [(h y hy).2]; exact hk⟩⟩
def modT (p : Int) (x : T3) : T3 := ⟨x.t, x.w, modM p x.m⟩
theorem cr_app {p : Int} {a b c d : List Int} (h1 : CR p a b) (h2 : CR p c d) : CR p (a ++ c) (b ++ d) := by
  unfold CR modR at *
  rw [List.map_append, List.map_append, h1, h2]
theorem rwo_mod (p : Int) (m : Mx) (k : Nat) : rwo (modM p m) k = modR p (rwo m k) := by
  unfold rwo
  rw [modM_def, List.getElem?_map]
  cases m[k]? with
  | none => rfl
  | some r => rfl
theorem cr_besR {p : Int} (hp : 0 < p) (k : Nat) : ∀ L : List T3, CR p (besR (L.map (modT p)) k) (besR L k)
  | [] => rfl
  | x :: L => by
    rw [List.map_cons, besR_cons, besR_cons]
    refine cr_app ?_ (cr_besR hp k L)
    show CR p (rwo (modM p x.m) k) (rwo x.m k)
    rw [rwo_mod]
    exact cr_modR hp _
theorem cm_besM {p : Int} (hp : 0 < p) (L : List T3) (t : Nat) : CM p (besM (L.map (modT p)) t) (besM L t) := cm_of (fun k => cr_besR hp k L) _
theorem wN_mod (p : Int) : ∀ L : List T3, wN (L.map (modT p)) = wN L
  | [] => rfl
  | x :: L => by rw [List.map_cons, wN_cons, wN_cons, wN_mod p L]; rfl
theorem tN_mod (p : Int) : ∀ L : List T3, tN (L.map (modT p)) = tN L
  | [] => rfl
  | x :: L => by rw [List.map_cons, tN_cons, tN_cons, tN_mod p L]; rfl
theorem asI_map {α : Type} (g : α → Int) : ∀ l : List α, asInts (l.map fun a => D.int (g a)) = some (l.map g)
  | [] => rfl
  | a :: l => by
    have := asI_map g l
    simp only [List.map_cons, asInts, this, Option.map_some]
theorem at0' {p : Int} {x : T3} {Ts : List T3} : atI ((x :: Ts).map (it3 p)) 0 = some (it3 p x) := by
  have := at0 (p := p) (x := x) (Ts := Ts) (l := [])
  rwa [List.append_nil] at this
/-! ### beside -/
theorem bes_row {p : Int} {d : D} {k : Nat} {L : List T3} (hL : ∀ y ∈ L, Ok3 y ∧ k < y.t) (hz : (besR L k).length ≤ 60) {P : List D → DL.Env → Prop} {s2 : Option Sl}
    (h : P ((besR L k).map D.int) [some (.sh d), none, s2, some (.sh (.int (k : Int))), none]) :
    dComp2L (gN 1) (d2 ixD (dAttr C.tab "lines" (dVar 1)) (dVar 3)) (gN 4) (dVar 4) [1] [4] P (L.map (it3 p)) [] [some (.sh d), none, s2, some (.sh (.int (k : Int))), none] := by
  have ef : (L.map fun y : T3 => (rwo y.m k).map D.int).flatten = (besR L k).map D.int := by unfold besR; rw [List.map_flatten, List.map_map]; rfl
  refine q_comp2 (g := fun y : T3 => (rwo y.m k).map D.int) (N := 60) L [] (by rw [ef, List.length_map]; simpa using hz) (fun y hy acc P' ha hP => ?_) ?_
  · obtain ⟨ok, hk⟩ := hL y hy
    have e : atI (y.m.map TI) (k : Int) = some (TI (rwo y.m k)) := by
      rw [atI_nat (by rw [List.length_map, ok.sh.tall]; exact hk), List.getElem_map, rwo_lt]
    refine ⟨_, rfl, _, e, ?_⟩
    refine q_comp (it := D.int) (f := fun x => some (D.int x)) (δ0 := [some (.sh d), some (.sh (it3 p y)), s2, some (.sh (.int (k : Int))), none]) (rwo y.m k) acc (by rw [List.length_map] at ha; omega) (fun x hx Q hQ => hQ) ?_
    rw [fm_all D.int]
    exact hP
  · rw [List.nil_append, ef]
    exact h
abbrev eB (d : D) (s2 : Option Sl) : DL.Env := [some (.sh d), none, s2, none, none]
/-- sums over the tables -/
theorem q_sumW {p : Int} {d : D} {s2 : Option Sl} {L : List T3} (hl : L.length ≤ 100) {P : List D → DL.Env → Prop} (h : P (L.map fun y => D.int (y.w : Int)) (eB d s2)) : dCompL (gN 1) dYes (dAttr C.tab "wide" (dVar 1)) [1] P (L.map (it3 p)) [] (eB d s2) :=
  q_compM (it := it3 p) (f := fun y => D.int (y.w : Int)) (δ0 := eB d s2) L (by omega) (fun y hy Q hQ => ⟨_, rfl, hQ⟩) h
theorem m_beside {p : Int} {x : T3} {Ts : List T3} (hp : p ∈ PL) (hok : ∀ y ∈ x :: Ts, Ok3 y ∧ y.t = x.t) (hl : (x :: Ts).length ≤ 100) (hw : wN (x :: Ts) ≤ 60) {P E : D → Prop} (h : P (tb p x.t (wN (x :: Ts)) (modM p (besM (x :: Ts) x.t)))) : dBody N_beside.length t_beside [.lst ((x :: Ts).map (it3 p))] P E := by
  have tx := (hok x List.mem_cons_self).1.ht
  have a0 := at0' (p := p) (x := x) (Ts := Ts)
  refine ⟨rfl, m_need_tables (x := x) (Ts := Ts) (.inl rfl) ?_⟩
  revert hok hl hw h a0
  generalize x :: Ts = L
  intro hok hl hw h a0
  refine q_compM (it := it3 p) (f := fun y => D.bl (!decide ((y.t : Int) = (x.t : Int)))) (δ0 := eB (.lst (L.map (it3 p))) none) L (by omega) (fun y hy Q hQ => ⟨_, rfl, _, a0, _, rfl, _, _, rfl, rfl, rfl, rfl, ?_⟩) ?_
  · rw [eqv_int]; exact hQ
  refine ⟨_, asB_map (fun y : T3 => !decide ((y.t : Int) = (x.t : Int))) L, iteB (b := (L.map fun y : T3 => !decide ((y.t : Int) = (x.t : Int))).any _root_.id) ?_ ?_⟩
  · rw [List.any_map, List.any_eq_false]
    intro y hy
    have := (hok y hy).2
    simp [this]
  refine q_sumW (s2 := none) hl ?_
  refine ⟨_, asI_map (fun y : T3 => (y.w : Int)) L, iteB (b := decide ((60 : Int) < (L.map fun y : T3 => (y.w : Int)).sum)) (by rw [wN_int]; exact decide_eq_false (by omega)) ?_⟩
  refine ⟨_, a0, _, rfl, ⟨by omega, by omega⟩, ?_⟩
  rw [rangeN]
  refine q_compM (it := fun (i : Nat) => D.int (i : Int)) (f := fun k => LI (besR L k)) (δ0 := eB (.lst (L.map (it3 p))) none) (List.range x.t) (by rw [List.length_range]; omega) (fun k hk Q hQ => ?_) ?_
  · have kt := List.mem_range.mp hk
    exact bes_row (fun y hy => ⟨(hok y hy).1, by rw [(hok y hy).2]; exact kt⟩) (by rw [len_besR L fun y hy => ⟨(hok y hy).1.sh, by rw [(hok y hy).2]; exact kt⟩]; exact hw) hQ
  · rw [show (List.range x.t).map (fun k => LI (besR L k)) = (besM L x.t).map LI from by unfold besM; rw [List.map_map]; rfl]
    refine ⟨_, a0, _, rfl, _, a0, _, rfl, ?_⟩
    refine q_sumW (s2 := some (.ol ((besM L x.t).map LI))) hl ?_
    refine ⟨_, asI_map (fun y : T3 => (y.w : Int)) L, ?_⟩
    rw [wN_int]
    exact ⟨rfl, mk_Table hp tx hw (.inl rfl) (.inl rfl) (sh_besM fun y hy => ⟨(hok y hy).1.sh, (hok y hy).2⟩) h⟩
theorem x_beside {p : Int} {x : T3} {Ts : List T3} {d : D} (hd : BadL p x Ts d) {P E : D → Prop} (h : E (.exc "BadTable" [])) : dBody N_beside.length t_beside [d] P E := ⟨rfl, x_tables hd h⟩
/-- other heights, too wide -/
theorem x_beside_sz {p : Int} {x : T3} {Ts : List T3} (hl : (x :: Ts).length ≤ 100) (hz : (∃ y ∈ x :: Ts, y.t ≠ x.t) ∨ ((∀ y ∈ x :: Ts, y.t = x.t) ∧ 60 < wN (x :: Ts))) {P E : D → Prop} (h : E (.exc "BadTable" [])) : dBody N_beside.length t_beside [.lst ((x :: Ts).map (it3 p))] P E := by
  have a0 := at0' (p := p) (x := x) (Ts := Ts)
  refine ⟨rfl, m_need_tables (x := x) (Ts := Ts) (.inl rfl) ?_⟩
  revert hl hz a0
  generalize x :: Ts = L
  intro hl hz a0
  refine q_compM (it := it3 p) (f := fun y => D.bl (!decide ((y.t : Int) = (x.t : Int)))) (δ0 := eB (.lst (L.map (it3 p))) none) L (by omega) (fun y hy Q hQ => ⟨_, rfl, _, a0, _, rfl, _, _, rfl, rfl, rfl, rfl, ?_⟩) ?_
  · rw [eqv_int]; exact hQ
  rcases hz with ⟨y, hy, ne⟩ | ⟨ht, hw⟩
  · refine ⟨_, asB_map (fun y : T3 => !decide ((y.t : Int) = (x.t : Int))) L, iteBt (b := (L.map fun y : T3 => !decide ((y.t : Int) = (x.t : Int))).any _root_.id) ?_ ?_⟩
    · rw [List.any_map, List.any_eq_true]
      exact ⟨y, hy, by simp; omega⟩
    · exact h
  · refine ⟨_, asB_map (fun y : T3 => !decide ((y.t : Int) = (x.t : Int))) L, iteB (b := (L.map fun y : T3 => !decide ((y.t : Int) = (x.t : Int))).any _root_.id) ?_ ?_⟩
    · rw [List.any_map, List.any_eq_false]
      intro y hy
      simp [ht y hy]
    refine q_sumW (s2 := none) hl ?_
    refine ⟨_, asI_map (fun y : T3 => (y.w : Int)) L, iteBt (b := decide ((60 : Int) < (L.map fun y : T3 => (y.w : Int)).sum)) (by rw [wN_int]; exact decide_eq_true (by omega)) ?_⟩
    exact h
end K01

namespace K01
open PySem PySem.Spec L2 DL
open PyProof.Rows hiding St
/-! ### over -/
def overM (L : List T3) : Mx := (L.map (·.m)).flatten
theorem overM_cons (x : T3) (L : List T3) : overM (x :: L) = x.m ++ overM L := rfl
theorem sh_overM {w : Nat} : ∀ L : List T3, (∀ y ∈ L, Sh y.t y.w y.m ∧ y.w = w) → Sh (tN L) w (overM L)
  | [], _ => ⟨rfl, nofun⟩
  | x :: L, h => by
    obtain ⟨s, e⟩ := h x List.mem_cons_self
    have ih := sh_overM L fun y hy => h y (List.mem_cons_of_mem _ hy)
    refine ⟨by rw [overM_cons, List.length_append, s.tall, ih.tall, tN_cons], fun r hr => ?_⟩
    rw [overM_cons] at hr
    rcases List.mem_append.mp hr with a | a
    · rw [s.wide r a, e]
    · exact ih.wide r a
theorem cm_app {p : Int} {A B C D' : Mx} (h1 : CM p A B) (h2 : CM p C D') : CM p (A ++ C) (B ++ D') := by
  induction h1 with
  | nil => exact h2
  | cons h _ ih => exact .cons h ih
theorem cm_overM {p : Int} (hp : 0 < p) : ∀ L : List T3, CM p (overM (L.map (modT p))) (overM L)
  | [] => .nil
  | x :: L => by
    rw [List.map_cons, overM_cons, overM_cons]
    exact cm_app (cm_modM hp x.m) (cm_overM hp L)
abbrev eO (d : D) (s2 : Option Sl) : DL.Env := [some (.sh d), none, s2, none]
theorem q_sumT {p : Int} {d : D} {s2 : Option Sl} {L : List T3} (hl : L.length ≤ 100) {P : List D → DL.Env → Prop} (h : P (L.map fun y => D.int (y.t : Int)) (eO d s2)) : dCompL (gN 1) dYes (dAttr C.tab "tall" (dVar 1)) [1] P (L.map (it3 p)) [] (eO d s2) :=
  q_compM (it := it3 p) (f := fun y => D.int (y.t : Int)) (δ0 := eO d s2) L (by omega) (fun y hy Q hQ => ⟨_, rfl, hQ⟩) h
theorem m_over {p : Int} {x : T3} {Ts : List T3} (hp : p ∈ PL) (hok : ∀ y ∈ x :: Ts, Ok3 y ∧ y.w = x.w) (hl : (x :: Ts).length ≤ 100) (ht : tN (x :: Ts) ≤ 60) {P E : D → Prop} (h : P (tb p (tN (x :: Ts)) x.w (modM p (overM (x :: Ts))))) : dBody N_over.length t_over [.tup ((x :: Ts).map (it3 p))] P E := by
  have wx := (hok x List.mem_cons_self).1.hw
  have a0 := at0' (p := p) (x := x) (Ts := Ts)
  refine ⟨rfl, m_need_tables (x := x) (Ts := Ts) (.inr rfl) ?_⟩
  revert hok hl ht h a0
  generalize x :: Ts = L
  intro hok hl ht h a0
  refine q_compM (it := it3 p) (f := fun y => D.bl (!decide ((y.w : Int) = (x.w : Int)))) (δ0 := eO (.tup (L.map (it3 p))) none) L (by omega) (fun y hy Q hQ => ⟨_, rfl, _, a0, _, rfl, _, _, rfl, rfl, rfl, rfl, ?_⟩) ?_
  · rw [eqv_int]; exact hQ
  refine ⟨_, asB_map (fun y : T3 => !decide ((y.w : Int) = (x.w : Int))) L, iteB (b := (L.map fun y : T3 => !decide ((y.w : Int) = (x.w : Int))).any _root_.id) ?_ ?_⟩
  · rw [List.any_map, List.any_eq_false]
    intro y hy
    have := (hok y hy).2
    simp [this]
  refine q_sumT (s2 := none) hl ?_
  refine ⟨_, asI_map (fun y : T3 => (y.t : Int)) L, iteB (b := decide ((60 : Int) < (L.map fun y : T3 => (y.t : Int)).sum)) (by rw [tN_int]; exact decide_eq_false (by omega)) ?_⟩
  have sh := sh_overM L fun y hy => ⟨(hok y hy).1.sh, (hok y hy).2⟩
  have ef : (L.map fun y : T3 => y.m.map TI).flatten = (overM L).map TI := by unfold overM; rw [List.map_flatten, List.map_map]; rfl
  refine q_comp2 (it := it3 p) (g := fun y : T3 => y.m.map TI) (δ0 := eO (.tup (L.map (it3 p))) none) (N := 60) L [] (by rw [ef, List.length_map, sh.tall]; simpa using ht) (fun y hy acc P' ha hP => ⟨_, rfl, ?_⟩) ?_
  · refine q_comp (it := TI) (f := fun r => some (TI r)) (δ0 := [some (.sh (.tup (L.map (it3 p)))), some (.sh (it3 p y)), none, none]) y.m acc (by rw [List.length_map] at ha; omega) (fun r hr Q hQ => hQ) ?_
    rw [fm_all TI]
    exact hP
  · rw [List.nil_append, ef]
    refine ⟨_, a0, _, rfl, ?_⟩
    refine q_sumT (s2 := some (.ol ((overM L).map TI))) hl ?_
    refine ⟨_, asI_map (fun y : T3 => (y.t : Int)) L, ?_⟩
    rw [tN_int]
    exact ⟨_, a0, _, rfl, rfl, mk_Table hp ht wx (.inr rfl) (.inl rfl) sh h⟩
theorem x_over {p : Int} {x : T3} {Ts : List T3} {d : D} (hd : BadL p x Ts d) {P E : D → Prop} (h : E (.exc "BadTable" [])) : dBody N_over.length t_over [d] P E := ⟨rfl, x_tables hd h⟩
/-! ### corner -/
def corR (W a w : Nat) (r : List Int) : List Int := List.replicate a 0 ++ r ++ List.replicate (W - a - w) 0
def corM (W : Nat) : List T3 → Nat → Mx
  | [], _ => []
  | x :: L, a => x.m.map (corR W a x.w) ++ corM W L (a + x.w)
theorem len_corR {W a w : Nat} {r : List Int} (h : r.length = w) (hw : a + w ≤ W) : (corR W a w r).length = W := by
  unfold corR
  simp only [List.length_append, List.length_replicate]
  omega
theorem sh_corM {W : Nat} : ∀ (L : List T3) (a : Nat), (∀ y ∈ L, Sh y.t y.w y.m) → a + wN L ≤ W → Sh (tN L) W (corM W L a)
  | [], _, _, _ => ⟨rfl, nofun⟩
  | x :: L, a, h, ha => by
    rw [wN_cons] at ha
    have s := h x List.mem_cons_self
    have ih := sh_corM (W := W) L (a + x.w) (fun y hy => h y (List.mem_cons_of_mem _ hy)) (by omega)
    refine ⟨by rw [corM, List.length_append, List.length_map, s.tall, ih.tall, tN_cons], fun r hr => ?_⟩
    rw [corM] at hr
    rcases List.mem_append.mp hr with z | z
    · obtain ⟨q, hq, rfl⟩ := List.mem_map.mp z
      exact len_corR (s.wide q hq) (by omega)
    · exact ih.wide r z
theorem cm_corM {p : Int} (hp : 0 < p) (W : Nat) : ∀ (L : List T3) (a : Nat), CM p (corM W (L.map (modT p)) a) (corM W L a)
  | [], _ => .nil
  | x :: L, a => by
    rw [List.map_cons, corM, corM]
    refine cm_app ?_ (cm_corM hp W L _)
    show CM p ((modM p x.m).map (corR W a x.w)) (x.m.map (corR W a x.w))
    exact cm_map (fun r s h => cr_app (cr_app rfl h) rfl) (cm_modM hp x.m)
abbrev eC (d : D) (t w : Nat) (s3 : Option Sl) (F : List D) (a : Nat) (s6 : Option Sl) : DL.Env := [some (.sh d), some (.sh (.int (t : Int))), some (.sh (.int (w : Int))), s3, some (.ol F), some (.sh (.int (a : Int))), s6]
abbrev crIn : TDS := dExpr (dMut 4 "list" mAppend (dCons (dFrz (f2 addF (dFrz (f2 addF (dFrz (f2 mulG (dLst (dCons (dC (.int 0)) dNil)) (dVar 5))) (dFrz (fCB listF (dCons (dVar 6) dNil))))) (dFrz (f2 mulG (dLst (dCons (dC (.int 0)) dNil)) (d2 subD (d2 subD (dVar 2) (dVar 5)) (dAttr C.tab "wide" (dVar 3))))))) dNil))
theorem rep_map (n : Nat) : (List.replicate n [D.int 0]).flatten = (List.replicate n (0 : Int)).map D.int := rep0 n
theorem cr_in {p : Int} {rx : D → Prop} {DD : DEnds} {d : D} {t W a : Nat} {y : T3} (hW : W ≤ 60) (ha : a + y.w ≤ W) : ∀ (m F : Mx) (s6 : Option Sl), F.length + m.length ≤ 1000 → (∀ r ∈ m, r.length = y.w) → (∀ s6, DD.nx (eC d t W (some (.sh (it3 p y))) ((F ++ m.map (corR W a y.w)).map LI) a s6)) →
    dForL (gN 6) crIn rx DD (m.map TI) (eC d t W (some (.sh (it3 p y))) (F.map LI) a s6)
  | [], F, s6, _, _, h => by
    show DD.nx _
    simpa using h s6
  | r :: m, F, s6, hl, hr, h => by
    rw [List.length_cons] at hl
    have lr := hr r List.mem_cons_self
    have ih := cr_in (p := p) (rx := rx) (DD := DD) (d := d) (t := t) hW ha m (F ++ [corR W a y.w r]) (some (.sh (TI r))) (by rw [List.length_append]; simp; omega) (fun q hq => hr q (List.mem_cons_of_mem _ hq)) (by
      intro s6
      rw [List.append_assoc]
      exact h s6)
    rw [List.map_append] at ih
    have e1 : (List.replicate (a : Int).toNat [D.int 0]).flatten = (List.replicate a (0 : Int)).map D.int := by rw [Int.toNat_natCast, rep0]
    have e2 : (List.replicate ((W : Int) - (a : Int) - (y.w : Int)).toNat [D.int 0]).flatten = (List.replicate (W - a - y.w) (0 : Int)).map D.int := by
      rw [show ((W : Int) - (a : Int) - (y.w : Int)).toNat = W - a - y.w by omega, rep0]
    have e3 : ((List.replicate (a : Int).toNat [D.int 0]).flatten ++ r.map D.int) ++ (List.replicate ((W : Int) - (a : Int) - (y.w : Int)).toNat [D.int 0]).flatten = (corR W a y.w r).map D.int := by
      rw [e1, e2]
      unfold corR
      rw [List.map_append, List.map_append]
    refine ⟨rfl, (by decide : 1 ≤ sizeLine), ⟨by omega, by omega, Nat.le_trans (show 1 * ((a : Int).toNat) ≤ 60 by omega) (by decide)⟩, ?_⟩
    refine ⟨Nat.le_trans (show _ ≤ 120 by rw [e1]; simp; omega) (by decide), (by decide : 1 ≤ sizeLine), _, rfl, ⟨by omega, by omega, Nat.le_trans (show 1 * (((W : Int) - (a : Int) - (y.w : Int)).toNat) ≤ 60 by omega) (by decide)⟩, ?_⟩
    refine ⟨Nat.le_trans (show _ ≤ 180 by rw [e1, e2]; simp; omega) (by decide), ?_⟩
    refine ⟨rfl, Nat.lt_of_le_of_lt (show _ ≤ 1000 by rw [List.length_map]; omega) (by decide), ?_⟩
    show dForL (gN 6) crIn rx DD (m.map TI) (eC d t W (some (.sh (it3 p y))) (F.map LI ++ [.lst (((List.replicate (a : Int).toNat [D.int 0]).flatten ++ r.map D.int) ++ (List.replicate ((W : Int) - (a : Int) - (y.w : Int)).toNat [D.int 0]).flatten)]) a (some (.sh (TI r))))
    rw [e3]
    exact ih
abbrev crOut : TDS := dSeq (dFor (dSeqI (dAttr C.tab "lines" (dVar 3))) (gN 6) crIn) (dSet 5 (dFrz (f2 addF (dVar 5) (dAttr C.tab "wide" (dVar 3)))))
theorem cr_outer {p : Int} {rx : D → Prop} {DD : DEnds} {d : D} {t W : Nat} (hW : W ≤ 60) : ∀ (L : List T3) (a : Nat) (F : Mx) (s3 s6 : Option Sl), F.length + tN L ≤ 1000 → (∀ y ∈ L, Sh y.t y.w y.m) → a + wN L ≤ W → (∀ b s3 s6, DD.nx (eC d t W s3 ((F ++ corM W L a).map LI) b s6)) →
    dForL (gN 3) crOut rx DD (L.map (it3 p)) (eC d t W s3 (F.map LI) a s6)
  | [], a, F, s3, s6, _, _, _, h => by
    show DD.nx _
    have := h a s3 s6
    simpa [corM] using this
  | y :: L, a, F, s3, s6, hl, hs, ha, h => by
    rw [tN_cons] at hl
    rw [wN_cons] at ha
    have sy := hs y List.mem_cons_self
    refine ⟨_, rfl, ?_⟩
    refine cr_in (p := p) (y := y) hW (by omega) y.m F s6 (by rw [sy.tall]; omega) sy.wide fun s6' => ?_
    refine ⟨_, rfl, ?_⟩
    have ih := cr_outer (p := p) (rx := rx) (DD := DD) (d := d) (t := t) hW L (a + y.w) (F ++ y.m.map (corR W a y.w)) (some (.sh (it3 p y))) s6' (by rw [List.length_append, List.length_map, sy.tall]; omega) (fun z hz => hs z (List.mem_cons_of_mem _ hz)) (by omega) (by
      intro b s3 s6
      rw [List.append_assoc]
      exact h b s3 s6)
    unfold eC at ih
    rw [show ((a + y.w : Nat) : Int) = (a : Int) + (y.w : Int) by omega] at ih
    exact ih
abbrev eC0 (d : D) (s1 s2 : Option Sl) : DL.Env := [some (.sh d), s1, s2, none, none, none, none]
theorem q_sumC {p : Int} {d : D} {L : List T3} (hl : L.length ≤ 100) {s1 s2 : Option Sl} {f : Str} {g : T3 → Nat} (hg : ∀ (y : T3) (P : D → Prop), P (.int (g y : Int)) → attrD C.tab f (it3 p y) P) {P : List D → DL.Env → Prop} (h : P (L.map fun y => D.int (g y : Int)) (eC0 d s1 s2)) : dCompL (gN 3) dYes (dAttr C.tab f (dVar 3)) [3] P (L.map (it3 p)) [] (eC0 d s1 s2) :=
  q_compM (it := it3 p) (f := fun y => D.int (g y : Int)) (δ0 := eC0 d s1 s2) L (by omega) (fun y hy Q hQ => hg y _ hQ) h
theorem m_corner {p : Int} {x : T3} {Ts : List T3} (hp : p ∈ PL) (hok : ∀ y ∈ x :: Ts, Ok3 y) (hl : (x :: Ts).length ≤ 100) (ht : tN (x :: Ts) ≤ 60) (hw : wN (x :: Ts) ≤ 60) {P E : D → Prop} (h : P (tb p (tN (x :: Ts)) (wN (x :: Ts)) (modM p (corM (wN (x :: Ts)) (x :: Ts) 0)))) : dBody N_corner.length t_corner [.lst ((x :: Ts).map (it3 p))] P E := by
  have a0 := at0' (p := p) (x := x) (Ts := Ts)
  refine ⟨rfl, m_need_tables (x := x) (Ts := Ts) (.inl rfl) ?_⟩
  revert hok hl ht hw h a0
  generalize x :: Ts = L
  intro hok hl ht hw h a0
  refine q_sumC (p := p) (f := "tall") (g := fun y => y.t) (s1 := none) (s2 := none) hl (fun y P hP => ⟨_, rfl, hP⟩) ?_
  refine ⟨_, asI_map (fun y : T3 => (y.t : Int)) L, ?_⟩
  refine q_sumC (p := p) (f := "wide") (g := fun y => y.w) (s1 := none) (s2 := none) hl (fun y P hP => ⟨_, rfl, hP⟩) ?_
  refine ⟨_, asI_map (fun y : T3 => (y.w : Int)) L, ?_⟩
  rw [tN_int, wN_int]
  refine iteB (b := decide ((60 : Int) < (tN L : Int))) (decide_eq_false (by omega)) ?_
  refine iteB (b := decide ((60 : Int) < (wN L : Int))) (decide_eq_false (by omega)) ?_
  refine ⟨Nat.zero_le _, ?_⟩
  refine cr_outer (p := p) (d := .lst (L.map (it3 p))) (t := tN L) hw L 0 [] none none (by simp; omega) (fun y hy => (hok y hy).sh) (by omega) fun b s3 s6 => ?_
  exact ⟨_, a0, _, rfl, rfl, mk_Table hp ht hw (.inl rfl) (.inl rfl) (sh_corM L 0 (fun y hy => (hok y hy).sh) (by omega)) h⟩
theorem x_corner {p : Int} {x : T3} {Ts : List T3} {d : D} (hd : BadL p x Ts d) {P E : D → Prop} (h : E (.exc "BadTable" [])) : dBody N_corner.length t_corner [d] P E := ⟨rfl, x_tables hd h⟩
theorem x_corner_sz {p : Int} {x : T3} {Ts : List T3} (hl : (x :: Ts).length ≤ 100) (ht : tN (x :: Ts) ≤ 60) (hw : 60 < wN (x :: Ts)) {P E : D → Prop} (h : E (.exc "BadTable" [])) : dBody N_corner.length t_corner [.lst ((x :: Ts).map (it3 p))] P E := by
  refine ⟨rfl, m_need_tables (x := x) (Ts := Ts) (.inl rfl) ?_⟩
  revert hl ht hw
  generalize x :: Ts = L
  intro hl ht hw
  refine q_sumC (p := p) (f := "tall") (g := fun y => y.t) (s1 := none) (s2 := none) hl (fun y P hP => ⟨_, rfl, hP⟩) ?_
  refine ⟨_, asI_map (fun y : T3 => (y.t : Int)) L, ?_⟩
  refine q_sumC (p := p) (f := "wide") (g := fun y => y.w) (s1 := none) (s2 := none) hl (fun y P hP => ⟨_, rfl, hP⟩) ?_
  refine ⟨_, asI_map (fun y : T3 => (y.w : Int)) L, ?_⟩
  rw [tN_int, wN_int]
  refine iteB (b := decide ((60 : Int) < (tN L : Int))) (decide_eq_false (by omega)) ?_
  refine iteBt (b := decide ((60 : Int) < (wN L : Int))) (decide_eq_true (by omega)) ?_
  exact h
end K01

namespace K01
open PySem PySem.Spec L2 DL
open PyProof.Rows hiding St
/-! ### what is refused -/
abbrev badT : D := .exc "BadTable" []
theorem m_is_bad {tl : TL} (h : ∀ P' RX, RX badT → tl P' RX) {P E : D → Prop} (k : P (.bl true)) : wg__law_is_bad tl P E := fun fl => ⟨rfl, h _ _ ⟨by simp [cs], _, _, _, rfl, rfl, rfl, k⟩⟩
theorem m_caughtN {tl : TL} {P E : D → Prop} (h : ∀ Q : D → Prop, ∀ RX, (∀ d, Q d) → tl Q RX) (k : P .non) : wg__law_caught tl P E := h _ _ fun _ => k
theorem m_caughtX {tl : TL} {c : Str} {fs : List (Str × D)} (hc : c ∈ cs) (h : ∀ P' RX, RX (.exc c fs) → tl P' RX) {P E : D → Prop} (k : P (.exc c fs)) : wg__law_caught tl P E := h _ _ ⟨hc, k⟩
/-! the primes -/
theorem q_eqLi {l m : List Int} {P : D → Prop} (h : P (.bl (decide (l = m)))) : eqD (LI l) (LI m) P := by
  have sl : ∀ l : List Int, SeqAt.shaped (.list (l.map PyData.int)) = true := fun l => by
    obtain ⟨h1, h2⟩ := lay_ints l
    exact shaped_of h1 (by omega)
  exact ⟨lR l, lR m, by simp only [toPD, toPDs_ofInts, Option.map_some], by simp only [toPD, toPDs_ofInts, Option.map_some], sl l, sl m, by rw [eqv_lR]; exact h⟩
def divs (n : Nat) : List Int := (List.range (n - 2)).filterMap fun (i : Nat) => if decide ((n : Int) % (2 + (i : Int)) = 0) = true then some (2 + (i : Int)) else none
theorem divs_all : ((List.range 98).all fun n => decide (n < 2) || (decide (divs n = []) == decide ((n : Int) ∈ PL))) = true := by decide +kernel
theorem divs_ok {n : Nat} (h2 : 2 ≤ n) (h : n < 98) : decide (divs n = []) = decide ((n : Int) ∈ PL) := by
  have := List.all_eq_true.mp divs_all n (List.mem_range.mpr h)
  simpa [show ¬ n < 2 by omega] using this
theorem fmap_int (l : List Nat) (g : Nat → Option Int) : l.filterMap (fun i => (g i).map D.int) = (l.filterMap g).map D.int := by
  rw [List.map_filterMap]
theorem m_lawprime {n : Int} {P E : D → Prop} (h : P (.bl (decide (n ∈ PL)))) : dBody N__law_is_prime.length t__law_is_prime [.int n] P E := by
  by_cases c1 : n < 2
  · refine iteBt (b := decide (n < 2)) (decide_eq_true c1) ?_
    rw [decide_eq_false (fun z => by have := pl_pos z; omega)] at h
    exact h
  · refine iteB (b := decide (n < 2)) (decide_eq_false c1) ?_
    by_cases c2 : 97 < n
    · refine iteBt (b := decide (97 < n)) (decide_eq_true c2) ?_
      rw [decide_eq_false (fun z => by have := pl_pos z; omega)] at h
      exact h
    · refine iteB (b := decide (97 < n)) (decide_eq_false c2) ?_
      obtain ⟨k, rfl⟩ := Int.eq_ofNat_of_zero_le (show 0 ≤ n by omega)
      refine ⟨⟨⟨by omega, by omega⟩, ⟨by omega, by omega⟩⟩, ?_⟩
      have er : rangeD 2 (k : Int) = (List.range (k - 2)).map fun (i : Nat) => D.int (2 + (i : Int)) := by
        unfold rangeD
        rw [show ((k : Int) - 2).toNat = k - 2 by omega]
      rw [er]
      refine q_comp (it := fun (i : Nat) => D.int (2 + (i : Int))) (f := fun (i : Nat) => (if decide ((k : Int) % (2 + (i : Int)) = 0) = true then some (2 + (i : Int)) else none).map D.int) (δ0 := [some (.sh (.int (k : Int))), none]) (List.range (k - 2)) [] (by rw [List.length_range]; simp; omega) (fun i hi Q hQ => ⟨by omega, _, _, rfl, rfl, rfl, rfl, ?_⟩) ?_
      · rw [eqv_int]
        by_cases c : (k : Int) % (2 + (i : Int)) = 0
        · rw [decide_eq_true c] at hQ ⊢
          exact hQ
        · rw [decide_eq_false c] at hQ ⊢
          exact hQ
      · rw [List.nil_append, fmap_int]
        refine ⟨Nat.zero_le _, q_eqLi (l := divs k) (m := []) ?_⟩
        rw [divs_ok (by omega) (by omega)]
        exact h
end K01

namespace K01
open PySem PySem.Spec L2 DL
open PyProof.Rows hiding St
theorem sh_nil (w : Nat) : Sh 0 w [] := ⟨rfl, nofun⟩
/-! ### primes_right -/
abbrev prBody : TDS := (dSeq (dSet 4 (dLam wg__law_caught (dFrz (fMake "Table" wi_Table 4 (dCons (dVar 3) (dCons (dC (.int 0)) (dCons (dC (.int 0)) (dCons (dLst dNil) dNil))))))))
    (dSeq (dIfS (dAnd (dTest (dCall (dBody N__law_is_prime.length t__law_is_prime) 1 (dCons (dVar 3) dNil))) (dTest (d2 isnD (dVar 4) (dC .non)))) (dRet (dC (.bl false))) dNext)
    (dIfS (dAnd (dNot (dTest (dCall (dBody N__law_is_prime.length t__law_is_prime) 1 (dCons (dVar 3) dNil)))) (dNot (dTest (dCB (isaD C.isas) (dCons (dVar 4) (dCons (dC (.glo "BadPrime")) dNil)))))) (dRet (dC (.bl false))) dNext)))
theorem e_caught {tb : TDX} {rx : D → Prop} {δ : DL.Env} {P : D → DL.Env → Prop} (h : tb (fun e => match e with
    | .exc c fs => c ∈ cs ∧ P (.exc c fs) δ
    | _ => False) (shOnly δ) fun _ _ => P .non δ) : dLam wg__law_caught tb rx δ P := h
theorem st_caught {i : Nat} {tb : TDX} {rx : D → Prop} {DD : DEnds} {δ : DL.Env} (h : tb (fun e => match e with
    | .exc c fs => c ∈ cs ∧ DD.nx (δ.set i (some (.sh (.exc c fs))))
    | _ => False) (shOnly δ) fun _ _ => DD.nx (δ.set i (some (.sh .non)))) : dSet i (dLam wg__law_caught tb) rx DD δ := h
theorem in_cs1 : ("BadPrime" : Str) ∈ cs := by simp [cs]
theorem in_cs2 : ("BadTable" : Str) ∈ cs := by simp [cs]
theorem in_cs3 : ("BadNumber" : Str) ∈ cs := by simp [cs]
theorem pr_step {rx : D → Prop} {DD : DEnds} {s1 s2 s4 : Option Sl} {n : Int} (h : ∀ s4, DD.nx [some (.sh .drw), s1, s2, some (.sh (.int n)), s4]) : prBody rx DD [some (.sh .drw), s1, s2, some (.sh (.int n)), s4] := by
  by_cases hp : n ∈ PL
  · refine seqQ (st_caught ⟨(by decide : 0 ≤ sizeLine), rfl, mk_Table (t := 0) (w := 0) (m := []) hp (by decide) (by decide) (.inl rfl) (.inl rfl) (sh_nil 0) ?_⟩)
    refine ⟨rfl, m_lawprime ?_⟩
    rw [decide_eq_true hp]
    refine ⟨rfl, m_lawprime ?_⟩
    rw [decide_eq_true hp]
    exact h _
  · refine seqQ (st_caught ⟨(by decide : 0 ≤ sizeLine), rfl, x_prime (.inr ⟨n, rfl, hp⟩) ⟨in_cs1, ?_⟩⟩)
    refine ⟨rfl, m_lawprime ?_⟩
    rw [decide_eq_false hp]
    refine ⟨rfl, m_lawprime ?_⟩
    rw [decide_eq_false hp]
    exact ⟨_, _, _, rfl, rfl, rfl, h _⟩
theorem m_primes {P E : D → Prop} (h : P (.bl true)) : dBody N__law_primes_right.length t__law_primes_right [.drw] P E := by
  have loop : ∀ (ns : List Int) (s1 : Option Sl) (s2 s3 s4 : Option Sl), dForL (gN 3) prBody E { nx := fun δ' => dRet (dC (.bl true)) E { nx := fun _ => P .non, rt := P } δ', rt := P } (ns.map D.int) [some (.sh .drw), s1, s2, s3, s4] := by
    intro ns
    induction ns with
    | nil => intro s1 s2 s3 s4; exact h
    | cons n ns ih => intro s1 s2 s3 s4; exact pr_step fun s4 => ih s1 s2 _ s4
  refine ⟨rfl, p_take (by decide) (by decide) fun r r0 r1 => ⟨_, _, rfl, rfl, rfl, rfl, ?_⟩⟩
  rw [eqv_int]
  by_cases c : r = 0
  · rw [decide_eq_true c]
    refine ⟨⟨by decide, by decide, by decide, by decide, by decide⟩, ?_⟩
    have e : rangeD (-1) 102 = ((List.range 103).map fun (i : Nat) => (-1 : Int) + (i : Int)).map D.int := by
      unfold rangeD
      rw [List.map_map]; rfl
    show dForL (gN 3) prBody E { nx := fun δ' => dRet (dC (.bl true)) E { nx := fun _ => P .non, rt := P } δ', rt := P } (rangeD (-1) 102) [some (.sh .drw), some (.sh (.lst (rangeD (-1) 102))), none, none, none]
    rw [e]
    exact loop _ _ _ _ _
  · rw [decide_eq_false c]
    refine ⟨⟨by decide, by decide⟩, ?_⟩
    refine q_compR (it := fun (i : Nat) => D.int (0 + (i : Int))) (R := fun d => ∃ x, d = .int x ∧ True) (δ0 := [some (.sh .drw), none, none, none, none]) (List.range 6) [] (by decide) (fun i hi Q hQ => ⟨rfl, p_take (by decide) (by decide) fun y y0 y1 => hQ _ ⟨_, rfl, trivial⟩⟩) fun ds hd hr => ?_
    obtain ⟨xs, rfl, _⟩ := ints_of ds hr
    exact loop xs _ _ _ _
/-! ### unequal -/
theorem m_unequal {p : Int} (hp : p ∈ PL) {P E : D → Prop} (h : P (.bl true)) : dBody N__law_unequal.length t__law_unequal [.int p] P E := by
  have go : ∀ o : Int, o ∈ PL → p ≠ o → (dSeq (dIfS (dOr (dTest (dEqA C.isas eqs false (dFrz (fMake "Table" wi_Table 4 (dCons (dVar 0) (dCons (dC (.int 0)) (dCons (dC (.int 2)) (dCons (dLst dNil) dNil)))))) (dFrz (fMake "Table" wi_Table 4 (dCons (dVar 0) (dCons (dC (.int 0)) (dCons (dC (.int 3)) (dCons (dLst dNil) dNil)))))))) (dTest (dEqA C.isas eqs false (dFrz (fMake "Table" wi_Table 4 (dCons (dVar 0) (dCons (dC (.int 0)) (dCons (dC (.int 2)) (dCons (dLst dNil) dNil)))))) (dFrz (fMake "Table" wi_Table 4 (dCons (dVar 1) (dCons (dC (.int 0)) (dCons (dC (.int 2)) (dCons (dLst dNil) dNil))))))))) (dRet (dC (.bl false))) dNext)
    (dSeq (dIfS (dTest (dEqA C.isas eqs false (dFrz (fMake "Table" wi_Table 4 (dCons (dVar 0) (dCons (dC (.int 2)) (dCons (dC (.int 0)) (dCons (dLst (dCons (dLst dNil) (dCons (dLst dNil) dNil))) dNil)))))) (dFrz (fMake "Table" wi_Table 4 (dCons (dVar 1) (dCons (dC (.int 2)) (dCons (dC (.int 0)) (dCons (dLst (dCons (dLst dNil) (dCons (dLst dNil) dNil))) dNil)))))))) (dRet (dC (.bl false))) dNext)
    (dRet (dEqA C.isas eqs false (dFrz (fMake "Table" wi_Table 4 (dCons (dVar 0) (dCons (dC (.int 0)) (dCons (dC (.int 0)) (dCons (dLst dNil) dNil)))))) (dFrz (fMake "Table" wi_Table 4 (dCons (dVar 0) (dCons (dC (.int 0)) (dCons (dC (.int 0)) (dCons (dTup dNil) dNil)))))))))) E { nx := fun _ => P .non, rt := P } [some (.sh (.int p)), some (.sh (.int o))] := fun o ho ne => by
    have s20 : Sh 2 0 [[], []] := ⟨rfl, fun r hr => by simp at hr; rw [hr]; rfl⟩
    refine ⟨(by decide : 0 ≤ sizeLine), rfl, mk_Table (t := 0) (w := 2) (m := []) hp (by decide) (by decide) (.inl rfl) (.inl rfl) (sh_nil 2) ?_⟩
    refine ⟨(by decide : 0 ≤ sizeLine), rfl, mk_Table (t := 0) (w := 3) (m := []) hp (by decide) (by decide) (.inl rfl) (.inl rfl) (sh_nil 3) ⟨_, rfl, ⟨_, rfl, .inl rfl⟩, m_eqT ⟨_, rfl, ?_⟩⟩⟩
    rw [decide_eq_false (show ¬ (p = p ∧ 0 = 0 ∧ 2 = 3 ∧ modM p [] = modM p []) from fun z => absurd z.2.2.1 (by decide))]
    refine ⟨(by decide : 0 ≤ sizeLine), rfl, mk_Table (t := 0) (w := 2) (m := []) hp (by decide) (by decide) (.inl rfl) (.inl rfl) (sh_nil 2) ?_⟩
    refine ⟨(by decide : 0 ≤ sizeLine), rfl, mk_Table (t := 0) (w := 2) (m := []) ho (by decide) (by decide) (.inl rfl) (.inl rfl) (sh_nil 2) ⟨_, rfl, ⟨_, rfl, .inl rfl⟩, m_eqT ⟨_, rfl, ?_⟩⟩⟩
    rw [decide_eq_false (show ¬ (p = o ∧ 0 = 0 ∧ 2 = 2 ∧ modM p [] = modM o []) from fun z => ne z.1)]
    refine ⟨(by decide : 0 ≤ sizeLine), (by decide : 0 ≤ sizeLine), (by decide : 2 ≤ sizeLine), rfl, mk_Table (t := 2) (w := 0) (m := [[], []]) hp (by decide) (by decide) (.inl rfl) (.inl rfl) s20 ?_⟩
    refine ⟨(by decide : 0 ≤ sizeLine), (by decide : 0 ≤ sizeLine), (by decide : 2 ≤ sizeLine), rfl, mk_Table (t := 2) (w := 0) (m := [[], []]) ho (by decide) (by decide) (.inl rfl) (.inl rfl) s20 ⟨_, rfl, ⟨_, rfl, .inl rfl⟩, m_eqT ⟨_, rfl, ?_⟩⟩⟩
    rw [decide_eq_false (show ¬ (p = o ∧ 2 = 2 ∧ 0 = 0 ∧ modM p [[], []] = modM o [[], []]) from fun z => ne z.1)]
    refine ⟨(by decide : 0 ≤ sizeLine), rfl, mk_Table (t := 0) (w := 0) (m := []) hp (by decide) (by decide) (.inl rfl) (.inl rfl) (sh_nil 0) ?_⟩
    refine ⟨(by decide : 0 ≤ sizeLine), rfl, mk_Table (t := 0) (w := 0) (m := []) hp (by decide) (by decide) (.inl rfl) (.inr rfl) (sh_nil 0) ⟨_, rfl, ⟨_, rfl, .inl rfl⟩, m_eqT ⟨_, rfl, ?_⟩⟩⟩
    rw [decide_eq_true (show p = p ∧ 0 = 0 ∧ 0 = 0 ∧ modM p [] = modM p [] from ⟨rfl, rfl, rfl, rfl⟩)]
    exact h
  refine ⟨_, _, rfl, rfl, rfl, rfl, ?_⟩
  rw [eqv_int]
  by_cases c : p = 5
  · rw [decide_eq_true c]
    exact go 7 (by decide) (by rw [c]; decide)
  · rw [decide_eq_false c]
    exact go 5 (by decide) c
end K01

namespace K01
open PySem PySem.Spec L2 DL
open PyProof.Rows hiding St
abbrev pq1 : TDS := (dPar3 2 3 4 (dCons (dCall (dBody N__law_size.length t__law_size) 1 (dCons (dVar 0) dNil)) (dCons (dCall (dBody N__law_size.length t__law_size) 1 (dCons (dVar 0) dNil)) (dCons (dCall (dBody N__law_size.length t__law_size) 1 (dCons (dVar 0) dNil)) dNil))))
abbrev pq2 : TDS := (dPar 5 6 (dSh (dCall (dBody N__law_wild.length t__law_wild) 4 (dCons (dVar 0) (dCons (dVar 1) (dCons (dVar 2) (dCons (dVar 3) dNil)))))) (dSh (dCall (dBody N__law_wild.length t__law_wild) 4 (dCons (dVar 0) (dCons (dVar 1) (dCons (dVar 3) (dCons (dVar 4) dNil)))))))
abbrev pq3 : TDS := (dSet 7 (dCall (dBody N__law_wild.length t__law_wild) 4 (dCons (dVar 0) (dCons (dVar 1) (dCons (dVar 2) (dCons (dVar 3) dNil))))))
abbrev pq4 : TDS := (dSet 8 (dCB reprX (dCons (dLst (dCons (dVar 5) (dCons (dVar 6) dNil))) dNil)))
abbrev pq5 : TDS := (dAsg (dTup (dCons (dFrz (fMake "Table" wi_Table 4 (dCons (dVar 1) (dCons (dVar 2) (dCons (dVar 3) (dCons (dVar 5) dNil)))))) (dCons (dFrz (fMake "Table" wi_Table 4 (dCons (dVar 1) (dCons (dVar 3) (dCons (dVar 4) (dCons (dVar 6) dNil)))))) dNil))) (gT 2 (gsCons (gN 9) (gsCons (gN 10) gsNil))))
abbrev pq6 : TDS := (dIfS (dTest (d2 neD (dCB reprX (dCons (dLst (dCons (dVar 5) (dCons (dVar 6) dNil))) dNil)) (dVar 8))) (dRet (dC (.bl false))) dNext)
abbrev pq7 : TDS := (dSet 11 (dFrz (fMake "Table" wi_Table 4 (dCons (dVar 1) (dCons (dVar 2) (dCons (dVar 3) (dCons (dVar 7) dNil)))))))
abbrev pq8 : TDS := (dIfS (dNot (dTest (dCall (dBody N__law_shows.length t__law_shows) 5 (dCons (dCallK (dBody N_times.length t_times) 2 0 2 [1, 0] dNil (dCons (dVar 10) (dCons (dVar 9) dNil))) (dCons (dVar 1) (dCons (dVar 2) (dCons (dVar 4) (dCons (dCall (dBody N__law_product.length t__law_product) 4 (dCons (dVar 1) (dCons (dVar 5) (dCons (dVar 6) (dCons (dVar 4) dNil))))) dNil)))))))) (dRet (dC (.bl false))) dNext)
abbrev pq9 : TDS := (dSetX 12 (dComp (dZipB (dCons (dVar 5) (dCons (dVar 7) dNil))) (gT 2 (gsCons (gN 13) (gsCons (gN 14) gsNil))) dYes (dFrz (dComp (dZipB (dCons (dVar 13) (dCons (dVar 14) dNil))) (gT 2 (gsCons (gN 15) (gsCons (gN 16) gsNil))) dYes (dFrz (f2 addF (dVar 15) (dVar 16))) [15, 16])) [13, 14]))
abbrev pq10 : TDS := (dSetX 17 (dComp (dZipB (dCons (dVar 5) (dCons (dVar 7) dNil))) (gT 2 (gsCons (gN 13) (gsCons (gN 14) gsNil))) dYes (dFrz (dComp (dZipB (dCons (dVar 13) (dCons (dVar 14) dNil))) (gT 2 (gsCons (gN 15) (gsCons (gN 16) gsNil))) dYes (d2 subD (dVar 15) (dVar 16)) [15, 16])) [13, 14]))
abbrev pq11 : TDS := (dIfS (dNot (dTest (dCall (dBody N__law_shows.length t__law_shows) 5 (dCons (dCallK (dBody N_plus.length t_plus) 2 0 2 [1, 0] dNil (dCons (dVar 11) (dCons (dVar 9) dNil))) (dCons (dVar 1) (dCons (dVar 2) (dCons (dVar 3) (dCons (dVar 12) dNil)))))))) (dRet (dC (.bl false))) dNext)
abbrev pq12 : TDS := (dIfS (dNot (dTest (dCall (dBody N__law_shows.length t__law_shows) 5 (dCons (dCallK (dBody N_minus.length t_minus) 2 0 2 [1, 0] dNil (dCons (dVar 11) (dCons (dVar 9) dNil))) (dCons (dVar 1) (dCons (dVar 2) (dCons (dVar 3) (dCons (dVar 17) dNil)))))))) (dRet (dC (.bl false))) dNext)
abbrev pq13 : TDS := (dSet 18 (dCall (dBody N__law_pick.length t__law_pick) 2 (dCons (dVar 0) (dCons (dLst (dCons (dC (.int 0)) (dCons (dC (.int 1)) (dCons (d1 negD (dC (.int 1))) (dCons (dC (.int 2)) (dCons (dVar 1) (dCons (d2 powD (dC (.int 10)) (dC (.int 20))) (dCons (d1 negD (dC (.int 7))) dNil)))))))) dNil))))
abbrev pq14 : TDS := (dSetX 19 (dComp (dSeqI (dVar 5)) (gN 13) dYes (dFrz (dComp (dSeqI (dVar 13)) (gN 20) dYes (dFrz (f2 mulG (dVar 20) (dVar 18))) [20])) [13]))
abbrev pq15 : TDS := (dIfS (dNot (dTest (dCall (dBody N__law_shows.length t__law_shows) 5 (dCons (dCallK (dBody N_scaled.length t_scaled) 2 0 2 [1, 0] dNil (dCons (dVar 18) (dCons (dVar 9) dNil))) (dCons (dVar 1) (dCons (dVar 2) (dCons (dVar 3) (dCons (dVar 19) dNil)))))))) (dRet (dC (.bl false))) dNext)
abbrev pq16 : TDS := (dIfS (dNot (dTest (dCall (dBody N__law_shows.length t__law_shows) 5 (dCons (dCall (dBody N_across.length t_across) 1 (dCons (dVar 9) dNil)) (dCons (dVar 1) (dCons (dVar 3) (dCons (dVar 2) (dCons (dCall (dBody N__law_turned.length t__law_turned) 2 (dCons (dVar 5) (dCons (dVar 3) dNil))) dNil)))))))) (dRet (dC (.bl false))) dNext)
abbrev pq17 : TDS := (dSet 21 (dFrz (fMake "Table" wi_Table 4 (dCons (dVar 1) (dCons (dFrz (f2 addF (dVar 3) (dC (.int 1)))) (dCons (dC (.int 1)) (dCons (dFrz (f2 mulG (dLst (dCons (dLst (dCons (dC (.int 0)) dNil)) dNil)) (dFrz (f2 addF (dVar 3) (dC (.int 1)))))) dNil)))))))
abbrev pq18 : TDS := (dIfS (dNot (dTest (dLam wg__law_is_bad (dCall (dBody N_times.length t_times) 2 (dCons (dVar 9) (dCons (dVar 21) dNil)))))) (dRet (dC (.bl false))) dNext)
abbrev pq19 : TDS := (dSet 22 (dFrz (fMake "Table" wi_Table 4 (dCons (dIf (dTest (d2 neD (dVar 1) (dC (.int 5)))) (dC (.int 5)) (dC (.int 7))) (dCons (dVar 2) (dCons (dVar 3) (dCons (dVar 5) dNil)))))))
abbrev pq20 : TDS := (dSet 23 (dFrz (fMake "Table" wi_Table 4 (dCons (dVar 1) (dCons (dFrz (f2 addF (dVar 2) (dC (.int 1)))) (dCons (dVar 3) (dCons (dFrz (f2 mulG (dLst (dCons (dFrz (f2 mulG (dLst (dCons (dC (.int 0)) dNil)) (dVar 3))) dNil)) (dFrz (f2 addF (dVar 2) (dC (.int 1)))))) dNil)))))))
abbrev pq21 : TDS := (dFor (dSeqI (dLst (dCons (dC (.glo "plus")) (dCons (dC (.glo "minus")) dNil)))) (gN 24) (dSeq (dIfS (dNot (dTest (dLam wg__law_is_bad (dCallV held2 2 (dVar 24) (dCons (dVar 9) (dCons (dVar 22) dNil)))))) (dRet (dC (.bl false))) dNext)
    (dIfS (dNot (dTest (dLam wg__law_is_bad (dCallV held2 2 (dVar 24) (dCons (dVar 9) (dCons (dVar 23) dNil)))))) (dRet (dC (.bl false))) dNext)))
abbrev pq22 : TDS := (dRet (dAndV (dEqA C.isas eqs true (dVar 9) (dVar 22)) (d2 eqD (dEqA C.isas eqs false (dVar 9) (dVar 11)) (d2 eqD (dCall (dBody N__law_rests.length t__law_rests) 2 (dCons (dVar 1) (dCons (dVar 5) dNil))) (dCall (dBody N__law_rests.length t__law_rests) 2 (dCons (dVar 1) (dCons (dVar 7) dNil)))))))
abbrev lq1 : TDS := (dAsg (dTup (dCons (dCall (dBody N__law_size.length t__law_size) 1 (dCons (dVar 0) dNil)) (dCons (dFrz (dComp (dRange1 (dCons (dFrz (f2 addF (dC (.int 1)) (dCall (dBody N__law_take.length t__law_take) 2 (dCons (dVar 0) (dCons (dC (.int 3)) dNil))))) dNil)) (gN 4) dYes (dCall (dBody N__law_size.length t__law_size) 1 (dCons (dVar 0) dNil)) [4])) dNil))) (gT 2 (gsCons (gN 2) (gsCons (gN 3) gsNil))))
abbrev lq2 : TDS := (dSetX 5 (dComp (dSeqI (dVar 3)) (gN 6) dYes (dCall (dBody N__law_wild.length t__law_wild) 4 (dCons (dVar 0) (dCons (dVar 1) (dCons (dVar 2) (dCons (dVar 6) dNil))))) [6]))
abbrev lq3 : TDS := (dSetX 7 (dComp (dZipB (dCons (dVar 3) (dCons (dVar 5) dNil))) (gT 2 (gsCons (gN 6) (gsCons (gN 8) gsNil))) dYes (dFrz (fMake "Table" wi_Table 4 (dCons (dVar 1) (dCons (dVar 2) (dCons (dVar 6) (dCons (dVar 8) dNil)))))) [6, 8]))
abbrev lq4 : TDS := (dSetX 9 (dComp (dRange1 (dCons (dVar 2) dNil)) (gN 4) dYes (dFrz (fCB sumLF (dCons (dFrz (dComp (dSeqI (dVar 5)) (gN 8) dYes (d2 ixD (dVar 8) (dVar 4)) [8])) (dCons (dLst dNil) dNil)))) [4]))
abbrev lq5 : TDS := (dIfS (dNot (dTest (dCall (dBody N__law_shows.length t__law_shows) 5 (dCons (dCallK (dBody N_beside.length t_beside) 1 0 1 [0] dNil (dCons (dVar 7) dNil)) (dCons (dVar 1) (dCons (dVar 2) (dCons (dCB (onL sumL) (dCons (dVar 3) dNil)) (dCons (dVar 9) dNil)))))))) (dRet (dC (.bl false))) dNext)
abbrev lq6 : TDS := (dSetX 10 (dComp (dZipB (dCons (dVar 3) (dCons (dVar 5) dNil))) (gT 2 (gsCons (gN 6) (gsCons (gN 8) gsNil))) dYes (dFrz (fMake "Table" wi_Table 4 (dCons (dVar 1) (dCons (dVar 6) (dCons (dVar 2) (dCons (dCall (dBody N__law_turned.length t__law_turned) 2 (dCons (dVar 8) (dCons (dVar 6) dNil))) dNil)))))) [6, 8]))
abbrev lq7 : TDS := (dIfS (dNot (dTest (dCall (dBody N__law_shows.length t__law_shows) 5 (dCons (dCallK (dBody N_over.length t_over) 1 0 1 [0] dNil (dCons (dCB tupD (dCons (dVar 10) dNil)) dNil)) (dCons (dVar 1) (dCons (dCB (onL sumL) (dCons (dVar 3) dNil)) (dCons (dVar 2) (dCons (dCall (dBody N__law_turned.length t__law_turned) 2 (dCons (dVar 9) (dCons (dCB (onL sumL) (dCons (dVar 3) dNil)) dNil))) dNil)))))))) (dRet (dC (.bl false))) dNext)
abbrev lq8 : TDS := (dAsg (dTup (dCons (dLst dNil) (dCons (dC (.int 0)) dNil))) (gT 2 (gsCons (gN 11) (gsCons (gN 12) gsNil))))
abbrev lq9 : TDS := (dFor (dZipB (dCons (dVar 3) (dCons (dVar 5) dNil))) (gT 2 (gsCons (gN 6) (gsCons (gN 8) gsNil))) (dSeq (dSet 13 (dFrz (f2 mulG (dLst (dCons (dC (.int 0)) dNil)) (d2 subD (d2 subD (dCB (onL sumL) (dCons (dVar 3) dNil)) (dVar 12)) (dVar 6)))))
    (dSeq (dSet 11 (dFrz (f2 addF (dVar 11) (dFrz (dComp (dSeqI (dVar 8)) (gN 14) dYes (dFrz (f2 addF (dFrz (f2 addF (dFrz (f2 mulG (dLst (dCons (dC (.int 0)) dNil)) (dVar 12))) (dVar 14))) (dVar 13))) [14])))))
    (dSet 12 (dFrz (f2 addF (dVar 12) (dVar 6)))))))
abbrev lq10 : TDS := (dIfS (dNot (dTest (dCall (dBody N__law_shows.length t__law_shows) 5 (dCons (dCallK (dBody N_corner.length t_corner) 1 0 1 [0] dNil (dCons (dVar 7) dNil)) (dCons (dVar 1) (dCons (dFrz (f2 mulG (dVar 2) (dCB lenD (dCons (dVar 3) dNil)))) (dCons (dCB (onL sumL) (dCons (dVar 3) dNil)) (dCons (dVar 11) dNil)))))))) (dRet (dC (.bl false))) dNext)
abbrev lq11 : TDS := (dSet 15 (dFrz (fMake "Table" wi_Table 4 (dCons (dIf (dTest (d2 neD (dVar 1) (dC (.int 5)))) (dC (.int 5)) (dC (.int 7))) (dCons (dVar 2) (dCons (dC (.int 0)) (dCons (dFrz (f2 mulG (dLst (dCons (dLst dNil) dNil)) (dVar 2))) dNil)))))))
abbrev lq12 : TDS := (dFor (dSeqI (dLst (dCons (dC (.glo "beside")) (dCons (dC (.glo "over")) (dCons (dC (.glo "corner")) dNil))))) (gN 16) (dFor (dSeqI (dLst (dCons (dLst dNil) (dCons (dC .non) (dCons (dFrz (f2 addF (dVar 7) (dLst (dCons (dC .non) dNil)))) (dCons (dFrz (f2 addF (dVar 7) (dLst (dCons (dVar 15) dNil)))) dNil)))))) (gN 17) (dIfS (dNot (dTest (dLam wg__law_is_bad (dCallV held1 1 (dVar 16) (dCons (dVar 17) dNil))))) (dRet (dC (.bl false))) dNext)))
abbrev lq13 : TDS := (dSet 18 (dFrz (fMake "Table" wi_Table 4 (dCons (dVar 1) (dCons (dFrz (f2 addF (dVar 2) (dC (.int 1)))) (dCons (dC (.int 1)) (dCons (dFrz (f2 mulG (dLst (dCons (dLst (dCons (dC (.int 0)) dNil)) dNil)) (dFrz (f2 addF (dVar 2) (dC (.int 1)))))) dNil)))))))
abbrev lq14 : TDS := (dRet (dLam wg__law_is_bad (dCall (dBody N_beside.length t_beside) 1 (dCons (dFrz (f2 addF (dVar 7) (dLst (dCons (dVar 18) dNil)))) dNil))))
abbrev rq1 : TDS := (dSet 2 (dCall (dBody N__law_pick.length t__law_pick) 2 (dCons (dVar 0) (dCons (dLst (dCons (dC .non) (dCons (dC (.bl true)) (dCons (dC (.str "2")) (dCons (dTup (dCons (dC (.int 2)) dNil)) (dCons (dC (.int 1)) (dCons (dC (.int 4)) (dCons (dC (.int 0)) (dCons (dC (.int 101)) (dCons (d1 negD (dC (.int 3))) dNil)))))))))) dNil))))
abbrev rq2 : TDS := (dSet 3 (dCall (dBody N__law_pick.length t__law_pick) 2 (dCons (dVar 0) (dCons (dLst (dCons (dC .non) (dCons (dC (.bl true)) (dCons (d1 negD (dC (.int 1))) (dCons (dC (.int 61)) (dCons (dC (.str "1")) (dCons (dTup (dCons (dC (.int 1)) dNil)) dNil))))))) dNil))))
abbrev rq3 : TDS := (dIfS (dNot (dTest (dCB (isaD C.isas) (dCons (dLam wg__law_caught (dFrz (fMake "Table" wi_Table 4 (dCons (dVar 2) (dCons (dVar 3) (dCons (dVar 3) (dCons (dC .non) dNil))))))) (dCons (dC (.glo "BadPrime")) dNil))))) (dRet (dC (.bl false))) dNext)
abbrev rr1 : TDS := (dFor (dSeqI (dLst (dCons (dLst (dCons (dLst (dCons (dC (.bl true)) dNil)) dNil)) (dCons (dLst (dCons (dC (.int 0)) dNil)) (dCons (dLst (dCons (dLst (dCons (dC (.int 0)) dNil)) (dCons (dLst (dCons (dC (.int 0)) dNil)) dNil))) (dCons (dLst (dCons (dLst (dCons (dC (.int 0)) (dCons (dC (.int 0)) dNil))) dNil)) (dCons (dC (.str "0")) (dCons (dC .non) (dCons (dLst (dCons (dLst (dCons (dC (.str "0")) dNil)) dNil)) dNil))))))))) (gN 5) (dIfS (dNot (dTest (dLam wg__law_is_bad (dFrz (fMake "Table" wi_Table 4 (dCons (dVar 1) (dCons (dC (.int 1)) (dCons (dC (.int 1)) (dCons (dVar 5) dNil))))))))) (dRet (dC (.bl false))) dNext))
abbrev rr2 (fl1 fl2 fl3 fl4 fl5 : Addr) : TDS := (dFor (dSeqI (dVar 4)) (gN 6) (dIfS (dNot (dTest (dPassV 6 [(fl5, (dCall (dBody N_times.length t_times) 2 (dCons (dC .non) (dCons (dC .non) dNil)))), (fl4, (dCall (dBody N_scaled.length t_scaled) 2 (dCons (dLst (dCons (dLst (dCons (dC (.int 0)) dNil)) dNil)) (dCons (dC (.int 1)) dNil)))), (fl3, (dCall (dBody N_across.length t_across) 1 (dCons (dC .non) dNil))), (fl2, (dFrz (fMake "Table" wi_Table 4 (dCons (dVar 1) (dCons (dC (.int 1)) (dCons (dVar 3) (dCons (dLst (dCons (dLst (dCons (dC (.int 0)) dNil)) dNil)) dNil))))))), (fl1, (dFrz (fMake "Table" wi_Table 4 (dCons (dVar 1) (dCons (dVar 3) (dCons (dC (.int 1)) (dCons (dLst (dCons (dLst (dCons (dC (.int 0)) dNil)) dNil)) dNil)))))))] wg__law_is_bad))) (dRet (dC (.bl false))) dNext))
abbrev rr3 : TDS := (dIfS (dNot (dTest (dCB (isaD C.isas) (dCons (dLam wg__law_caught (dCall (dBody N_plain.length t_plain) 2 (dCons (dVar 2) (dCons (dC (.int 1)) dNil)))) (dCons (dC (.glo "BadPrime")) dNil))))) (dRet (dC (.bl false))) dNext)
abbrev rr4 : TDS := (dIfS (dNot (dTest (dCB (isaD C.isas) (dCons (dLam wg__law_caught (dCall (dBody N_empty.length t_empty) 3 (dCons (dVar 2) (dCons (dC (.int 1)) (dCons (dC (.int 1)) dNil))))) (dCons (dC (.glo "BadPrime")) dNil))))) (dRet (dC (.bl false))) dNext)
abbrev rr5 : TDS := (dSetX 7 (dLstF (dCons (dLam wg__law_caught (dCall (dBody N_plain.length t_plain) 2 (dCons (dVar 1) (dCons (dVar 3) dNil)))) dNil)))
abbrev rr6 : TDS := (dExpr (dMut 7 "list" mAppend (dCons (dLam wg__law_caught (dCall (dBody N_empty.length t_empty) 3 (dCons (dVar 1) (dCons (dVar 3) (dCons (dVar 3) dNil))))) dNil)))
abbrev rr7 : TDS := (dExpr (dMut 7 "list" mAppend (dCons (dLam wg__law_caught (dCall (dBody N_empty.length t_empty) 3 (dCons (dVar 1) (dCons (dC (.int 1)) (dCons (dVar 3) dNil))))) dNil)))
abbrev rr8 : TDS := (dExpr (dMut 7 "list" mAppend (dCons (dLam wg__law_caught (dCall (dBody N_scaled.length t_scaled) 2 (dCons (dFrz (fMake "Table" wi_Table 4 (dCons (dVar 1) (dCons (dC (.int 0)) (dCons (dC (.int 0)) (dCons (dLst dNil) dNil)))))) (dCons (dCall (dBody N__law_pick.length t__law_pick) 2 (dCons (dVar 0) (dCons (dLst (dCons (dC .non) (dCons (dC (.bl true)) (dCons (dC (.str "1")) dNil)))) dNil))) dNil)))) dNil)))
abbrev rr9 : TDS := (dIfS (dBorT (dTest (d2 neD (dFrz (dComp (dSeqI (dVar 7)) (gN 8) dYes (dCB (isaD C.isas) (dCons (dVar 8) (dCons (dC (.glo "BadNumber")) dNil))) [8])) (dFrz (f2 mulF (dLst (dCons (dC (.bl true)) dNil)) (dC (.int 4))))))) (dRet (dC (.bl false))) dNext)
abbrev rr10 : TDS := (dRet (dBor (d2 eqD (dFrz (dComp (dSeqI (dVar 7)) (gN 8) dYes (dAttr C.tab "part" (dVar 8)) [8])) (dLst (dCons (dC (.str "size")) (dCons (dC (.str "tall")) (dCons (dC (.str "wide")) (dCons (dC (.str "number")) dNil))))))))
abbrev lw1 : TDS := (dSet 3 (dCall (dBody N__law_field.length t__law_field) 1 (dCons (dVar 1) dNil)))
abbrev lw2 : TDS := (dIfS (dTest (d2 eqD (dCall (dBody N__law_take.length t__law_take) 2 (dCons (dVar 1) (dCons (dC (.int 3)) dNil))) (dC (.int 0)))) (dSet 3 (dCall (dBody N__law_pick.length t__law_pick) 2 (dCons (dVar 1) (dCons (dLst (dCons (dC (.int 11)) (dCons (dC (.int 13)) (dCons (dC (.int 17)) (dCons (dC (.int 19)) (dCons (dC (.int 23)) (dCons (dC (.int 29)) (dCons (dC (.int 31)) (dCons (dC (.int 37)) (dCons (dC (.int 41)) (dCons (dC (.int 43)) (dCons (dC (.int 47)) (dCons (dC (.int 53)) (dCons (dC (.int 59)) (dCons (dC (.int 61)) (dCons (dC (.int 67)) (dCons (dC (.int 71)) (dCons (dC (.int 73)) (dCons (dC (.int 79)) (dCons (dC (.int 83)) (dCons (dC (.int 89)) dNil))))))))))))))))))))) dNil)))) dNext)
abbrev lw3 : TDS := (dIfS (dOr (dNot (dTest (dCall (dBody N__law_primes_right.length t__law_primes_right) 1 (dCons (dVar 1) dNil)))) (dNot (dTest (dCall (dBody N__law_unequal.length t__law_unequal) 1 (dCons (dVar 3) dNil))))) (dRet (dC (.bl false))) dNext)
abbrev lw4 : TDS := (dIfS (dOr (dNot (dTest (dCall (dBody N__law_products_right.length t__law_products_right) 2 (dCons (dVar 1) (dCons (dVar 3) dNil))))) (dNot (dTest (dCall (dBody N__law_lists_right.length t__law_lists_right) 2 (dCons (dVar 1) (dCons (dVar 3) dNil)))))) (dRet (dC (.bl false))) dNext)
abbrev lw5 : TDS := (dIfS (dNot (dTest (dCall (dBody N__law_refused.length t__law_refused) 2 (dCons (dVar 1) (dCons (dVar 3) dNil))))) (dRet (dC (.bl false))) dNext)
abbrev lw6 : TDS := (dSet 4 (dFrz (fMake "Table" wi_Table 4 (dCons (dVar 3) (dCons (dC (.int 0)) (dCons (dC (.int 60)) (dCons (dLst dNil) dNil)))))))
abbrev lw7 : TDS := (dIfS (dOr (dTest (dEqA C.isas eqs true (dCall (dBody N_beside.length t_beside) 1 (dCons (dLst (dCons (dVar 4) dNil)) dNil)) (dVar 4))) (dNot (dTest (dLam wg__law_is_bad (dCall (dBody N_beside.length t_beside) 1 (dCons (dLst (dCons (dVar 4) (dCons (dFrz (fMake "Table" wi_Table 4 (dCons (dVar 3) (dCons (dC (.int 0)) (dCons (dC (.int 1)) (dCons (dLst dNil) dNil)))))) dNil))) dNil)))))) (dRet (dC (.bl false))) dNext)
abbrev lw8 : TDS := (dIfS (dNot (dTest (dLam wg__law_is_bad (dCall (dBody N_corner.length t_corner) 1 (dCons (dLst (dCons (dVar 4) (dCons (dFrz (fMake "Table" wi_Table 4 (dCons (dVar 3) (dCons (dC (.int 0)) (dCons (dC (.int 1)) (dCons (dLst dNil) dNil)))))) dNil))) dNil))))) (dRet (dC (.bl false))) dNext)
abbrev lw9 : TDS := (dPar 5 6 (dSh (dCall (dBody N__law_pick.length t__law_pick) 2 (dCons (dVar 1) (dCons (dLst (dCons (dC (.int 0)) (dCons (dC (.int 1)) (dCons (dC (.int 3)) (dCons (dC (.int 60)) dNil))))) dNil)))) (dSh (dCall (dBody N__law_pick.length t__law_pick) 2 (dCons (dVar 1) (dCons (dLst (dCons (dC (.int 0)) (dCons (dC (.int 1)) (dCons (dC (.int 2)) (dCons (dC (.int 60)) dNil))))) dNil)))))
abbrev lw10 : TDS := (dIfS (dNot (dTest (dCall (dBody N__law_shows.length t__law_shows) 5 (dCons (dCall (dBody N_plain.length t_plain) 2 (dCons (dVar 3) (dCons (dVar 5) dNil))) (dCons (dVar 3) (dCons (dVar 5) (dCons (dVar 5) (dCons (dCall (dBody N__law_unit.length t__law_unit) 1 (dCons (dVar 5) dNil)) dNil)))))))) (dRet (dC (.bl false))) dNext)
abbrev lw11 : TDS := (dIfS (dNot (dTest (dCall (dBody N__law_shows.length t__law_shows) 5 (dCons (dCallK (dBody N_empty.length t_empty) 3 0 3 [2, 1, 0] dNil (dCons (dVar 6) (dCons (dVar 5) (dCons (dVar 3) dNil)))) (dCons (dVar 3) (dCons (dVar 5) (dCons (dVar 6) (dCons (dFrz (f2 mulG (dLst (dCons (dFrz (f2 mulG (dLst (dCons (dC (.int 0)) dNil)) (dVar 6))) dNil)) (dVar 5))) dNil)))))))) (dRet (dC (.bl false))) dNext)
end K01

namespace K01
open PySem PySem.Spec L2 DL
open PyProof.Rows hiding St
/-! ### products_right, statement by statement -/
abbrev eQ (p : Int) (t m w : Nat) (A B C : Mx) (s8 s9 s10 s11 s12 s17 s18 s19 s21 s22 s23 s24 : Option Sl) : DL.Env :=
  [some (.sh .drw), some (.sh (.int p)), some (.sh (.int (t : Int))), some (.sh (.int (m : Int))), some (.sh (.int (w : Int))), some (.sh (LL A)), some (.sh (LL B)), some (.sh (LL C)), s8, s9, s10, s11, s12, none, none, none, none, s17, s18, s19, none, s21, s22, s23, s24]
structure PQ (p : Int) (t m w : Nat) (A B C : Mx) : Prop where
  hp : p ∈ PL
  ht : t ≤ 5
  hm : m ≤ 5
  hw : w ≤ 5
  sA : Sh t m A
  sB : Sh m w B
  sC : Sh t m C
  bA : SmM A
  bB : SmM B
  bC : SmM C
theorem PQ.pos {p : Int} {t m w : Nat} {A B C : Mx} (q : PQ p t m w A B C) : 0 < p := by have := pl_pos q.hp; omega
abbrev d9 (p : Int) (t m : Nat) (A : Mx) : Option Sl := some (.sh (tb p t m (modM p A)))
theorem pq_1 {p : Int} {rx : D → Prop} {DD : DEnds} {R : TDS} (hp : p ∈ PL) (h : ∀ t m w A B C, PQ p t m w A B C → R rx DD (eQ p t m w A B C none none none none none none none none none none none none)) :
    dSeq pq1 (dSeq pq2 (dSeq pq3 R)) rx DD [some (.sh .drw), some (.sh (.int p)), none, none, none, none, none, none, none, none, none, none, none, none, none, none, none, none, none, none, none, none, none, none, none] := by
  refine ⟨rfl, m_size fun t ht => ⟨rfl, m_size fun m hm => ⟨rfl, m_size fun w hw => ?_⟩⟩⟩
  refine ⟨rfl, m_wild hp (by omega) (by omega) fun A sA bA => ⟨rfl, m_wild hp (by omega) (by omega) fun B sB bB => ?_⟩⟩
  exact ⟨rfl, m_wild hp (by omega) (by omega) fun C sC bC => h t m w A B C ⟨hp, ht, hm, hw, sA, sB, sC, bA, bB, bC⟩⟩
variable {p : Int} {t m w : Nat} {A B C : Mx} {rx : D → Prop} {DD : DEnds}
theorem pq_4 {R : TDS} (q : PQ p t m w A B C) (h : R rx DD (eQ p t m w A B C (some (.sh (.str (PyData.list [lM A, lM B]).shown))) (d9 p t m A) (d9 p m w B) (d9 p t m C) none none none none none none none none)) :
    dSeq pq4 (dSeq pq5 (dSeq pq6 (dSeq pq7 R))) rx DD (eQ p t m w A B C none none none none none none none none none none none none) := by
  have r := rLL2 q.sA q.sB (by have := q.ht; omega) (by have := q.hm; omega) (by have := q.hm; omega) (by have := q.hw; omega) q.bA q.bB
  have ht := q.ht
  have hm := q.hm
  have hw := q.hw
  refine ⟨(by decide : 2 ≤ sizeLine), _, r.f1, r.f2, r.f3, r.f4, ?_⟩
  refine ⟨rfl, mk_Table (m := A) q.hp (by omega) (by omega) (.inl rfl) (.inl rfl) q.sA ⟨rfl, mk_Table (m := B) q.hp (by omega) (by omega) (.inl rfl) (.inl rfl) q.sB ⟨(by decide : 2 ≤ sizeLine), rfl, ?_⟩⟩⟩
  refine ⟨(by decide : 2 ≤ sizeLine), _, r.f1, r.f2, r.f3, r.f4, _, _, rfl, rfl, r.ok, r.ok, iteB (b := !PyData.eqv (.str (PyData.list [lM A, lM B]).shown) (.str (PyData.list [lM A, lM B]).shown)) (eqv_ss _) ?_⟩
  exact ⟨rfl, mk_Table (m := C) q.hp (by omega) (by omega) (.inl rfl) (.inl rfl) q.sC h⟩
abbrev eS (p : Int) (t m w : Nat) (A B C : Mx) (s8 s12 s17 s18 s19 s21 s22 s23 s24 : Option Sl) : DL.Env := eQ p t m w A B C s8 (d9 p t m A) (d9 p m w B) (d9 p t m C) s12 s17 s18 s19 s21 s22 s23 s24
variable {s8 s12 s17 s18 s19 s21 s22 s23 s24 : Option Sl}
theorem pq_8 (q : PQ p t m w A B C) (h : DD.nx (eS p t m w A B C s8 s12 s17 s18 s19 s21 s22 s23 s24)) : pq8 rx DD (eS p t m w A B C s8 s12 s17 s18 s19 s21 s22 s23 s24) := by
  have ht := q.ht
  have hm := q.hm
  have hw := q.hw
  refine ⟨rfl, rfl, rfl, m_times q.hp (by omega) (by omega) (by omega) (sh_modM q.sA) (sh_modM q.sB) (sm_modM q.hp A) (sm_modM q.hp B) ?_⟩
  refine ⟨rfl, m_law_product (pl_ne q.hp) q.sA q.sB (by omega) (by omega) q.bA q.bB ?_⟩
  refine ⟨rfl, m_shows (S := modM p (prodM w A B)) q.hp (by omega) (by omega) (.inl rfl) rfl (sh_modM (sh_prodM q.sA q.sB)) ?_ h⟩
  rw [modM_modM q.pos]
  exact cm_eq (cm_prodM q.pos (cm_modM q.pos A) (cm_modM q.pos B))
abbrev eG (p : Int) (t m w : Nat) (A B C : Mx) (s8 s12 s13 s14 s15 s16 s17 s18 s19 s20 s21 s22 s23 s24 : Option Sl) : DL.Env :=
  [some (.sh .drw), some (.sh (.int p)), some (.sh (.int (t : Int))), some (.sh (.int (m : Int))), some (.sh (.int (w : Int))), some (.sh (LL A)), some (.sh (LL B)), some (.sh (LL C)), s8, d9 p t m A, d9 p m w B, d9 p t m C, s12, s13, s14, s15, s16, s17, s18, s19, s20, s21, s22, s23, s24]
theorem q_addsL {te : TDX} {f : Int → Int → Int} (q : PQ p t m w A B C)
    (hte : ∀ (x y : Int) (s13 s14 : Option Sl) (Q : D → DL.Env → Prop), Q (.int (f x y)) (eG p t m w A B C s8 s12 s13 s14 (some (.sh (.int x))) (some (.sh (.int y))) s17 s18 s19 none s21 s22 s23 s24) → te (fun _ => False) (eG p t m w A B C s8 s12 s13 s14 (some (.sh (.int x))) (some (.sh (.int y))) s17 s18 s19 none s21 s22 s23 s24) Q)
    {P : List D → DL.Env → Prop} (h : P ((zM f A C).map LI) (eS p t m w A B C s8 s12 s17 s18 s19 s21 s22 s23 s24)) :
    dCompL (gT 2 (gsCons (gN 13) (gsCons (gN 14) gsNil))) dYes (dFrz (dComp (dZipB (dCons (dVar 13) (dCons (dVar 14) dNil))) (gT 2 (gsCons (gN 15) (gsCons (gN 16) gsNil))) dYes te [15, 16])) [13, 14] P (DL.zipD (A.map LI) (C.map LI)) [] (eS p t m w A B C s8 s12 s17 s18 s19 s21 s22 s23 s24) := by
  have ta := q.sA.tall
  have ht := q.ht
  have hm := q.hm
  rw [zipD_rows]
  refine q_compM (it := fun q : List Int × List Int => D.tup [LI q.1, LI q.2]) (f := fun q : List Int × List Int => LI (zw f q.1 q.2)) (δ0 := eG p t m w A B C s8 s12 none none none none s17 s18 s19 none s21 s22 s23 s24) (A.zip C) (by rw [List.length_zip]; omega) (fun x hx Q hQ => ⟨rfl, ?_⟩) ?_
  · have la := q.sA.wide x.1 (List.of_mem_zip (a := x.1) (b := x.2) hx).1
    show dCompL _ _ _ _ _ (DL.zipD (x.1.map D.int) (x.2.map D.int)) [] (eG p t m w A B C s8 s12 (some (.sh (LI x.1))) (some (.sh (LI x.2))) none none s17 s18 s19 none s21 s22 s23 s24)
    rw [zipD_ints]
    refine q_compM (it := fun q : Int × Int => D.tup [.int q.1, .int q.2]) (f := fun q : Int × Int => D.int (f q.1 q.2)) (δ0 := eG p t m w A B C s8 s12 (some (.sh (LI x.1))) (some (.sh (LI x.2))) none none s17 s18 s19 none s21 s22 s23 s24) (x.1.zip x.2) (by rw [List.length_zip]; omega) (fun y hy Q hQ => ⟨rfl, hte y.1 y.2 _ _ _ hQ⟩) ?_
    rw [zw_map]
    exact hQ
  · rw [zM_map]
    exact h
theorem pq_9 (q : PQ p t m w A B C) (h : DD.nx (eS p t m w A B C s8 (some (.ol ((zM (· + ·) A C).map LI))) s17 s18 s19 s21 s22 s23 s24)) : pq9 rx DD (eS p t m w A B C s8 s12 s17 s18 s19 s21 s22 s23 s24) :=
  q_addsL (f := (· + ·)) q (fun x y s13 s14 Q hQ => hQ) h
theorem pq_10 (q : PQ p t m w A B C) (h : DD.nx (eS p t m w A B C s8 s12 (some (.ol ((zM (· - ·) A C).map LI))) s18 s19 s21 s22 s23 s24)) : pq10 rx DD (eS p t m w A B C s8 s12 s17 s18 s19 s21 s22 s23 s24) :=
  q_addsL (f := (· - ·)) q (fun x y s13 s14 Q hQ => hQ) h
theorem pq_11 (q : PQ p t m w A B C) (h : ∀ s12, DD.nx (eS p t m w A B C s8 s12 s17 s18 s19 s21 s22 s23 s24)) : pq11 rx DD (eS p t m w A B C s8 (some (.ol ((zM (· + ·) A C).map LI))) s17 s18 s19 s21 s22 s23 s24) := by
  have ht := q.ht
  have hm := q.hm
  refine ⟨rfl, rfl, rfl, m_plus q.hp (by omega) (by omega) (sh_modM q.sA) (sh_modM q.sC) ?_⟩
  refine ⟨rfl, m_shows (S := zM (· + ·) A C) q.hp (by omega) (by omega) (.inl rfl) rfl (sh_zM q.sA q.sC) (cm_eq (cm_zM (fun x y x' y' h1 h2 => cg_add q.pos h1 h2) (cm_modM q.pos A) (cm_modM q.pos C))) (h _)⟩
theorem pq_12 (q : PQ p t m w A B C) (h : ∀ s17, DD.nx (eS p t m w A B C s8 s12 s17 s18 s19 s21 s22 s23 s24)) : pq12 rx DD (eS p t m w A B C s8 s12 (some (.ol ((zM (· - ·) A C).map LI))) s18 s19 s21 s22 s23 s24) := by
  have ht := q.ht
  have hm := q.hm
  refine ⟨rfl, rfl, rfl, m_minus q.hp (by omega) (by omega) (sh_modM q.sA) (sh_modM q.sC) ?_⟩
  refine ⟨rfl, m_shows (S := zM (· - ·) A C) q.hp (by omega) (by omega) (.inl rfl) rfl (sh_zM q.sA q.sC) (cm_eq (cm_zM (fun x y x' y' h1 h2 => cg_sub q.pos h1 h2) (cm_modM q.pos A) (cm_modM q.pos C))) (h _)⟩
theorem pq_13 (q : PQ p t m w A B C) (h : ∀ n : Int, n.natAbs < 2 ^ 100 → DD.nx (eS p t m w A B C s8 s12 s17 (some (.sh (.int n))) s19 s21 s22 s23 s24)) : pq13 rx DD (eS p t m w A B C s8 s12 s17 s18 s19 s21 s22 s23 s24) := by
  have pp := pl_pos q.hp
  refine ⟨⟨by decide, by decide, by decide⟩, (by decide : 7 ≤ sizeLine), rfl, p_pick (l := ([0, 1, -1, 2, p, 10 ^ 20, -7] : List Int).map D.int) (.inl rfl) (by simp) (by simp) fun x hx => ?_⟩
  obtain ⟨n, hn, rfl⟩ := List.mem_map.mp hx
  refine h n ?_
  simp only [List.mem_cons, List.not_mem_nil, or_false] at hn
  rcases hn with rfl | rfl | rfl | rfl | rfl | rfl | rfl
  · decide
  · decide
  · decide
  · decide
  · exact Nat.lt_of_le_of_lt (show n.natAbs ≤ 97 by omega) (by decide)
  · decide
  · decide
theorem pq_14 {n : Int} (q : PQ p t m w A B C) (hn : n.natAbs < 2 ^ 100) (h : DD.nx (eS p t m w A B C s8 s12 s17 (some (.sh (.int n))) (some (.ol ((mapM' (· * n) A).map LI))) s21 s22 s23 s24)) : pq14 rx DD (eS p t m w A B C s8 s12 s17 (some (.sh (.int n))) s19 s21 s22 s23 s24) := by
  have ta := q.sA.tall
  have ht := q.ht
  have hm := q.hm
  refine q_compM (it := LI) (f := fun r => D.lst (r.map fun x => D.int (x * n))) (δ0 := eG p t m w A B C s8 s12 none none none none s17 (some (.sh (.int n))) s19 none s21 s22 s23 s24) A (by omega) (fun r hr Q hQ => ?_) ?_
  · have lr := q.sA.wide r hr
    exact q_compM (it := D.int) (f := fun x => D.int (x * n)) (δ0 := eG p t m w A B C s8 s12 (some (.sh (LI r))) none none none s17 (some (.sh (.int n))) s19 none s21 s22 s23 s24) r (by omega) (fun x hx Q hQ => ⟨mul_small (a := 40) (b := 100) (Nat.lt_trans (q.bA r hr x hx) (by decide)) hn (by decide), hQ⟩) hQ
  · rw [mapM_map (· * n)]
    exact h
theorem pq_15 {n : Int} (q : PQ p t m w A B C) (hn : n.natAbs < 2 ^ 100) (h : ∀ s19, DD.nx (eS p t m w A B C s8 s12 s17 (some (.sh (.int n))) s19 s21 s22 s23 s24)) : pq15 rx DD (eS p t m w A B C s8 s12 s17 (some (.sh (.int n))) (some (.ol ((mapM' (· * n) A).map LI))) s21 s22 s23 s24) := by
  have ht := q.ht
  have hm := q.hm
  refine ⟨rfl, rfl, rfl, m_scaled q.hp (by omega) (by omega) (sh_modM q.sA) (sm_modM q.hp A) hn ?_⟩
  refine ⟨rfl, m_shows (S := mapM' (· * n) A) q.hp (by omega) (by omega) (.inl rfl) rfl (sh_map q.sA) (cm_eq (cm_mapM (fun x y h1 => cg_mul q.pos h1 rfl) (cm_modM q.pos A))) (h _)⟩
theorem pq_16 (q : PQ p t m w A B C) (h : DD.nx (eS p t m w A B C s8 s12 s17 s18 s19 s21 s22 s23 s24)) : pq16 rx DD (eS p t m w A B C s8 s12 s17 s18 s19 s21 s22 s23 s24) := by
  have ht := q.ht
  have hm := q.hm
  refine ⟨rfl, m_across q.hp (by omega) (by omega) (sh_modM q.sA) ?_⟩
  refine ⟨rfl, m_turned (by omega) (by omega) q.sA ?_⟩
  refine ⟨rfl, m_shows (S := turnM A m) q.hp (by omega) (by omega) (.inl rfl) rfl (sh_turn q.sA m) (cm_eq (cm_turn (cm_modM q.pos A) m)) h⟩
end K01

namespace K01
open PySem PySem.Spec L2 DL
open PyProof.Rows hiding St
variable {p : Int} {t m w : Nat} {A B C : Mx} {rx : D → Prop} {DD : DEnds} {s8 s12 s17 s18 s19 s21 s22 s23 s24 : Option Sl}
abbrev tZ (p : Int) (t w : Nat) : D := tb p t w (modM p (zeroM t w))
theorem pq_17 (q : PQ p t m w A B C) (h : DD.nx (eS p t m w A B C s8 s12 s17 s18 s19 (some (.sh (tZ p (m + 1) 1))) s22 s23 s24)) : pq17 rx DD (eS p t m w A B C s8 s12 s17 s18 s19 s21 s22 s23 s24) := by
  have hm := q.hm
  refine ⟨(by decide : 1 ≤ sizeLine), (by decide : 1 ≤ sizeLine), ⟨by omega, by omega, Nat.le_trans (show 1 * (((m : Int) + 1).toNat) ≤ 60 by omega) (by decide)⟩, rfl, ?_⟩
  have e1 : (m : Int) + 1 = ((m + 1 : Nat) : Int) := by omega
  have e2 : (List.replicate ((m : Int) + 1).toNat [D.lst [D.int 0]]).flatten = (zeroM (m + 1) 1).map LI := by
    rw [e1, Int.toNat_natCast]
    exact zero_flat (m + 1) 1
  show wi_Table [.int p, .int ((m : Int) + 1), .int 1, .lst (List.replicate ((m : Int) + 1).toNat [D.lst [D.int 0]]).flatten] _ _
  rw [e2, e1]
  exact mk_Table (t := m + 1) (w := 1) q.hp (by omega) (by decide) (.inl rfl) (.inl rfl) (sh_zero _ _) h
theorem pq_18 (q : PQ p t m w A B C) (h : DD.nx (eS p t m w A B C s8 s12 s17 s18 s19 (some (.sh (tZ p (m + 1) 1))) s22 s23 s24)) : pq18 rx DD (eS p t m w A B C s8 s12 s17 s18 s19 (some (.sh (tZ p (m + 1) 1))) s22 s23 s24) := by
  refine m_is_bad (fun P' RX e => ⟨rfl, x_times_sz (by omega) e⟩) ?_
  exact h
theorem pq_19 (q : PQ p t m w A B C) (h : ∀ o, o ∈ PL → p ≠ o → DD.nx (eS p t m w A B C s8 s12 s17 s18 s19 s21 (d9 o t m A) s23 s24)) : pq19 rx DD (eS p t m w A B C s8 s12 s17 s18 s19 s21 s22 s23 s24) := by
  have ht := q.ht
  have hm := q.hm
  refine ⟨_, _, rfl, rfl, rfl, rfl, ?_⟩
  rw [eqv_int]
  by_cases c : p = 5
  · rw [decide_eq_true c]
    exact ⟨rfl, mk_Table (m := A) (p := 7) (by decide) (by omega) (by omega) (.inl rfl) (.inl rfl) q.sA (h 7 (by decide) (by rw [c]; decide))⟩
  · rw [decide_eq_false c]
    exact ⟨rfl, mk_Table (m := A) (p := 5) (by decide) (by omega) (by omega) (.inl rfl) (.inl rfl) q.sA (h 5 (by decide) c)⟩
theorem pq_20 (q : PQ p t m w A B C) (h : DD.nx (eS p t m w A B C s8 s12 s17 s18 s19 s21 s22 (some (.sh (tZ p (t + 1) m))) s24)) : pq20 rx DD (eS p t m w A B C s8 s12 s17 s18 s19 s21 s22 s23 s24) := by
  have ht := q.ht
  have hm := q.hm
  refine ⟨(by decide : 1 ≤ sizeLine), ⟨by omega, by omega, Nat.le_trans (show 1 * ((m : Int).toNat) ≤ 60 by omega) (by decide)⟩, (by decide : 1 ≤ sizeLine), ⟨by omega, by omega, Nat.le_trans (show 1 * (((t : Int) + 1).toNat) ≤ 60 by omega) (by decide)⟩, rfl, ?_⟩
  have e1 : (t : Int) + 1 = ((t + 1 : Nat) : Int) := by omega
  have e2 : (List.replicate ((t : Int) + 1).toNat [D.lst (List.replicate (m : Int).toNat [D.int 0]).flatten]).flatten = (zeroM (t + 1) m).map LI := by
    rw [e1, Int.toNat_natCast, Int.toNat_natCast, rep0]
    exact zero_flat (t + 1) m
  show wi_Table [.int p, .int ((t : Int) + 1), .int (m : Int), .lst (List.replicate ((t : Int) + 1).toNat [D.lst (List.replicate (m : Int).toNat [D.int 0]).flatten]).flatten] _ _
  rw [e2, e1]
  exact mk_Table (t := t + 1) (w := m) q.hp (by omega) (by omega) (.inl rfl) (.inl rfl) (sh_zero _ _) h
theorem x_plus_p {p o : Int} {t w t' w' : Nat} {A B : Mx} (ne : p ≠ o) {P E : D → Prop} (h : E badT) : dBody N_plus.length t_plus [tb p t w A, tb o t' w' B] P E := ⟨rfl, x_same_p ne h⟩
theorem x_plus_t {p : Int} {t w t' w' : Nat} {A B : Mx} (ne : t ≠ t') {P E : D → Prop} (h : E badT) : dBody N_plus.length t_plus [tb p t w A, tb p t' w' B] P E := ⟨rfl, x_same_t ne h⟩
theorem x_minus_p {p o : Int} {t w t' w' : Nat} {A B : Mx} (ne : p ≠ o) {P E : D → Prop} (h : E badT) : dBody N_minus.length t_minus [tb p t w A, tb o t' w' B] P E := ⟨rfl, x_same_p ne h⟩
theorem x_minus_t {p : Int} {t w t' w' : Nat} {A B : Mx} (ne : t ≠ t') {P E : D → Prop} (h : E badT) : dBody N_minus.length t_minus [tb p t w A, tb p t' w' B] P E := ⟨rfl, x_same_t ne h⟩
theorem pq_21 {o : Int} (q : PQ p t m w A B C) (ne : p ≠ o) (h : ∀ s24, DD.nx (eS p t m w A B C s8 s12 s17 s18 s19 s21 (d9 o t m A) (some (.sh (tZ p (t + 1) m))) s24)) : pq21 rx DD (eS p t m w A B C s8 s12 s17 s18 s19 s21 (d9 o t m A) (some (.sh (tZ p (t + 1) m))) s24) := by
  refine ⟨(by decide : 2 ≤ sizeLine), ?_⟩
  refine m_is_bad (fun P' RX e => ⟨_, rfl, rfl, x_plus_p ne e⟩) ?_
  refine m_is_bad (fun P' RX e => ⟨_, rfl, rfl, x_plus_t (by omega) e⟩) ?_
  refine m_is_bad (fun P' RX e => ⟨_, rfl, rfl, x_minus_p ne e⟩) ?_
  refine m_is_bad (fun P' RX e => ⟨_, rfl, rfl, x_minus_t (by omega) e⟩) ?_
  exact h _
theorem shaped_bl (b : Bool) : SeqAt.shaped (.bool b) = true := rfl
theorem pq_22 {o : Int} (q : PQ p t m w A B C) (ne : p ≠ o) (h : DD.rt (.bl true)) : pq22 rx DD (eS p t m w A B C s8 s12 s17 s18 s19 s21 (d9 o t m A) s23 s24) := by
  have ht := q.ht
  have hm := q.hm
  refine ⟨_, rfl, ⟨_, rfl, .inl rfl⟩, m_eqT ⟨_, rfl, ?_⟩⟩
  rw [decide_eq_false (show ¬ (p = o ∧ t = t ∧ m = m ∧ modM p A = modM o A) from fun z => ne z.1)]
  refine ⟨_, rfl, ⟨_, rfl, .inl rfl⟩, m_eqT ⟨_, rfl, ?_⟩⟩
  refine ⟨rfl, m_rests q.hp (by omega) (by omega) q.sA ⟨rfl, m_rests q.hp (by omega) (by omega) q.sC ?_⟩⟩
  refine ⟨_, _, pd_LL _, pd_LL _, shaped_lM _, shaped_lM _, ?_⟩
  rw [eqv_lM]
  refine ⟨_, _, rfl, rfl, rfl, rfl, ?_⟩
  rw [show (decide (p = p ∧ t = t ∧ m = m ∧ modM p A = modM p C) ^^ false) = decide (modM p A = modM p C) from by simp]
  rw [show PyData.eqv (.bool (decide (modM p A = modM p C))) (.bool (decide (modM p A = modM p C))) = true from by cases decide (modM p A = modM p C) <;> simp [PyData.eqv]]
  exact h
theorem m_products {P E : D → Prop} (hp : p ∈ PL) (h : P (.bl true)) : dBody N__law_products_right.length t__law_products_right [.drw, .int p] P E := by
  show t__law_products_right E { nx := fun _ => P .non, rt := P } [some (.sh .drw), some (.sh (.int p)), none, none, none, none, none, none, none, none, none, none, none, none, none, none, none, none, none, none, none, none, none, none, none]
  unfold t__law_products_right
  refine pq_1 hp fun t m w A B C q => ?_
  refine pq_4 q ?_
  refine seqQ (pq_8 q ?_)
  refine seqQ (pq_9 q ?_)
  refine seqQ (pq_10 q ?_)
  refine seqQ (pq_11 q fun s12 => ?_)
  refine seqQ (pq_12 q fun s17 => ?_)
  refine seqQ (pq_13 q fun n hn => ?_)
  refine seqQ (pq_14 q hn ?_)
  refine seqQ (pq_15 q hn fun s19 => ?_)
  refine seqQ (pq_16 q ?_)
  refine seqQ (pq_17 q ?_)
  refine seqQ (pq_18 q ?_)
  refine seqQ (pq_19 q fun o ho ne => ?_)
  refine seqQ (pq_20 q ?_)
  refine seqQ (pq_21 q ne fun s24 => ?_)
  exact pq_22 q ne h
end K01

namespace K01
open PySem PySem.Spec L2 DL
open PyProof.Rows hiding St
/-! ### lists_right: mathematics -/
theorem cel_app_lt {a b : List Int} {k : Nat} (h : k < a.length) : cel (a ++ b) k = cel a k := by unfold cel; rw [List.getElem?_append_left h]
theorem cel_app_ge {a b : List Int} {k : Nat} : cel (a ++ b) (a.length + k) = cel b k := by unfold cel; rw [List.getElem?_append_right (by omega), Nat.add_sub_cancel_left]
theorem rows_range {t w : Nat} {m : Mx} (sh : Sh t w m) : (List.range t).map (rwo m) = m := by
  refine List.ext_getElem (by simp [sh.tall]) fun i h1 h2 => ?_
  rw [List.getElem_map, List.getElem_range, rwo_lt h2]
theorem turn_split (A : Mx) (a b : Nat) : turnM A (a + b) = turnM A a ++ (List.range b).map fun k => A.map fun r => cel r (a + k) := by
  unfold turnM
  rw [List.range_add, List.map_append, List.map_map]; rfl
theorem turn_bes {s : Nat} : ∀ L : List T3, (∀ y ∈ L, Sh y.t y.w y.m ∧ y.t = s) → overM (L.map fun y => ⟨y.w, y.t, turnM y.m y.w⟩) = turnM (besM L s) (wN L)
  | [], _ => rfl
  | x :: L, h => by
    obtain ⟨sx, ex⟩ := h x List.mem_cons_self
    have ih := turn_bes L fun y hy => h y (List.mem_cons_of_mem _ hy)
    rw [List.map_cons, overM_cons, ih, wN_cons, turn_split]
    have rl : ∀ i, i < s → (rwo x.m i).length = x.w := fun i hi => len_rwo sx (by omega)
    congr 1
    · show turnM x.m x.w = turnM (besM (x :: L) s) x.w
      unfold turnM
      refine List.map_congr_left fun k hk => ?_
      have hk := List.mem_range.mp hk
      unfold besM
      rw [List.map_map]
      have e : x.m.map (fun r => cel r k) = (List.range s).map fun i => cel (rwo x.m i) k := by
        rw [← ex]
        conv => lhs; rw [← rows_range sx]
        rw [List.map_map]; rfl
      rw [e]
      refine List.map_congr_left fun i hi => ?_
      have hi := List.mem_range.mp hi
      show cel (rwo x.m i) k = cel (rwo x.m i ++ besR L i) k
      rw [cel_app_lt (by rw [rl i hi]; exact hk)]
    · unfold turnM
      refine List.map_congr_left fun k _ => ?_
      unfold besM
      rw [List.map_map, List.map_map]
      refine List.map_congr_left fun i hi => ?_
      have hi := List.mem_range.mp hi
      show cel (besR L i) k = cel (rwo x.m i ++ besR L i) (x.w + k)
      rw [← rl i hi, cel_app_ge]
theorem tN_same {s : Nat} : ∀ L : List T3, (∀ y ∈ L, y.t = s) → tN L = s * L.length
  | [], _ => rfl
  | x :: L, h => by rw [tN_cons, tN_same L fun y hy => h y (List.mem_cons_of_mem _ hy), h x List.mem_cons_self, List.length_cons, Nat.mul_succ]; omega
theorem wN_le {b : Nat} : ∀ L : List T3, (∀ y ∈ L, y.w ≤ b) → wN L ≤ b * L.length
  | [], _ => Nat.zero_le _
  | x :: L, h => by
    have := wN_le L fun y hy => h y (List.mem_cons_of_mem _ hy)
    have := h x List.mem_cons_self
    rw [wN_cons, List.length_cons, Nat.mul_succ]; omega
/-- item by item -/
inductive Al2 {α : Type} (R : α → D → Prop) : List α → List D → Prop
  | nil : Al2 R [] []
  | cons {a : α} {d : D} {l : List α} {ds : List D} : R a d → Al2 R l ds → Al2 R (a :: l) (d :: ds)
theorem q_compA {α : Type} {it : α → D} {tg : TDG} {tt : TDB} {te : TDX} {vs : List Nat} {P : List D → DL.Env → Prop} {R : α → D → Prop} {δ0 : DL.Env} : ∀ (l : List α) (acc : List D), acc.length + l.length < 16777216 →
    (∀ a ∈ l, ∀ Q : Option D → DL.Env → Prop, (∀ d, R a d → Q (some d) δ0) → stepQ tg tt te vs (it a) δ0 Q) → (∀ ds : List D, Al2 R l ds → P (acc ++ ds) δ0) → dCompL tg tt te vs P (l.map it) acc δ0
  | [], acc, _, _, h => by
    show P acc δ0
    simpa using h [] .nil
  | a :: l, acc, hl, hs, h => by
    rw [List.length_cons] at hl
    refine hs a List.mem_cons_self (fun o δ => match o with
      | some y => acc.length < sizeLine ∧ dCompL tg tt te vs P (l.map it) (acc ++ [y]) δ
      | none => dCompL tg tt te vs P (l.map it) acc δ) fun d hd => ?_
    refine ⟨Nat.lt_of_lt_of_le (show acc.length < 16777216 by omega) (by decide), q_compA l (acc ++ [d]) (by rw [List.length_append]; simp; omega) (fun b hb => hs b (List.mem_cons_of_mem _ hb)) fun ds hr => ?_⟩
    rw [List.append_assoc]
    exact h (d :: ds) (.cons hd hr)
theorem t3_of {s : Nat} {ws : List Int} {ds : List D} (h : Al2 (fun (x : Int) d => 0 ≤ x ∧ x ≤ 5 ∧ ∃ S : Mx, d = LL S ∧ Sh s x.toNat S ∧ SmM S) ws ds) : ∃ L : List T3, ws = L.map (fun y => (y.w : Int)) ∧ ds = L.map (fun y => LL y.m) ∧ ∀ y ∈ L, y.t = s ∧ y.w ≤ 5 ∧ Sh y.t y.w y.m ∧ SmM y.m := by
  induction h with
  | nil => exact ⟨[], rfl, rfl, nofun⟩
  | @cons x d l ds h _ ih =>
    obtain ⟨L, e1, e2, hL⟩ := ih
    obtain ⟨h0, h5, S, rfl, sh, sm⟩ := h
    refine ⟨⟨s, x.toNat, S⟩ :: L, ?_, ?_, fun y hy => ?_⟩
    · rw [List.map_cons, ← e1]
      show x :: l = ((x.toNat : Nat) : Int) :: l
      rw [Int.toNat_of_nonneg h0]
    · rw [List.map_cons, ← e2]
    · rcases List.mem_cons.mp hy with rfl | hy
      · exact ⟨rfl, by show x.toNat ≤ 5; omega, sh, sm⟩
      · exact hL y hy
theorem zipD_T3 : ∀ L : List T3, DL.zipD (L.map fun y => D.int (y.w : Int)) (L.map fun y => LL y.m) = L.map fun y => .tup [.int (y.w : Int), LL y.m]
  | [] => by simp [DL.zipD]
  | x :: L => by rw [List.map_cons, List.map_cons, DL.zipD, zipD_T3 L]; rfl
/-- what lists_right draws -/
structure LQ (p : Int) (s : Nat) (L : List T3) : Prop where
  hp : p ∈ PL
  hs : s ≤ 5
  len : L.length ≤ 3
  ok : ∀ y ∈ L, y.t = s ∧ y.w ≤ 5 ∧ Sh y.t y.w y.m ∧ SmM y.m
theorem LQ.pos {p : Int} {s : Nat} {L : List T3} (q : LQ p s L) : 0 < p := by have := pl_pos q.hp; omega
theorem LQ.wle {p : Int} {s : Nat} {L : List T3} (q : LQ p s L) : wN L ≤ 15 := by
  have := wN_le (b := 5) L fun y hy => (q.ok y hy).2.1
  have := q.len
  omega
theorem LQ.shs {p : Int} {s : Nat} {L : List T3} (q : LQ p s L) : ∀ y ∈ L, Sh y.t y.w y.m ∧ y.t = s := fun y hy => ⟨(q.ok y hy).2.2.1, (q.ok y hy).1⟩
abbrev wsD (L : List T3) : D := .lst (L.map fun y => D.int (y.w : Int))
abbrev lsD (L : List T3) : D := .lst (L.map fun y => LL y.m)
abbrev tbs (p : Int) (L : List T3) : List D := (L.map (modT p)).map (it3 p)
abbrev eH (p : Int) (s : Nat) (s3 s5 s6 s7 s8 s9 s10 s11 s12 s13 s15 s16 s17 s18 : Option Sl) : DL.Env := [some (.sh .drw), some (.sh (.int p)), some (.sh (.int (s : Int))), s3, none, s5, s6, s7, s8, s9, s10, s11, s12, s13, none, s15, s16, s17, s18]
end K01

namespace K01
open PySem PySem.Spec L2 DL
open PyProof.Rows hiding St
/-! ### lists_right, statement by statement -/
variable {p : Int} {s : Nat} {L : List T3} {rx : D → Prop} {DD : DEnds} {s3 s5 s6 s7 s8 s9 s10 s11 s12 s13 s15 s16 s17 s18 : Option Sl}
theorem lq_1 {R : TDS} (hp : p ∈ PL) (h : ∀ s L, LQ p s L → L ≠ [] → R rx DD (eH p s (some (.sh (wsD L))) (some (.ol (L.map fun y => LL y.m))) none none none none none none none none none none none none)) :
    dSeq lq1 (dSeq lq2 R) rx DD [some (.sh .drw), some (.sh (.int p)), none, none, none, none, none, none, none, none, none, none, none, none, none, none, none, none, none] := by
  refine ⟨rfl, m_size fun s hs => ⟨rfl, p_take (by decide) (by decide) fun y y0 y1 => ⟨⟨by omega, by omega⟩, ?_⟩⟩⟩
  obtain ⟨n, rfl⟩ := Int.eq_ofNat_of_zero_le y0
  have er : rangeD 0 (1 + (n : Int)) = (List.range (n + 1)).map fun (i : Nat) => D.int (i : Int) := by
    rw [show 1 + (n : Int) = ((n + 1 : Nat) : Int) by omega, rangeN]
  show dCompL _ _ _ _ _ (rangeD 0 (1 + (n : Int))) [] _
  rw [er]
  refine q_compR (it := fun (i : Nat) => D.int (i : Int)) (R := fun d => ∃ x, d = .int x ∧ (0 ≤ x ∧ x ≤ 5)) (δ0 := [some (.sh .drw), some (.sh (.int p)), none, none, none, none, none, none, none, none, none, none, none, none, none, none, none, none, none]) (List.range (n + 1)) [] (by rw [List.length_range]; simp; omega) (fun i hi Q hQ => ⟨rfl, m_size fun k hk => hQ _ ⟨(k : Int), rfl, by omega, by omega⟩⟩) fun ds hd hr => ?_
  obtain ⟨ws, rfl, hw⟩ := ints_of ds hr
  rw [List.length_map, List.length_range] at hd
  refine ⟨(by decide : 2 ≤ sizeLine), rfl, ?_⟩
  refine q_compA (it := D.int) (R := fun (x : Int) d => 0 ≤ x ∧ x ≤ 5 ∧ ∃ S : Mx, d = LL S ∧ Sh s x.toNat S ∧ SmM S) (δ0 := [some (.sh .drw), some (.sh (.int p)), some (.sh (.int (s : Int))), some (.sh (LI ws)), none, none, none, none, none, none, none, none, none, none, none, none, none, none, none]) ws [] (by simp; omega) (fun x hx Q hQ => ?_) fun ds hA => ?_
  · obtain ⟨x0, x5⟩ := hw x hx
    obtain ⟨k, rfl⟩ := Int.eq_ofNat_of_zero_le x0
    exact ⟨rfl, m_wild hp (by omega) (by omega) fun S sS bS => hQ _ ⟨by omega, x5, S, rfl, sS, bS⟩⟩
  · obtain ⟨L, e1, e2, hL⟩ := t3_of hA
    subst e1 e2
    rw [List.length_map] at hd
    have := h s L ⟨hp, hs, by omega, hL⟩ (fun z => by rw [z] at hd; simp at hd)
    rw [show LI (L.map fun y => (y.w : Int)) = wsD L from by show D.lst ((L.map fun y => (y.w : Int)).map D.int) = _; rw [List.map_map]; rfl]
    exact this
theorem tbs_eq (q : LQ p s L) : L.map (fun y => tb p s y.w (modM p y.m)) = tbs p L := by
  unfold tbs
  rw [List.map_map]
  refine List.map_congr_left fun y hy => ?_
  show tb p s y.w (modM p y.m) = tb p y.t y.w (modM p y.m)
  rw [(q.ok y hy).1]
theorem lq_3 (q : LQ p s L) (h : DD.nx (eH p s (some (.sh (wsD L))) (some (.sh (lsD L))) none (some (.ol (tbs p L))) none s9 s10 s11 s12 s13 s15 s16 s17 s18)) : lq3 rx DD (eH p s (some (.sh (wsD L))) (some (.ol (L.map fun y => LL y.m))) none s7 none s9 s10 s11 s12 s13 s15 s16 s17 s18) := by
  have hl := q.len
  have hs := q.hs
  show dCompL _ _ _ _ _ (DL.zipD (L.map fun y => D.int (y.w : Int)) (L.map fun y => LL y.m)) [] _
  rw [zipD_T3]
  refine q_compM (it := fun y : T3 => D.tup [.int (y.w : Int), LL y.m]) (f := fun y => tb p s y.w (modM p y.m)) (δ0 := eH p s (some (.sh (wsD L))) (some (.sh (lsD L))) none s7 none s9 s10 s11 s12 s13 s15 s16 s17 s18) L (by omega) (fun y hy Q hQ => ?_) ?_
  · obtain ⟨e, w5, sh, sm⟩ := q.ok y hy
    rw [e] at sh
    exact ⟨rfl, rfl, mk_Table (m := y.m) q.hp (by omega) (by omega) (.inl rfl) (.inl rfl) sh hQ⟩
  · rw [tbs_eq q]
    exact h
theorem lq_4 (q : LQ p s L) (hne : L ≠ []) (h : DD.nx (eH p s s3 (some (.sh (lsD L))) s6 s7 none (some (.ol ((besM L s).map LI))) s10 s11 s12 s13 s15 s16 s17 s18)) : lq4 rx DD (eH p s s3 (some (.sh (lsD L))) s6 s7 none s9 s10 s11 s12 s13 s15 s16 s17 s18) := by
  have hl := q.len
  have hs := q.hs
  have hw := q.wle
  refine ⟨⟨by omega, by omega⟩, ?_⟩
  rw [rangeN]
  refine q_compM (it := fun (i : Nat) => D.int (i : Int)) (f := fun k => LI (besR L k)) (δ0 := eH p s s3 (some (.sh (lsD L))) s6 s7 none s9 s10 s11 s12 s13 s15 s16 s17 s18) (List.range s) (by rw [List.length_range]; omega) (fun k hk Q hQ => ?_) ?_
  · have ks := List.mem_range.mp hk
    have lb := len_besR (k := k) L fun y hy => ⟨(q.shs y hy).1, by rw [(q.shs y hy).2]; exact ks⟩
    refine q_compM (it := fun y : T3 => LL y.m) (f := fun y => LI (rwo y.m k)) (δ0 := [some (.sh .drw), some (.sh (.int p)), some (.sh (.int (s : Int))), s3, some (.sh (.int (k : Int))), some (.sh (lsD L)), s6, s7, none, s9, s10, s11, s12, s13, none, s15, s16, s17, s18]) L (by omega) (fun y hy Q hQ => ⟨_, ?_, hQ⟩) ?_
    · obtain ⟨sh, et⟩ := q.shs y hy
      rw [atI_nat (by rw [List.length_map, sh.tall]; omega), List.getElem_map, rwo_lt]
    · have e : ([] ++ (L.map fun y => (rwo y.m k).map D.int).flatten) = (besR L k).map D.int := by
        rw [List.nil_append]
        unfold besR
        rw [List.map_flatten, List.map_map]; rfl
      refine ⟨Nat.zero_le _, L.map (fun y => (rwo y.m k).map D.int), by rw [List.map_map]; rfl, ?_, ?_, ?_⟩
      · rw [List.length_map]
        exact List.length_pos_iff.mpr hne
      · rw [e, List.length_map, lb]
        exact Nat.le_trans (show wN L ≤ 60 by omega) (by decide)
      · rw [e]
        exact hQ
  · rw [show (List.range s).map (fun k => LI (besR L k)) = (besM L s).map LI from by unfold besM; rw [List.map_map]; rfl]
    exact h
theorem sum_ws (L : List T3) : asInts (L.map fun y => D.int (y.w : Int)) = some (L.map fun y => (y.w : Int)) := asI_map (fun y : T3 => (y.w : Int)) L
theorem lq_5 {x : T3} {Ts : List T3} (q : LQ p s (x :: Ts)) (h : DD.nx (eH p s (some (.sh (wsD (x :: Ts)))) s5 s6 (some (.sh (.lst (tbs p (x :: Ts))))) s8 (some (.sh (LL (besM (x :: Ts) s)))) s10 s11 s12 s13 s15 s16 s17 s18)) : lq5 rx DD (eH p s (some (.sh (wsD (x :: Ts)))) s5 s6 (some (.ol (tbs p (x :: Ts)))) s8 (some (.ol ((besM (x :: Ts) s).map LI))) s10 s11 s12 s13 s15 s16 s17 s18) := by
  have hl := q.len
  have hs := q.hs
  have hw := q.wle
  have ex : x.t = s := (q.ok x List.mem_cons_self).1
  have wm := wN_mod p (x :: Ts)
  refine ⟨rfl, rfl, rfl, m_beside (x := modT p x) (Ts := Ts.map (modT p)) q.hp (fun y hy => ?_) (by simp at hl ⊢; omega) (by rw [← List.map_cons, wm]; omega) ?_⟩
  · rw [← List.map_cons] at hy
    obtain ⟨z, hz, rfl⟩ := List.mem_map.mp hy
    obtain ⟨e, w5, sh, sm⟩ := q.ok z hz
    exact ⟨⟨sh_modM sh, by show z.t ≤ 60; omega, by show z.w ≤ 60; omega⟩, by show z.t = x.t; omega⟩
  · rw [← List.map_cons, wm]
    refine ⟨_, sum_ws (x :: Ts), ?_⟩
    rw [wN_int, show (modT p x).t = s from ex]
    refine ⟨rfl, m_shows (S := besM (x :: Ts) s) q.hp (by omega) (by omega) (.inl rfl) rfl (sh_besM q.shs) (cm_eq (cm_besM q.pos (x :: Ts) s)) h⟩
end K01

namespace K01
open PySem PySem.Spec L2 DL
open PyProof.Rows hiding St
/-! ### lists_right: columns, over -/
variable {p : Int} {s : Nat} {L : List T3} {rx : D → Prop} {DD : DEnds} {s3 s5 s6 s7 s8 s9 s10 s11 s12 s13 s15 s16 s17 s18 : Option Sl}
abbrev cT (y : T3) : T3 := ⟨y.w, y.t, turnM y.m y.w⟩
abbrev cls (p : Int) (L : List T3) : List D := ((L.map cT).map (modT p)).map (it3 p)
theorem cls_eq (q : LQ p s L) : L.map (fun y => tb p y.w s (modM p (turnM y.m y.w))) = cls p L := by
  unfold cls
  rw [List.map_map, List.map_map]
  refine List.map_congr_left fun y hy => ?_
  show tb p y.w s _ = tb p y.w y.t _
  rw [(q.ok y hy).1]; rfl
theorem lq_6 (q : LQ p s L) (h : DD.nx (eH p s (some (.sh (wsD L))) (some (.sh (lsD L))) none s7 none s9 (some (.ol (cls p L))) s11 s12 s13 s15 s16 s17 s18)) : lq6 rx DD (eH p s (some (.sh (wsD L))) (some (.sh (lsD L))) none s7 none s9 s10 s11 s12 s13 s15 s16 s17 s18) := by
  have hl := q.len
  have hs := q.hs
  show dCompL _ _ _ _ _ (DL.zipD (L.map fun y => D.int (y.w : Int)) (L.map fun y => LL y.m)) [] _
  rw [zipD_T3]
  refine q_compM (it := fun y : T3 => D.tup [.int (y.w : Int), LL y.m]) (f := fun y => tb p y.w s (modM p (turnM y.m y.w))) (δ0 := eH p s (some (.sh (wsD L))) (some (.sh (lsD L))) none s7 none s9 s10 s11 s12 s13 s15 s16 s17 s18) L (by omega) (fun y hy Q hQ => ?_) ?_
  · obtain ⟨e, w5, sh, sm⟩ := q.ok y hy
    rw [e] at sh
    exact ⟨rfl, rfl, m_turned (A := y.m) (t := s) (by omega) (by omega) sh ⟨rfl, mk_Table (m := turnM y.m y.w) q.hp (by omega) (by omega) (.inl rfl) (.inl rfl) (sh_turn sh _) hQ⟩⟩
  · rw [cls_eq q]
    exact h
theorem tN_cT : ∀ L : List T3, tN (L.map cT) = wN L
  | [] => rfl
  | x :: L => by rw [List.map_cons, tN_cons, tN_cT L, wN_cons]
theorem lq_7 {x : T3} {Ts : List T3} (q : LQ p s (x :: Ts)) (h : DD.nx (eH p s (some (.sh (wsD (x :: Ts)))) s5 s6 s7 s8 (some (.sh (LL (besM (x :: Ts) s)))) (some (.sh (.lst (cls p (x :: Ts))))) s11 s12 s13 s15 s16 s17 s18)) : lq7 rx DD (eH p s (some (.sh (wsD (x :: Ts)))) s5 s6 s7 s8 (some (.sh (LL (besM (x :: Ts) s)))) (some (.ol (cls p (x :: Ts)))) s11 s12 s13 s15 s16 s17 s18) := by
  have hl := q.len
  have hs := q.hs
  have hw := q.wle
  have ex : x.t = s := (q.ok x List.mem_cons_self).1
  have tm : tN (modT p (cT x) :: (Ts.map cT).map (modT p)) = wN (x :: Ts) := by
    show tN (((x :: Ts).map cT).map (modT p)) = _
    rw [tN_mod, tN_cT]
  refine ⟨rfl, rfl, rfl, m_over (x := modT p (cT x)) (Ts := (Ts.map cT).map (modT p)) q.hp (fun y hy => ?_) (by simp at hl ⊢; omega) (by rw [tm]; omega) ?_⟩
  · have hy : y ∈ ((x :: Ts).map cT).map (modT p) := hy
    obtain ⟨z, hz, rfl⟩ := List.mem_map.mp hy
    obtain ⟨u, hu, rfl⟩ := List.mem_map.mp hz
    obtain ⟨e, w5, sh, sm⟩ := q.ok u hu
    exact ⟨⟨sh_modM (sh_turn sh _), by show u.w ≤ 60; omega, by show u.t ≤ 60; omega⟩, by show u.t = x.t; omega⟩
  · rw [tm]
    refine ⟨_, sum_ws (x :: Ts), ?_⟩
    rw [wN_int, show (modT p (cT x)).w = s from ex]
    refine ⟨_, sum_ws (x :: Ts), ?_⟩
    rw [wN_int]
    refine ⟨rfl, m_turned (A := besM (x :: Ts) s) (t := s) (by omega) (by omega) (sh_besM q.shs) ?_⟩
    refine ⟨rfl, m_shows (S := turnM (besM (x :: Ts) s) (wN (x :: Ts))) q.hp (by omega) (by omega) (.inl rfl) rfl (sh_turn (sh_besM q.shs) _) ?_ h⟩
    show modM p (overM (((x :: Ts).map cT).map (modT p))) = _
    rw [cm_eq (cm_overM q.pos ((x :: Ts).map cT)), turn_bes _ q.shs]
theorem lq_8 (h : DD.nx (eH p s s3 s5 s6 s7 s8 s9 s10 (some (.sh (.lst []))) (some (.sh (.int 0))) s13 s15 s16 s17 s18)) : lq8 rx DD (eH p s s3 s5 s6 s7 s8 s9 s10 s11 s12 s13 s15 s16 s17 s18) := by
  exact ⟨Nat.zero_le _, by decide, rfl, h⟩
/-! ### corner -/
abbrev wBack : TDS := (dSet 13 (dFrz (f2 mulG (dLst (dCons (dC (.int 0)) dNil)) (d2 subD (d2 subD (dCB (onL sumL) (dCons (dVar 3) dNil)) (dVar 12)) (dVar 6)))))
abbrev wLine : TDX := (dFrz (f2 addF (dFrz (f2 addF (dFrz (f2 mulG (dLst (dCons (dC (.int 0)) dNil)) (dVar 12))) (dVar 14))) (dVar 13)))
abbrev wFound : TDS := (dSet 11 (dFrz (f2 addF (dVar 11) (dFrz (dComp (dSeqI (dVar 8)) (gN 14) dYes wLine [14])))))
abbrev wAhead : TDS := (dSet 12 (dFrz (f2 addF (dVar 12) (dVar 6))))
example : lq9 = (dFor (dZipB (dCons (dVar 3) (dCons (dVar 5) dNil))) (gT 2 (gsCons (gN 6) (gsCons (gN 8) gsNil))) (dSeq wBack (dSeq wFound wAhead))) := rfl
theorem corM_cons (W : Nat) (x : T3) (L : List T3) (a : Nat) : corM W (x :: L) a = x.m.map (corR W a x.w) ++ corM W L (a + x.w) := rfl
theorem len_corM (W : Nat) : ∀ (L : List T3) (a : Nat), (∀ y ∈ L, Sh y.t y.w y.m) → (corM W L a).length = tN L
  | [], _, _ => rfl
  | x :: L, a, h => by rw [corM_cons, List.length_append, List.length_map, (h x List.mem_cons_self).tall, len_corM W L _ fun y hy => h y (List.mem_cons_of_mem _ hy), tN_cons]
theorem cor_loop {Lw : List T3} {W : Nat} (hW : wN Lw = W) (hW60 : W ≤ 60) : ∀ (L : List T3) (a : Nat) (F : Mx) (s6 s8 s13 : Option Sl), F.length + tN L ≤ 1000 → (∀ y ∈ L, Sh y.t y.w y.m) → a + wN L ≤ W →
    (∀ b s6 s8 s13, DD.nx (eH p s (some (.sh (wsD Lw))) s5 s6 s7 s8 s9 s10 (some (.sh (LL (F ++ corM W L a)))) (some (.sh (.int b))) s13 s15 s16 s17 s18)) →
    dForL (gT 2 (gsCons (gN 6) (gsCons (gN 8) gsNil))) (dSeq wBack (dSeq wFound wAhead)) rx DD (L.map fun y => .tup [.int (y.w : Int), LL y.m]) (eH p s (some (.sh (wsD Lw))) s5 s6 s7 s8 s9 s10 (some (.sh (LL F))) (some (.sh (.int (a : Int)))) s13 s15 s16 s17 s18)
  | [], a, F, s6, s8, s13, _, _, _, h => by
    have := h (a : Int) s6 s8 s13
    rw [show F ++ corM W [] a = F from List.append_nil _] at this
    exact this
  | y :: L, a, F, s6, s8, s13, hF, hs, ha, h => by
    rw [tN_cons] at hF
    rw [wN_cons] at ha
    have sy := hs y List.mem_cons_self
    have e1 : (List.replicate (a : Int).toNat [D.int 0]).flatten = (List.replicate a (0 : Int)).map D.int := by rw [Int.toNat_natCast, rep0]
    have e2 : (List.replicate ((W : Int) - (a : Int) - (y.w : Int)).toNat [D.int 0]).flatten = (List.replicate (W - a - y.w) (0 : Int)).map D.int := by
      rw [show ((W : Int) - (a : Int) - (y.w : Int)).toNat = W - a - y.w by omega, rep0]
    refine ⟨rfl, (by decide : 1 ≤ sizeLine), _, sum_ws Lw, ?_⟩
    rw [wN_int, hW]
    refine ⟨⟨by omega, by omega, Nat.le_trans (show 1 * (((W : Int) - (a : Int) - (y.w : Int)).toNat) ≤ 60 by omega) (by decide)⟩, ?_⟩
    rw [e2]
    refine q_compM (it := LI) (f := fun r => LI (corR W a y.w r)) (δ0 := eH p s (some (.sh (wsD Lw))) s5 (some (.sh (.int (y.w : Int)))) s7 (some (.sh (LL y.m))) s9 s10 (some (.sh (LL F))) (some (.sh (.int (a : Int)))) (some (.sh (LI (List.replicate (W - a - y.w) 0)))) s15 s16 s17 s18) y.m (by rw [sy.tall]; omega) (fun r hr Q hQ => ?_) ?_
    · have lr := sy.wide r hr
      refine ⟨(by decide : 1 ≤ sizeLine), ⟨by omega, by omega, Nat.le_trans (show 1 * ((a : Int).toNat) ≤ 60 by omega) (by decide)⟩, ?_⟩
      rw [e1]
      refine ⟨Nat.le_trans (show _ ≤ 120 by simp; omega) (by decide), Nat.le_trans (show _ ≤ 180 by simp; omega) (by decide), ?_⟩
      rw [show LI (corR W a y.w r) = D.lst ((List.replicate a (0 : Int)).map D.int ++ r.map D.int ++ (List.replicate (W - a - y.w) (0 : Int)).map D.int) from by
        unfold corR
        show D.lst _ = _
        rw [List.map_append, List.map_append]] at hQ
      exact hQ
    · have ih := cor_loop hW hW60 L (a + y.w) (F ++ y.m.map (corR W a y.w)) (some (.sh (.int (y.w : Int)))) (some (.sh (LL y.m))) (some (.sh (LI (List.replicate (W - a - y.w) 0)))) (by rw [List.length_append, List.length_map, sy.tall]; omega) (fun z hz => hs z (List.mem_cons_of_mem _ hz)) (by omega) (fun b s6 s8 s13 => by
        have := h b s6 s8 s13
        rw [corM_cons, ← List.append_assoc] at this
        exact this)
      unfold eH at ih
      rw [show ((a + y.w : Nat) : Int) = (a : Int) + (y.w : Int) by omega] at ih
      refine ⟨Nat.le_trans (show _ ≤ 1000 by simp [sy.tall]; omega) (by decide), ?_⟩
      rw [show LL (F ++ y.m.map (corR W a y.w)) = D.lst (F.map LI ++ y.m.map fun r => LI (corR W a y.w r)) from by
        show D.lst _ = _
        rw [List.map_append, List.map_map]; rfl] at ih
      exact ih
theorem lq_9 (q : LQ p s L) (h : ∀ s6 s8 s12 s13, DD.nx (eH p s (some (.sh (wsD L))) (some (.sh (lsD L))) s6 s7 s8 s9 s10 (some (.sh (LL (corM (wN L) L 0)))) s12 s13 s15 s16 s17 s18)) : lq9 rx DD (eH p s (some (.sh (wsD L))) (some (.sh (lsD L))) s6 s7 s8 s9 s10 (some (.sh (.lst []))) (some (.sh (.int 0))) s13 s15 s16 s17 s18) := by
  have hl := q.len
  have hs := q.hs
  have hw := q.wle
  have ht : tN L ≤ 15 := by
    rw [tN_same L fun y hy => (q.ok y hy).1]
    exact Nat.le_trans (Nat.mul_le_mul hs hl) (by decide)
  show dForL _ _ _ _ (DL.zipD (L.map fun y => D.int (y.w : Int)) (L.map fun y => LL y.m)) _
  rw [zipD_T3]
  exact cor_loop (s5 := some (.sh (lsD L))) rfl (by omega) L 0 [] s6 s8 s13 (by simp; omega) (fun y hy => (q.ok y hy).2.2.1) (by omega) fun b s6 s8 s13 => h _ _ _ _
end K01

namespace K01
open PySem PySem.Spec L2 DL
open PyProof.Rows hiding St
/-! ### lists_right: corner, what is bad -/
variable {p : Int} {s : Nat} {L : List T3} {rx : D → Prop} {DD : DEnds} {s3 s5 s6 s7 s8 s9 s10 s11 s12 s13 s15 s16 s17 s18 : Option Sl}
theorem LQ.tle {p : Int} {s : Nat} {L : List T3} (q : LQ p s L) : tN L = s * L.length ∧ tN L ≤ 15 := by
  have e := tN_same L fun y hy => (q.ok y hy).1
  exact ⟨e, by rw [e]; exact Nat.le_trans (Nat.mul_le_mul q.hs q.len) (by decide)⟩
theorem lq_10 {x : T3} {Ts : List T3} (q : LQ p s (x :: Ts)) (h : DD.nx (eH p s (some (.sh (wsD (x :: Ts)))) s5 s6 (some (.sh (.lst (tbs p (x :: Ts))))) s8 s9 s10 (some (.sh (LL (corM (wN (x :: Ts)) (x :: Ts) 0)))) s12 s13 s15 s16 s17 s18)) : lq10 rx DD (eH p s (some (.sh (wsD (x :: Ts)))) s5 s6 (some (.sh (.lst (tbs p (x :: Ts))))) s8 s9 s10 (some (.sh (LL (corM (wN (x :: Ts)) (x :: Ts) 0)))) s12 s13 s15 s16 s17 s18) := by
  have hl := q.len
  have hs := q.hs
  have hw := q.wle
  obtain ⟨te, tl⟩ := q.tle
  have wm : wN (modT p x :: Ts.map (modT p)) = wN (x :: Ts) := wN_mod p (x :: Ts)
  have tm : tN (modT p x :: Ts.map (modT p)) = tN (x :: Ts) := tN_mod p (x :: Ts)
  refine ⟨rfl, rfl, rfl, m_corner (x := modT p x) (Ts := Ts.map (modT p)) q.hp (fun y hy => ?_) (by simp at hl ⊢; omega) (by rw [tm]; omega) (by rw [wm]; omega) ?_⟩
  · have hy : y ∈ (x :: Ts).map (modT p) := hy
    obtain ⟨z, hz, rfl⟩ := List.mem_map.mp hy
    obtain ⟨e, w5, sh, sm⟩ := q.ok z hz
    exact ⟨sh_modM sh, by show z.t ≤ 60; omega, by show z.w ≤ 60; omega⟩
  · rw [wm, tm]
    refine ⟨mul_small (a := 10) (b := 10) (by omega) (by simp at hl ⊢; omega) (by decide), _, sum_ws (x :: Ts), ?_⟩
    rw [wN_int, List.length_map, show (s : Int) * (((x :: Ts).length : Nat) : Int) = ((tN (x :: Ts) : Nat) : Int) from by rw [te]; exact (Int.natCast_mul ..).symm]
    refine ⟨rfl, m_shows (S := corM (wN (x :: Ts)) (x :: Ts) 0) q.hp (by omega) (by omega) (.inl rfl) rfl (sh_corM (x :: Ts) 0 (fun y hy => (q.ok y hy).2.2.1) (by omega)) (cm_eq (cm_corM q.pos (wN (x :: Ts)) (x :: Ts) 0)) h⟩
abbrev oddT (o : Int) (s : Nat) : D := tb o s 0 (modM o (zeroM s 0))
theorem lq_11 (q : LQ p s L) (h : ∀ o, p ≠ o → DD.nx (eH p s s3 s5 s6 s7 s8 s9 s10 s11 s12 s13 (some (.sh (oddT o s))) s16 s17 s18)) : lq11 rx DD (eH p s s3 s5 s6 s7 s8 s9 s10 s11 s12 s13 s15 s16 s17 s18) := by
  have hs := q.hs
  have e1 : (List.replicate (s : Int).toNat [D.lst []]).flatten = (zeroM s 0).map LI := by
    rw [Int.toNat_natCast]
    exact zero_flat s 0
  refine ⟨_, _, rfl, rfl, rfl, rfl, ?_⟩
  rw [eqv_int]
  by_cases c : p = 5
  · rw [decide_eq_true c]
    refine ⟨Nat.zero_le _, (by decide : 1 ≤ sizeLine), ⟨by omega, by omega, Nat.le_trans (show 1 * ((s : Int).toNat) ≤ 60 by omega) (by decide)⟩, rfl, ?_⟩
    show wi_Table [.int 7, .int (s : Int), .int 0, .lst (List.replicate (s : Int).toNat [D.lst []]).flatten] _ _
    rw [e1]
    exact mk_Table (m := zeroM s 0) (w := 0) (p := 7) (by decide) (by omega) (by omega) (.inl rfl) (.inl rfl) (sh_zero _ _) (h 7 (by rw [c]; decide))
  · rw [decide_eq_false c]
    refine ⟨Nat.zero_le _, (by decide : 1 ≤ sizeLine), ⟨by omega, by omega, Nat.le_trans (show 1 * ((s : Int).toNat) ≤ 60 by omega) (by decide)⟩, rfl, ?_⟩
    show wi_Table [.int 5, .int (s : Int), .int 0, .lst (List.replicate (s : Int).toNat [D.lst []]).flatten] _ _
    rw [e1]
    exact mk_Table (m := zeroM s 0) (w := 0) (p := 5) (by decide) (by omega) (by omega) (.inl rfl) (.inl rfl) (sh_zero _ _) (h 5 c)
abbrev tbB (p : Int) (x : T3) (Ts : List T3) (d : D) : Prop := BadL p (modT p x) (Ts.map (modT p)) d
theorem bad_nil {x : T3} {Ts : List T3} : tbB p x Ts (.lst []) := .inl rfl
theorem bad_non {x : T3} {Ts : List T3} : tbB p x Ts .non := .inr (.inl rfl)
theorem x_need_non {P E : D → Prop} (h : E badT) : dBody N_need_table.length t_need_table [.non] P E := ⟨_, _, _, rfl, rfl, rfl, h⟩
theorem bad_plus {x : T3} {Ts : List T3} : tbB p x Ts (.lst (tbs p (x :: Ts) ++ [.non])) := .inr (.inr ⟨.non, rfl, fun h => ⟨rfl, m_need_table ⟨rfl, x_need_non h⟩⟩⟩)
theorem bad_odd {x : T3} {Ts : List T3} {o : Int} (ne : p ≠ o) : tbB p x Ts (.lst (tbs p (x :: Ts) ++ [oddT o s])) := .inr (.inr ⟨oddT o s, rfl, fun h => x_need_two ne h⟩)
abbrev bdIn : TDS := (dIfS (dNot (dTest (dLam wg__law_is_bad (dCallV held1 1 (dVar 16) (dCons (dVar 17) dNil))))) (dRet (dC (.bl false))) dNext)
abbrev bdF : TDI := (dSeqI (dLst (dCons (dLst dNil) (dCons (dC .non) (dCons (dFrz (f2 addF (dVar 7) (dLst (dCons (dC .non) dNil)))) (dCons (dFrz (f2 addF (dVar 7) (dLst (dCons (dVar 15) dNil)))) dNil))))))
theorem b_beside {x : T3} {Ts : List T3} {d : D} (hd : tbB p x Ts d) (h : DD.nx (eH p s s3 s5 s6 s7 s8 s9 s10 s11 s12 s13 s15 (some (.sh (.glo "beside"))) (some (.sh d)) s18)) : bdIn rx DD (eH p s s3 s5 s6 s7 s8 s9 s10 s11 s12 s13 s15 (some (.sh (.glo "beside"))) (some (.sh d)) s18) := by
  refine m_is_bad (fun P' RX e => ⟨_, rfl, rfl, x_beside hd e⟩) ?_
  exact h
theorem w_beside {x : T3} {Ts : List T3} {o : Int} (q : LQ p s (x :: Ts)) (ne : p ≠ o) (h : ∀ s17, DD.nx (eH p s s3 s5 s6 (some (.sh (.lst (tbs p (x :: Ts))))) s8 s9 s10 s11 s12 s13 (some (.sh (oddT o s))) (some (.sh (.glo "beside"))) s17 s18)) : dFor bdF (gN 17) bdIn rx DD (eH p s s3 s5 s6 (some (.sh (.lst (tbs p (x :: Ts))))) s8 s9 s10 s11 s12 s13 (some (.sh (oddT o s))) (some (.sh (.glo "beside"))) s17 s18) := by
  have hl : (x :: Ts).length ≤ 3 := q.len
  have lt : (tbs p (x :: Ts)).length ≤ 3 := by simp at hl ⊢; omega
  refine ⟨Nat.zero_le _, (by decide : 1 ≤ sizeLine), Nat.le_trans (show _ ≤ 4 by show (tbs p (x :: Ts)).length + 1 ≤ 4; omega) (by decide), (by decide : 1 ≤ sizeLine), Nat.le_trans (show _ ≤ 4 by show (tbs p (x :: Ts)).length + 1 ≤ 4; omega) (by decide), (by decide : 4 ≤ sizeLine), ?_⟩
  refine b_beside (p := p) (x := x) (Ts := Ts) (d := .lst []) bad_nil ?_
  refine b_beside (p := p) (x := x) (Ts := Ts) (d := .non) bad_non ?_
  refine b_beside (p := p) (x := x) (Ts := Ts) (d := .lst (tbs p (x :: Ts) ++ [.non])) bad_plus ?_
  refine b_beside (p := p) (x := x) (Ts := Ts) (d := .lst (tbs p (x :: Ts) ++ [oddT o s])) (bad_odd ne) ?_
  exact h _
theorem b_over {x : T3} {Ts : List T3} {d : D} (hd : tbB p x Ts d) (h : DD.nx (eH p s s3 s5 s6 s7 s8 s9 s10 s11 s12 s13 s15 (some (.sh (.glo "over"))) (some (.sh d)) s18)) : bdIn rx DD (eH p s s3 s5 s6 s7 s8 s9 s10 s11 s12 s13 s15 (some (.sh (.glo "over"))) (some (.sh d)) s18) := by
  refine m_is_bad (fun P' RX e => ⟨_, rfl, rfl, x_over hd e⟩) ?_
  exact h
theorem w_over {x : T3} {Ts : List T3} {o : Int} (q : LQ p s (x :: Ts)) (ne : p ≠ o) (h : ∀ s17, DD.nx (eH p s s3 s5 s6 (some (.sh (.lst (tbs p (x :: Ts))))) s8 s9 s10 s11 s12 s13 (some (.sh (oddT o s))) (some (.sh (.glo "over"))) s17 s18)) : dFor bdF (gN 17) bdIn rx DD (eH p s s3 s5 s6 (some (.sh (.lst (tbs p (x :: Ts))))) s8 s9 s10 s11 s12 s13 (some (.sh (oddT o s))) (some (.sh (.glo "over"))) s17 s18) := by
  have hl : (x :: Ts).length ≤ 3 := q.len
  have lt : (tbs p (x :: Ts)).length ≤ 3 := by simp at hl ⊢; omega
  refine ⟨Nat.zero_le _, (by decide : 1 ≤ sizeLine), Nat.le_trans (show _ ≤ 4 by show (tbs p (x :: Ts)).length + 1 ≤ 4; omega) (by decide), (by decide : 1 ≤ sizeLine), Nat.le_trans (show _ ≤ 4 by show (tbs p (x :: Ts)).length + 1 ≤ 4; omega) (by decide), (by decide : 4 ≤ sizeLine), ?_⟩
  refine b_over (p := p) (x := x) (Ts := Ts) (d := .lst []) bad_nil ?_
  refine b_over (p := p) (x := x) (Ts := Ts) (d := .non) bad_non ?_
  refine b_over (p := p) (x := x) (Ts := Ts) (d := .lst (tbs p (x :: Ts) ++ [.non])) bad_plus ?_
  refine b_over (p := p) (x := x) (Ts := Ts) (d := .lst (tbs p (x :: Ts) ++ [oddT o s])) (bad_odd ne) ?_
  exact h _
theorem b_corner {x : T3} {Ts : List T3} {d : D} (hd : tbB p x Ts d) (h : DD.nx (eH p s s3 s5 s6 s7 s8 s9 s10 s11 s12 s13 s15 (some (.sh (.glo "corner"))) (some (.sh d)) s18)) : bdIn rx DD (eH p s s3 s5 s6 s7 s8 s9 s10 s11 s12 s13 s15 (some (.sh (.glo "corner"))) (some (.sh d)) s18) := by
  refine m_is_bad (fun P' RX e => ⟨_, rfl, rfl, x_corner hd e⟩) ?_
  exact h
theorem w_corner {x : T3} {Ts : List T3} {o : Int} (q : LQ p s (x :: Ts)) (ne : p ≠ o) (h : ∀ s17, DD.nx (eH p s s3 s5 s6 (some (.sh (.lst (tbs p (x :: Ts))))) s8 s9 s10 s11 s12 s13 (some (.sh (oddT o s))) (some (.sh (.glo "corner"))) s17 s18)) : dFor bdF (gN 17) bdIn rx DD (eH p s s3 s5 s6 (some (.sh (.lst (tbs p (x :: Ts))))) s8 s9 s10 s11 s12 s13 (some (.sh (oddT o s))) (some (.sh (.glo "corner"))) s17 s18) := by
  have hl : (x :: Ts).length ≤ 3 := q.len
  have lt : (tbs p (x :: Ts)).length ≤ 3 := by simp at hl ⊢; omega
  refine ⟨Nat.zero_le _, (by decide : 1 ≤ sizeLine), Nat.le_trans (show _ ≤ 4 by show (tbs p (x :: Ts)).length + 1 ≤ 4; omega) (by decide), (by decide : 1 ≤ sizeLine), Nat.le_trans (show _ ≤ 4 by show (tbs p (x :: Ts)).length + 1 ≤ 4; omega) (by decide), (by decide : 4 ≤ sizeLine), ?_⟩
  refine b_corner (p := p) (x := x) (Ts := Ts) (d := .lst []) bad_nil ?_
  refine b_corner (p := p) (x := x) (Ts := Ts) (d := .non) bad_non ?_
  refine b_corner (p := p) (x := x) (Ts := Ts) (d := .lst (tbs p (x :: Ts) ++ [.non])) bad_plus ?_
  refine b_corner (p := p) (x := x) (Ts := Ts) (d := .lst (tbs p (x :: Ts) ++ [oddT o s])) (bad_odd ne) ?_
  exact h _
end K01

namespace K01
open PySem PySem.Spec L2 DL
open PyProof.Rows hiding St
/-! ### lists_right, put together -/
variable {p : Int} {s : Nat} {L : List T3} {rx : D → Prop} {DD : DEnds} {s3 s5 s6 s7 s8 s9 s10 s11 s12 s13 s15 s16 s17 s18 : Option Sl}
theorem lq_12 {x : T3} {Ts : List T3} {o : Int} (q : LQ p s (x :: Ts)) (ne : p ≠ o) (h : ∀ s16 s17, DD.nx (eH p s s3 s5 s6 (some (.sh (.lst (tbs p (x :: Ts))))) s8 s9 s10 s11 s12 s13 (some (.sh (oddT o s))) s16 s17 s18)) : lq12 rx DD (eH p s s3 s5 s6 (some (.sh (.lst (tbs p (x :: Ts))))) s8 s9 s10 s11 s12 s13 (some (.sh (oddT o s))) s16 s17 s18) := by
  refine ⟨(by decide : 3 ≤ sizeLine), ?_⟩
  refine w_beside q ne fun s17 => ?_
  refine w_over q ne fun s17 => ?_
  refine w_corner q ne fun s17 => ?_
  exact h _ _
abbrev tlT (p : Int) (s : Nat) : D := tb p (s + 1) 1 (modM p (zeroM (s + 1) 1))
theorem lq_13 (q : LQ p s L) (h : DD.nx (eH p s s3 s5 s6 s7 s8 s9 s10 s11 s12 s13 s15 s16 s17 (some (.sh (tlT p s))))) : lq13 rx DD (eH p s s3 s5 s6 s7 s8 s9 s10 s11 s12 s13 s15 s16 s17 s18) := by
  have hs := q.hs
  refine ⟨(by decide : 1 ≤ sizeLine), (by decide : 1 ≤ sizeLine), ⟨by omega, by omega, Nat.le_trans (show 1 * (((s : Int) + 1).toNat) ≤ 60 by omega) (by decide)⟩, rfl, ?_⟩
  have e1 : (s : Int) + 1 = ((s + 1 : Nat) : Int) := by omega
  have e2 : (List.replicate ((s : Int) + 1).toNat [D.lst [D.int 0]]).flatten = (zeroM (s + 1) 1).map LI := by
    rw [e1, Int.toNat_natCast]
    exact zero_flat (s + 1) 1
  show wi_Table [.int p, .int ((s : Int) + 1), .int 1, .lst (List.replicate ((s : Int) + 1).toNat [D.lst [D.int 0]]).flatten] _ _
  rw [e2, e1]
  exact mk_Table (t := s + 1) (w := 1) q.hp (by omega) (by decide) (.inl rfl) (.inl rfl) (sh_zero _ _) h
theorem lq_14 {x : T3} {Ts : List T3} (q : LQ p s (x :: Ts)) (h : DD.rt (.bl true)) : lq14 rx DD (eH p s s3 s5 s6 (some (.sh (.lst (tbs p (x :: Ts))))) s8 s9 s10 s11 s12 s13 s15 s16 s17 (some (.sh (tlT p s)))) := by
  have hl : (x :: Ts).length ≤ 3 := q.len
  have lt : (tbs p (x :: Ts)).length ≤ 3 := by simp at hl ⊢; omega
  have ex : x.t = s := (q.ok x List.mem_cons_self).1
  have eb : (tbs p (x :: Ts) ++ [tlT p s]) = (modT p x :: (Ts.map (modT p) ++ [⟨s + 1, 1, modM p (zeroM (s + 1) 1)⟩])).map (it3 p) := by
    rw [List.map_cons, List.map_append]; rfl
  refine m_is_bad (fun P' RX e => ⟨(by decide : 1 ≤ sizeLine), Nat.le_trans (show (tbs p (x :: Ts)).length + 1 ≤ 4 by omega) (by decide), rfl, ?_⟩) ?_
  · exact h
  · show dBody N_beside.length t_beside [.lst (tbs p (x :: Ts) ++ [tlT p s])] _ _
    rw [eb]
    exact x_beside_sz (by simp at hl ⊢; omega) (.inl ⟨⟨s + 1, 1, modM p (zeroM (s + 1) 1)⟩, by simp, by show s + 1 ≠ x.t; omega⟩) e
theorem m_lists_right {P E : D → Prop} (hp : p ∈ PL) (h : P (.bl true)) : dBody N__law_lists_right.length t__law_lists_right [.drw, .int p] P E := by
  show t__law_lists_right E { nx := fun _ => P .non, rt := P } [some (.sh .drw), some (.sh (.int p)), none, none, none, none, none, none, none, none, none, none, none, none, none, none, none, none, none]
  unfold t__law_lists_right
  refine lq_1 hp fun s L q hne => ?_
  obtain ⟨x, Ts, rfl⟩ := List.exists_cons_of_ne_nil hne
  refine seqQ (lq_3 q ?_)
  refine seqQ (lq_4 q hne ?_)
  refine seqQ (lq_5 q ?_)
  refine seqQ (lq_6 q ?_)
  refine seqQ (lq_7 q ?_)
  refine seqQ (lq_8 ?_)
  refine seqQ (lq_9 q fun s6 s8 s12 s13 => ?_)
  refine seqQ (lq_10 q ?_)
  refine seqQ (lq_11 q fun o ne => ?_)
  refine seqQ (lq_12 q ne fun s16 s17 => ?_)
  refine seqQ (lq_13 q ?_)
  exact lq_14 q h
end K01

namespace K01
open PySem PySem.Spec L2 DL
open PyProof.Rows hiding St
/-! ### refused: lines that are none -/
theorem m_listN {d : D} (hd : d = .non ∨ (∃ s, d = .str s) ∨ ∃ i, d = .int i) {P E : D → Prop} (h : P (.bl false)) : dBody N_is_list.length t_is_list [d] P E := by
  rcases hd with rfl | ⟨s, rfl⟩ | ⟨i, rfl⟩ <;> exact ⟨by decide, _, _, _, rfl, rfl, rfl, h⟩
theorem noL_not {d : D} (hd : d = .non ∨ (∃ s, d = .str s) ∨ ∃ i, d = .int i) : NoL d 1 1 := fun {P E} h => ⟨rfl, m_listN hd h⟩
theorem noL_len {l : List D} (hl : l.length ≠ 1) : NoL (.lst l) 1 1 := fun {P E} h => by
  refine ⟨rfl, m_list (l := l) (.inl rfl) (iteF ⟨_, _, rfl, rfl, rfl, rfl, iteBt (b := !PyData.eqv (.int (l.length : Int)) (.int ((1 : Nat) : Int))) (by rw [eqv_int, decide_eq_false (by omega)]; rfl) ?_⟩)⟩
  exact h
abbrev eN (d : D) (s3 s4 : Option Sl) : DL.Env := [some (.sh d), some (.sh (.int ((1 : Nat) : Int))), some (.sh (.int ((1 : Nat) : Int))), s3, s4]
abbrev itL : TDX := (dAndV (dCall (dBody N_is_list.length t_is_list) 1 (dCons (dVar 3) dNil)) (dAndV (d2 eqD (dCB lenD (dCons (dVar 3) dNil)) (dVar 2)) (dCB (onL allL) (dCons (dFrz (dComp (dSeqI (dVar 3)) (gN 4) dYes (dCall (dBody N_is_number.length t_is_number) 1 (dCons (dVar 4) dNil)) [4])) dNil))))
def BadI (x : D) : Prop := ∀ (d : D) (E : D → Prop) (Q : D → DL.Env → Prop), Q (.bl false) (eN d (some (.sh x)) none) → itL E (eN d (some (.sh x)) none) Q
theorem noL_one {x : D} (hx : BadI x) : NoL (.lst [x]) 1 1 := fun {P E} h => by
  refine ⟨rfl, m_list (l := [x]) (.inl rfl) (iteF ⟨_, _, rfl, rfl, rfl, rfl, iteB (b := !PyData.eqv (.int (([x] : List D).length : Int)) (.int ((1 : Nat) : Int))) (by rw [eqv_int]; rfl) ?_⟩)⟩
  refine hx _ _ _ ⟨by decide, ?_⟩
  exact ⟨_, rfl, h⟩
theorem badI_not {x : D} (hx : x = .non ∨ (∃ s, x = .str s) ∨ ∃ i, x = .int i) : BadI x := fun d E Q h => ⟨rfl, m_listN hx h⟩
theorem badI_len {l : List D} (hl : l.length ≠ 1) : BadI (.lst l) := fun d E Q h => by
  refine ⟨rfl, m_list (l := l) (.inl rfl) ⟨_, _, rfl, rfl, rfl, rfl, ?_⟩⟩
  rw [eqv_int, decide_eq_false (by omega)]
  exact h
theorem badI_odd {x : D} (hx : OddV x) : BadI (.lst [x]) := fun d E Q h => by
  refine ⟨rfl, m_list (l := [x]) (.inl rfl) ⟨_, _, rfl, rfl, rfl, rfl, ?_⟩⟩
  rw [eqv_int, decide_eq_true (by rfl)]
  refine ⟨rfl, m_odd hx ⟨by decide, ?_⟩⟩
  exact ⟨_, rfl, h⟩
end K01

namespace K01
open PySem PySem.Spec L2 DL
open PyProof.Rows hiding St
/-! ### refused, statement by statement -/
variable {p : Int} {odd sz : D} {rx : D → Prop} {DD : DEnds} {s2 s3 s4 s5 s6 s7 s8 : Option Sl}
abbrev eR (p : Int) (odd sz : D) (s4 s5 s6 s7 s8 : Option Sl) : DL.Env := [some (.sh .drw), some (.sh (.int p)), some (.sh odd), some (.sh sz), s4, s5, s6, s7, s8]
theorem rq_1 (h : ∀ odd, NoPr odd → DD.nx [some (.sh .drw), some (.sh (.int p)), some (.sh odd), s3, s4, s5, s6, s7, s8]) : rq1 rx DD [some (.sh .drw), some (.sh (.int p)), s2, s3, s4, s5, s6, s7, s8] := by
  refine ⟨(by decide : 1 ≤ sizeLine), (by decide : 9 ≤ sizeLine), rfl, p_pick (l := [.non, .bl true, .str "2", .tup [.int 2], .int 1, .int 4, .int 0, .int 101, .int (-3)]) (.inl rfl) (by decide) (by decide) fun x hx => h x ?_⟩
  simp only [List.mem_cons, List.not_mem_nil, or_false] at hx
  rcases hx with rfl | rfl | rfl | rfl | rfl | rfl | rfl | rfl | rfl
  · exact .inl (.inl rfl)
  · exact .inl (.inr (.inl ⟨_, rfl⟩))
  · exact .inl (.inr (.inr (.inl ⟨_, rfl⟩)))
  · exact .inl (.inr (.inr (.inr ⟨_, rfl⟩)))
  · exact .inr ⟨1, rfl, by decide⟩
  · exact .inr ⟨4, rfl, by decide⟩
  · exact .inr ⟨0, rfl, by decide⟩
  · exact .inr ⟨101, rfl, by decide⟩
  · exact .inr ⟨-3, rfl, by decide⟩
theorem rq_2 (h : ∀ sz, Out sz 0 60 → DD.nx (eR p odd sz s4 s5 s6 s7 s8)) : rq2 rx DD [some (.sh .drw), some (.sh (.int p)), some (.sh odd), s3, s4, s5, s6, s7, s8] := by
  refine ⟨(by decide : 1 ≤ sizeLine), (by decide : 6 ≤ sizeLine), rfl, p_pick (l := [.non, .bl true, .int (-1), .int 61, .str "1", .tup [.int 1]]) (.inl rfl) (by decide) (by decide) fun x hx => h x ?_⟩
  simp only [List.mem_cons, List.not_mem_nil, or_false] at hx
  rcases hx with rfl | rfl | rfl | rfl | rfl | rfl
  · exact out_odd (.inl rfl)
  · exact out_odd (.inr (.inl ⟨_, rfl⟩))
  · exact out_int (.inl (by decide))
  · exact out_int (.inr (by decide))
  · exact out_odd (.inr (.inr (.inl ⟨_, rfl⟩)))
  · exact out_odd (.inr (.inr (.inr ⟨_, rfl⟩)))
theorem rq_3 (ho : NoPr odd) (h : DD.nx (eR p odd sz s4 s5 s6 s7 s8)) : rq3 rx DD (eR p odd sz s4 s5 s6 s7 s8) := by
  refine ⟨rfl, x_prime ho ⟨in_cs1, ?_⟩⟩
  exact ⟨_, _, _, rfl, rfl, rfl, h⟩
theorem x_line1 (hp : p ∈ PL) {c : D} (o : NoL c 1 1) {Q : List (Str × D) → Prop} {E : D → Prop} (h : E badT) : wi_Table [.int p, .int 1, .int 1, c] Q E := x_lines (t := 1) (w := 1) hp (by decide) (by decide) o h
theorem rr_1 (hp : p ∈ PL) (h : ∀ s5, DD.nx (eR p odd sz s4 s5 s6 s7 s8)) : rr1 rx DD (eR p odd sz s4 s5 s6 s7 s8) := by
  refine ⟨(by decide : 1 ≤ sizeLine), (by decide : 1 ≤ sizeLine), (by decide : 1 ≤ sizeLine), (by decide : 1 ≤ sizeLine), (by decide : 1 ≤ sizeLine), (by decide : 2 ≤ sizeLine), (by decide : 2 ≤ sizeLine), (by decide : 1 ≤ sizeLine), (by decide : 1 ≤ sizeLine), (by decide : 1 ≤ sizeLine), (by decide : 7 ≤ sizeLine), ?_⟩
  refine m_is_bad (fun P' RX e => ⟨rfl, x_line1 hp (noL_one (badI_odd (x := .bl true) (.inr (.inl ⟨_, rfl⟩)))) e⟩) ?_
  refine m_is_bad (fun P' RX e => ⟨rfl, x_line1 hp (noL_one (badI_not (x := .int 0) (.inr (.inr ⟨_, rfl⟩)))) e⟩) ?_
  refine m_is_bad (fun P' RX e => ⟨rfl, x_line1 hp (noL_len (l := [.lst [.int 0], .lst [.int 0]]) (by decide)) e⟩) ?_
  refine m_is_bad (fun P' RX e => ⟨rfl, x_line1 hp (noL_one (badI_len (l := [.int 0, .int 0]) (by decide))) e⟩) ?_
  refine m_is_bad (fun P' RX e => ⟨rfl, x_line1 hp (noL_not (d := .str "0") (.inr (.inl ⟨_, rfl⟩))) e⟩) ?_
  refine m_is_bad (fun P' RX e => ⟨rfl, x_line1 hp (noL_not (d := .non) (.inl rfl)) e⟩) ?_
  refine m_is_bad (fun P' RX e => ⟨rfl, x_line1 hp (noL_one (badI_odd (x := .str "0") (.inr (.inr (.inl ⟨_, rfl⟩))))) e⟩) ?_
  exact h _
theorem x_need_lst {l : List D} {P E : D → Prop} (h : E badT) : dBody N_need_table.length t_need_table [.lst l] P E := ⟨_, _, _, rfl, rfl, rfl, h⟩
theorem rr_2 {fl1 fl2 fl3 fl4 fl5 : Addr} (hp : p ∈ PL) (hs : Out sz 0 60) (h : ∀ s4 s6, DD.nx (eR p odd sz s4 s5 s6 s7 s8)) : rr2 fl1 fl2 fl3 fl4 fl5 rx DD (eR p odd sz (some (.ol [.adr fl1, .adr fl2, .adr fl3, .adr fl4, .adr fl5])) s5 s6 s7 s8) := by
  refine ⟨fl1, _, rfl, .tail _ (.tail _ (.tail _ (.tail _ (.head _)))), m_is_bad (fun P' RX e => ⟨by decide, by decide, rfl, x_tall hp hs e⟩) ?_⟩
  refine ⟨fl2, _, rfl, .tail _ (.tail _ (.tail _ (.head _))), m_is_bad (fun P' RX e => ⟨by decide, by decide, rfl, x_wide (t := 1) hp (by decide) hs e⟩) ?_⟩
  refine ⟨fl3, _, rfl, .tail _ (.tail _ (.head _)), m_is_bad (fun P' RX e => ⟨rfl, ⟨rfl, x_need_non e⟩⟩) ?_⟩
  refine ⟨fl4, _, rfl, .tail _ (.head _), m_is_bad (fun P' RX e => ⟨by decide, by decide, rfl, ⟨rfl, x_need_lst e⟩⟩) ?_⟩
  refine ⟨fl5, _, rfl, .head _, m_is_bad (fun P' RX e => ⟨rfl, ⟨rfl, ⟨rfl, x_need_non e⟩⟩⟩) ?_⟩
  exact h _ _
theorem rr_3 (ho : NoPr odd) (h : DD.nx (eR p odd sz s4 s5 s6 s7 s8)) : rr3 rx DD (eR p odd sz s4 s5 s6 s7 s8) := by
  refine ⟨rfl, ⟨rfl, m_no_prime ho ⟨in_cs1, ?_⟩⟩⟩
  exact ⟨_, _, _, rfl, rfl, rfl, h⟩
theorem rr_4 (ho : NoPr odd) (h : DD.nx (eR p odd sz s4 s5 s6 s7 s8)) : rr4 rx DD (eR p odd sz s4 s5 s6 s7 s8) := by
  refine ⟨rfl, ⟨rfl, m_no_prime ho ⟨in_cs1, ?_⟩⟩⟩
  exact ⟨_, _, _, rfl, rfl, rfl, h⟩
end K01

namespace K01
open PySem PySem.Spec L2 DL
open PyProof.Rows hiding St
/-! ### refused, the parts of BadNumber -/
variable {p : Int} {odd sz : D} {rx : D → Prop} {DD : DEnds} {s2 s3 s4 s5 s6 s7 s8 : Option Sl}
abbrev bn (s : Str) : D := .exc "BadNumber" [("part", .str s)]
theorem x_plain (hp : p ∈ PL) (hs : Out sz 0 60) {P E : D → Prop} (h : E (bn "size")) : dBody N_plain.length t_plain [.int p, sz] P E := ⟨rfl, m_need_prime hp ⟨rfl, hs h⟩⟩
theorem x_empty1 (hp : p ∈ PL) (hs : Out sz 0 60) {d : D} {P E : D → Prop} (h : E (bn "tall")) : dBody N_empty.length t_empty [.int p, sz, d] P E := ⟨rfl, m_need_prime hp ⟨rfl, hs h⟩⟩
theorem x_empty2 (hp : p ∈ PL) (hs : Out sz 0 60) {P E : D → Prop} (h : E (bn "wide")) : dBody N_empty.length t_empty [.int p, .int 1, sz] P E := ⟨rfl, m_need_prime hp ⟨rfl, m_betweenT (by decide) (by decide) (iteF ⟨rfl, hs h⟩)⟩⟩
theorem x_scaled {t w : Nat} {m : Mx} {d : D} (hd : OddV d) {P E : D → Prop} (h : E (bn "number")) : dBody N_scaled.length t_scaled [tb p t w m, d] P E := ⟨rfl, m_need_table ⟨rfl, m_odd hd h⟩⟩
theorem rr_5 (hp : p ∈ PL) (hs : Out sz 0 60) (h : DD.nx (eR p odd sz s4 s5 s6 (some (.ol [bn "size"])) s8)) : rr5 rx DD (eR p odd sz s4 s5 s6 s7 s8) := by
  refine ⟨rfl, x_plain hp hs ⟨in_cs3, by decide, ?_⟩⟩
  exact h
theorem rr_6 {l : List D} (hl : l.length < 100) (hp : p ∈ PL) (hs : Out sz 0 60) (h : DD.nx (eR p odd sz s4 s5 s6 (some (.ol (l ++ [bn "tall"]))) s8)) : rr6 rx DD (eR p odd sz s4 s5 s6 (some (.ol l)) s8) := by
  refine ⟨rfl, ⟨rfl, x_empty1 hp hs ⟨in_cs3, rfl, Nat.lt_of_lt_of_le (show l.length < 100 from hl) (by decide), ?_⟩⟩⟩
  exact h
theorem rr_7 {l : List D} (hl : l.length < 100) (hp : p ∈ PL) (hs : Out sz 0 60) (h : DD.nx (eR p odd sz s4 s5 s6 (some (.ol (l ++ [bn "wide"]))) s8)) : rr7 rx DD (eR p odd sz s4 s5 s6 (some (.ol l)) s8) := by
  refine ⟨rfl, ⟨rfl, x_empty2 hp hs ⟨in_cs3, rfl, Nat.lt_of_lt_of_le (show l.length < 100 from hl) (by decide), ?_⟩⟩⟩
  exact h
theorem rr_8 {l : List D} (hl : l.length < 100) (hp : p ∈ PL) (h : DD.nx (eR p odd sz s4 s5 s6 (some (.ol (l ++ [bn "number"]))) s8)) : rr8 rx DD (eR p odd sz s4 s5 s6 (some (.ol l)) s8) := by
  refine ⟨rfl, (by decide : 0 ≤ sizeLine), rfl, mk_Table (t := 0) (w := 0) (m := []) hp (by decide) (by decide) (.inl rfl) (.inl rfl) (sh_nil 0) ?_⟩
  refine ⟨(by decide : 3 ≤ sizeLine), rfl, p_pick (l := [.non, .bl true, .str "1"]) (.inl rfl) (by decide) (by decide) fun x hx => ?_⟩
  have ox : OddV x := by
    simp only [List.mem_cons, List.not_mem_nil, or_false] at hx
    rcases hx with rfl | rfl | rfl
    · exact .inl rfl
    · exact .inr (.inl ⟨_, rfl⟩)
    · exact .inr (.inr (.inl ⟨_, rfl⟩))
  refine ⟨rfl, x_scaled ox ⟨in_cs3, rfl, Nat.lt_of_lt_of_le (show l.length < 100 from hl) (by decide), ?_⟩⟩
  exact h
abbrev bnL : List D := [bn "size", bn "tall", bn "wide", bn "number"]
theorem rr_9 (h : DD.nx (eR p odd sz s4 s5 s6 (some (.ol bnL)) none)) : rr9 rx DD (eR p odd sz s4 s5 s6 (some (.ol bnL)) none) := by
  refine ⟨_, _, _, rfl, rfl, rfl, by decide, _, _, _, rfl, rfl, rfl, by decide, _, _, _, rfl, rfl, rfl, by decide, _, _, _, rfl, rfl, rfl, by decide, (by decide : 1 ≤ sizeLine), ⟨by decide, by decide, by decide⟩, ?_⟩
  refine q_neBs (l := [true, true, true, true]) (m := [true, true, true, true]) ?_
  exact ⟨rfl, h⟩
theorem sh_parts : SeqAt.shaped (.list [.str "size", .str "tall", .str "wide", .str "number"]) = true := by first | rfl | decide | decide +kernel
theorem eq_parts : PyData.eqv (.list [.str "size", .str "tall", .str "wide", .str "number"]) (.list [.str "size", .str "tall", .str "wide", .str "number"]) = true := by simp [PyData.eqv, PyData.eqvAll, eqv_str_refl]
theorem rr_10 (h : DD.rt (.bl true)) : rr10 rx DD (eR p odd sz s4 s5 s6 (some (.ol bnL)) none) := by
  refine ⟨_, rfl, by decide, _, rfl, by decide, _, rfl, by decide, _, rfl, by decide, by decide, ?_⟩
  refine ⟨_, _, rfl, rfl, sh_parts, sh_parts, rfl, rfl, ?_⟩
  rw [eq_parts]
  exact h
theorem m_refused {P E : D → Prop} (hp : p ∈ PL) (h : P (.bl true)) : dBody N__law_refused.length t__law_refused [.drw, .int p] P E := by
  show t__law_refused E { nx := fun _ => P .non, rt := P } [some (.sh .drw), some (.sh (.int p)), none, none, none, none, none, none, none]
  unfold t__law_refused
  refine seqQ (rq_1 fun odd ho => ?_)
  refine seqQ (rq_2 fun sz hs => ?_)
  refine seqQ (rq_3 ho ?_)
  intro fl1
  refine ⟨_, rfl, (by decide : 1 < sizeLine), fun fl2 => ?_⟩
  refine ⟨_, rfl, (by decide : 2 < sizeLine), fun fl3 => ?_⟩
  refine ⟨_, rfl, (by decide : 3 < sizeLine), fun fl4 => ?_⟩
  refine ⟨_, rfl, (by decide : 4 < sizeLine), fun fl5 => ?_⟩
  refine seqQ (rr_1 (s4 := some (.ol [.adr fl1, .adr fl2, .adr fl3, .adr fl4, .adr fl5])) hp fun s5 => ?_)
  refine seqQ (rr_2 hp hs fun s4 s6 => ?_)
  refine seqQ (rr_3 ho ?_)
  refine seqQ (rr_4 ho ?_)
  refine seqQ (rr_5 hp hs ?_)
  refine seqQ (rr_6 (l := [bn "size"]) (by decide) hp hs ?_)
  refine seqQ (rr_7 (l := [bn "size", bn "tall"]) (by decide) hp hs ?_)
  refine seqQ (rr_8 (l := [bn "size", bn "tall", bn "wide"]) (by decide) hp ?_)
  refine seqQ (rr_9 ?_)
  exact rr_10 h
end K01

namespace K01
open PySem PySem.Spec L2 DL
open PyProof.Rows hiding St
/-! ### the law -/
variable {p : Int} {k : D} {rx : D → Prop} {DD : DEnds} {s2 s3 s4 s5 s6 : Option Sl}
abbrev eW (k : D) (s2 s3 s4 s5 s6 : Option Sl) : DL.Env := [some (.sh k), some (.sh .drw), s2, s3, s4, s5, s6]
abbrev fld (p : Int) : Option Sl := some (.sh (.int p))
theorem m_field {P E : D → Prop} (h : ∀ p ∈ PL, P (.int p)) : dBody N__law_field.length t__law_field [.drw] P E := by
  refine ⟨(by decide : 8 ≤ sizeLine), rfl, p_pick (l := ([2, 2, 2, 3, 3, 5, 7, 97] : List Int).map D.int) (.inl rfl) (by simp) (by simp) fun x hx => ?_⟩
  obtain ⟨n, hn, rfl⟩ := List.mem_map.mp hx
  refine h n ?_
  simp only [List.mem_cons, List.not_mem_nil, or_false] at hn ⊢
  omega
theorem lw_1 (h : ∀ p ∈ PL, DD.nx (eW k s2 (fld p) s4 s5 s6)) : lw1 rx DD (eW k s2 s3 s4 s5 s6) := ⟨rfl, m_field fun p hp => h p hp⟩
theorem lw_2 (hp : p ∈ PL) (h : ∀ p ∈ PL, DD.nx (eW k s2 (fld p) s4 s5 s6)) : lw2 rx DD (eW k s2 (fld p) s4 s5 s6) := by
  refine ⟨rfl, p_take (by decide) (by decide) fun y y0 y1 => ⟨_, _, rfl, rfl, rfl, rfl, ?_⟩⟩
  rw [eqv_int]
  by_cases c : y = 0
  · rw [decide_eq_true c]
    refine ⟨(by decide : 20 ≤ sizeLine), rfl, p_pick (l := ([11, 13, 17, 19, 23, 29, 31, 37, 41, 43, 47, 53, 59, 61, 67, 71, 73, 79, 83, 89] : List Int).map D.int) (.inl rfl) (by simp) (by simp) fun x hx => ?_⟩
    obtain ⟨n, hn, rfl⟩ := List.mem_map.mp hx
    refine h n ?_
    simp only [List.mem_cons, List.not_mem_nil, or_false] at hn ⊢
    omega
  · rw [decide_eq_false c]
    exact h p hp
theorem lw_3 (hp : p ∈ PL) (h : DD.nx (eW k s2 (fld p) s4 s5 s6)) : lw3 rx DD (eW k s2 (fld p) s4 s5 s6) := ⟨rfl, m_primes ⟨rfl, m_unequal hp h⟩⟩
theorem lw_4 (hp : p ∈ PL) (h : DD.nx (eW k s2 (fld p) s4 s5 s6)) : lw4 rx DD (eW k s2 (fld p) s4 s5 s6) := ⟨rfl, m_products hp ⟨rfl, m_lists_right hp h⟩⟩
theorem lw_5 (hp : p ∈ PL) (h : DD.nx (eW k s2 (fld p) s4 s5 s6)) : lw5 rx DD (eW k s2 (fld p) s4 s5 s6) := ⟨rfl, m_refused hp h⟩
abbrev lng (p : Int) : D := tb p 0 60 []
theorem lw_6 (hp : p ∈ PL) (h : DD.nx (eW k s2 (fld p) (some (.sh (lng p))) s5 s6)) : lw6 rx DD (eW k s2 (fld p) s4 s5 s6) :=
  ⟨Nat.zero_le _, rfl, mk_Table (t := 0) (w := 60) (m := []) hp (by decide) (by decide) (.inl rfl) (.inl rfl) (sh_nil 60) h⟩
abbrev t60 : T3 := ⟨0, 60, []⟩
abbrev t01 : T3 := ⟨0, 1, []⟩
theorem lw_7 (hp : p ∈ PL) (h : DD.nx (eW k s2 (fld p) (some (.sh (lng p))) s5 s6)) : lw7 rx DD (eW k s2 (fld p) (some (.sh (lng p))) s5 s6) := by
  refine ⟨(by decide : 1 ≤ sizeLine), rfl, m_beside (x := t60) (Ts := []) hp (fun y hy => ?_) (by decide) (by decide) ?_⟩
  · rw [List.mem_singleton.mp hy]
    exact ⟨⟨sh_nil 60, by decide, by decide⟩, rfl⟩
  · refine ⟨_, rfl, ⟨_, rfl, .inl rfl⟩, m_eqT (p := p) (p' := p) (t := 0) (t' := 0) (w := 60) (w' := 60) (m := []) (m' := []) ⟨_, rfl, ?_⟩⟩
    rw [decide_eq_true (show p = p ∧ 0 = 0 ∧ 60 = 60 ∧ ([] : Mx) = [] from ⟨rfl, rfl, rfl, rfl⟩)]
    refine m_is_bad (fun P' RX e => ⟨Nat.zero_le _, rfl, mk_Table (t := 0) (w := 1) (m := []) hp (by decide) (by decide) (.inl rfl) (.inl rfl) (sh_nil 1) ?_⟩) ?_
    · exact h
    · exact ⟨(by decide : 2 ≤ sizeLine), rfl, x_beside_sz (x := t60) (Ts := [t01]) (by decide) (.inr ⟨fun y hy => by
        simp only [List.mem_cons, List.not_mem_nil, or_false] at hy
        rcases hy with rfl | rfl <;> rfl, by decide⟩) e⟩
theorem lw_8 (hp : p ∈ PL) (h : DD.nx (eW k s2 (fld p) (some (.sh (lng p))) s5 s6)) : lw8 rx DD (eW k s2 (fld p) (some (.sh (lng p))) s5 s6) := by
  refine m_is_bad (fun P' RX e => ⟨Nat.zero_le _, rfl, mk_Table (t := 0) (w := 1) (m := []) hp (by decide) (by decide) (.inl rfl) (.inl rfl) (sh_nil 1) ?_⟩) ?_
  · exact h
  · exact ⟨(by decide : 2 ≤ sizeLine), rfl, x_corner_sz (x := t60) (Ts := [t01]) (by decide) (by decide) (by decide) e⟩
theorem lw_9 (h : ∀ t w : Nat, t ≤ 60 → w ≤ 60 → DD.nx (eW k s2 (fld p) s4 (some (.sh (.int (t : Int)))) (some (.sh (.int (w : Int)))))) : lw9 rx DD (eW k s2 (fld p) s4 s5 s6) := by
  refine ⟨(by decide : 4 ≤ sizeLine), rfl, p_pick (l := ([0, 1, 3, 60] : List Int).map D.int) (.inl rfl) (by simp) (by simp) fun x hx => ?_⟩
  obtain ⟨n, hn, rfl⟩ := List.mem_map.mp hx
  refine ⟨(by decide : 4 ≤ sizeLine), rfl, p_pick (l := ([0, 1, 2, 60] : List Int).map D.int) (.inl rfl) (by simp) (by simp) fun x hx => ?_⟩
  obtain ⟨m, hm, rfl⟩ := List.mem_map.mp hx
  simp only [List.mem_cons, List.not_mem_nil, or_false] at hn hm
  obtain ⟨t, rfl⟩ := Int.eq_ofNat_of_zero_le (show 0 ≤ n by omega)
  obtain ⟨w, rfl⟩ := Int.eq_ofNat_of_zero_le (show 0 ≤ m by omega)
  exact h t w (by omega) (by omega)
theorem lw_10 {t : Nat} (hp : p ∈ PL) (ht : t ≤ 60) (h : DD.nx (eW k s2 (fld p) s4 (some (.sh (.int (t : Int)))) s6)) : lw10 rx DD (eW k s2 (fld p) s4 (some (.sh (.int (t : Int)))) s6) := by
  refine ⟨rfl, m_plain hp ht ⟨rfl, m_unit ht ?_⟩⟩
  exact ⟨rfl, m_shows (S := unitM t) hp ht ht (.inl rfl) rfl (sh_unit t) rfl h⟩
theorem lw_11 {t w : Nat} (hp : p ∈ PL) (ht : t ≤ 60) (hw : w ≤ 60) (h : DD.nx (eW k s2 (fld p) s4 (some (.sh (.int (t : Int)))) (some (.sh (.int (w : Int)))))) : lw11 rx DD (eW k s2 (fld p) s4 (some (.sh (.int (t : Int)))) (some (.sh (.int (w : Int))))) := by
  have e2 : (List.replicate (t : Int).toNat [D.lst (List.replicate (w : Int).toNat [D.int 0]).flatten]).flatten = (zeroM t w).map LI := by
    rw [Int.toNat_natCast, Int.toNat_natCast, rep0]
    exact zero_flat t w
  refine ⟨rfl, rfl, rfl, m_empty hp ht hw ?_⟩
  refine ⟨(by decide : 1 ≤ sizeLine), ⟨by omega, by omega, Nat.le_trans (show 1 * ((w : Int).toNat) ≤ 60 by omega) (by decide)⟩, (by decide : 1 ≤ sizeLine), ⟨by omega, by omega, Nat.le_trans (show 1 * ((t : Int).toNat) ≤ 60 by omega) (by decide)⟩, rfl, ?_⟩
  show dBody _ _ [tb p t w (modM p (zeroM t w)), .int p, .int (t : Int), .int (w : Int), .lst (List.replicate (t : Int).toNat [D.lst (List.replicate (w : Int).toNat [D.int 0]).flatten]).flatten] _ _
  rw [e2]
  exact m_shows (S := zeroM t w) hp ht hw (.inl rfl) rfl (sh_zero t w) rfl h
theorem law_turn {R : D → Prop} (h : ∀ s3 s4 s5 s6, DD.nx (eW k s2 s3 s4 s5 s6)) : (dSeq lw1 (dSeq lw2 (dSeq lw3 (dSeq lw4 (dSeq lw5 (dSeq lw6 (dSeq lw7 (dSeq lw8 (dSeq lw9 (dSeq lw10 lw11)))))))))) rx DD (eW k s2 s3 s4 s5 s6) := by
  refine seqQ (lw_1 fun p hp => ?_)
  refine seqQ (lw_2 hp fun p hp => ?_)
  refine seqQ (lw_3 hp ?_)
  refine seqQ (lw_4 hp ?_)
  refine seqQ (lw_5 hp ?_)
  refine seqQ (lw_6 hp ?_)
  refine seqQ (lw_7 hp ?_)
  refine seqQ (lw_8 hp ?_)
  refine seqQ (lw_9 fun t w ht hw => ?_)
  refine seqQ (lw_10 hp ht ?_)
  exact lw_11 hp ht hw (h _ _ _ _)
theorem hwp : HWP := fun ms hm => by
  have lm : (ms.map D.int).length ≤ 63 := by rw [List.length_map]; exact hm
  refine ⟨⟨by split <;> omega, by split <;> omega⟩, ?_⟩
  refine q_forL (fun δ => ∃ s2 s3 s4 s5 s6, δ = eW (.kls (ms.map D.int)) s2 s3 s4 s5 s6) (fun δ hδ => ?_) _ (fun d hd δ ⟨s2, s3, s4, s5, s6, hδ⟩ J hJ => ?_) _ ⟨none, none, none, none, none, rfl⟩
  · exact rfl
  · subst hδ
    exact law_turn (R := fun _ => True) fun s3 s4 s5 s6 => hJ _ ⟨_, _, _, _, _, rfl⟩
end K01

theorem PySem.Challenge.cw_boughwebs_k01_tables_put_together_holds : PySem.Challenge.rw_boughwebs_k01_tables_put_together.Holds :=
  k01_of K01.hwp
