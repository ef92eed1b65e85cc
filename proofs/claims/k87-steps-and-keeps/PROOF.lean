import PyProof.Rows.All
import Wide.All
import OpenK.AllK
import Wide.FinOn
import HandS.ForMost
import HandS.Exc
import HandS.ExcOwn
import HandS.TryOnly
import HandS.WordsExc
import HandS.IsInst
import HandS.Lambda
import HandS.Flow
import HandS.Wide
import HandS.TupAny
import HandS.TupMul
import HandS.WideBits
import HandS.RaiseMore
import HandS.Small
import HandS.Conv
import HandS.Dict
import HandS.More
import HandS.ListEq
import PyProof.NeKinds
import HandS.FStr
import HandS.Text
import HandS.WordsList
import HandS.Zip
import HandS.Iter
import HandS.Comp
import HandS.Style
import HandS.Defaults
import HandS.HeadNt
import HandS.ClsMeth
import HandS.SlotsOwn
import HandS.Codes
import HandS.HeadHook3
import PyProof.ReprRoads
import HandS.DeepEq
import HandS.HeadWalk
import HandS.HeadHook4
import HandS.Head0
import HandS.Head1
import HandS.Head2
import HandS.EndTab
import PySem.Challenge.RW_mostkept_k87_texts_of_steps_and_keeps
set_option Elab.async false
set_option linter.all false
set_option maxRecDepth 100000
set_option maxHeartbeats 0
set_option exponentiation.threshold 3000
-- DL1
/-! DL1: plain data, how a value of the hand layer bears it, the store of changing lists, the state's invariant, readings over plain data. -/
namespace DL
open PySem PySem.Spec PyProof.Rows L2

/-- plain data -/
inductive Dat where
  | non | bl (b : Bool) | int (i : Int) | str (x : Str)
  | tup (xs : List Dat) | lst (xs : List Dat) | dct (kvs : List (Key × Dat))
  | ins (C : Addr) (fs : List (Str × Dat)) | ob (v : V) | scr (ns : List Int)
deriving Inhabited

def keyD : Key → Dat
  | .inl i => .int i
  | .inr x => .str x
mutual
inductive Rp (K : PySem.W.Frag) (F : Hp) : V → Dat → Prop
  | non : Rp K F .non .non
  | bl (b : Bool) : Rp K F (.bl b) (.bl b)
  | int (i : Int) : Rp K F (.int i) (.int i)
  | str (x : Str) : Rp K F (.str x) (.str x)
  | tup {a : Addr} {vs : List V} {ds : List Dat} : SqT K F a vs → Rps K F vs ds → Rp K F (.ref a) (.tup ds)
  | lst {a : Addr} {vs : List V} {ds : List Dat} : F a = some (.lst vs) → Rps K F vs ds → Rp K F (.ref a) (.lst ds)
  | dct {a : Addr} {kvs : List (Key × V)} {ds : List (Key × Dat)} : Rd F a (.dK kvs) → Rkv K F kvs ds → Rp K F (.ref a) (.dct ds)
  | ins {a C dx : Addr} {fs : List (Str × V)} {ds : List (Str × Dat)} : F a = some (.ins C dx fs) → Rfs K F fs ds → Rp K F (.ref a) (.ins C ds)
  | ob (v : V) : Rp K F v (.ob v)
  | scr {a : Addr} (ns : List Int) : SqL K F a (ns.map V.int) → Rp K F (.ref a) (.scr ns)
inductive Rps (K : PySem.W.Frag) (F : Hp) : List V → List Dat → Prop
  | nil : Rps K F [] []
  | cons {v : V} {vs : List V} {d : Dat} {ds : List Dat} : Rp K F v d → Rps K F vs ds → Rps K F (v :: vs) (d :: ds)
inductive Rkv (K : PySem.W.Frag) (F : Hp) : List (Key × V) → List (Key × Dat) → Prop
  | nil : Rkv K F [] []
  | cons {k : Key} {v : V} {kvs : List (Key × V)} {d : Dat} {ds : List (Key × Dat)} : Rp K F v d → Rkv K F kvs ds → Rkv K F ((k, v) :: kvs) ((k, d) :: ds)
inductive Rfs (K : PySem.W.Frag) (F : Hp) : List (Str × V) → List (Str × Dat) → Prop
  | nil : Rfs K F [] []
  | cons {x : Str} {v : V} {fs : List (Str × V)} {d : Dat} {ds : List (Str × Dat)} : Rp K F v d → Rfs K F fs ds → Rfs K F ((x, v) :: fs) ((x, d) :: ds)
end

/-- what is told stays -/
structure Le (F F' : Hp) : Prop where
  h : ∀ a o, F a = some o → F' a = some o
theorem Le.rd {F F' : Hp} (l : Le F F') (a : Addr) (u : HO) (r : Rd F a u) : Rd F' a u := by
  rcases r with r | ⟨o, r⟩
  · exact .inl (l.h _ _ r)
  · exact .inr ⟨o, l.h _ _ r⟩
theorem Le.refl (F : Hp) : Le F F := ⟨fun _ _ h => h⟩
theorem Le.trans {F G H : Hp} (a : Le F G) (b : Le G H) : Le F H := ⟨fun c u h => b.h c u (a.h c u h)⟩
theorem Le.of {F F' : Hp} (h : ∀ a o, F a = some o → F' a = some o) : Le F F' := ⟨h⟩
theorem Le.upd {F : Hp} {p : Addr} {o : HO} (h : F p = none) : Le F (upd F p o) := .of fun a u e => by
  rw [upd_ne (ne_of_none e h)]
  exact e
/-- what data may rest on -/
structure Lw (F F' : Hp) : Prop where
  tup : ∀ a vs, Rd F a (.tup vs) → Rd F' a (.tup vs)
  dk : ∀ a vs, Rd F a (.dK vs) → Rd F' a (.dK vs)
  lst : ∀ a vs, F a = some (.lst vs) → F' a = some (.lst vs)
  sq : ∀ a vs, Rd F a (.lst vs) → Rd F' a (.lst vs)
  ins : ∀ a C dx fs, F a = some (.ins C dx fs) → F' a = some (.ins C dx fs)
theorem Le.lw {F F' : Hp} (l : Le F F') : Lw F F' := ⟨fun a _ h => l.rd a _ h, fun a _ h => l.rd a _ h, fun a vs h => l.h a _ h, fun a _ h => l.rd a _ h, fun a C dx fs h => l.h a _ h⟩
theorem SqT.lw {K : PySem.W.Frag} {F F' : Hp} {a : Addr} {xs : List V} (l : Lw F F') (h : SqT K F a xs) : SqT K F' a xs := h.imp (l.tup _ _) id
theorem SqT.le {K : PySem.W.Frag} {F F' : Hp} {a : Addr} {xs : List V} (l : Le F F') (h : SqT K F a xs) : SqT K F' a xs := h.imp (l.rd _ _) id
theorem SqL.le {K : PySem.W.Frag} {F F' : Hp} {a : Addr} {xs : List V} (l : Le F F') (h : SqL K F a xs) : SqL K F' a xs := h.imp (l.rd _ _) id

section
variable {K : PySem.W.Frag} {F F' : Hp}
mutual
theorem Rp.lw (l : Lw F F') : ∀ (d : Dat) (v : V), Rp K F v d → Rp K F' v d
  | .non, _, h => by cases h; exact .non
  | .bl b, _, h => by cases h; exact .bl b
  | .int i, _, h => by cases h; exact .int i
  | .str x, _, h => by cases h; exact .str x
  | .tup ds, _, h => by
    cases h with
    | tup s r => exact .tup (SqT.lw l s) (Rps.lw l ds _ r)
  | .lst ds, _, h => by
    cases h with
    | lst s r => exact .lst (l.lst _ _ s) (Rps.lw l ds _ r)
  | .dct ds, _, h => by
    cases h with
    | dct s r => exact .dct (l.dk _ _ s) (Rkv.lw l ds _ r)
  | .ins C ds, _, h => by
    cases h with
    | ins s r => exact .ins (l.ins _ _ _ _ s) (Rfs.lw l ds _ r)
  | .ob w, _, h => by cases h; exact .ob w
  | .scr ns, _, h => by
    cases h with
    | scr _ s => exact .scr ns (s.imp (l.sq _ _) id)
theorem Rps.lw (l : Lw F F') : ∀ (ds : List Dat) (vs : List V), Rps K F vs ds → Rps K F' vs ds
  | [], _, h => by cases h; exact .nil
  | d :: ds, _, h => by
    cases h with
    | cons a b => exact .cons (Rp.lw l d _ a) (Rps.lw l ds _ b)
theorem Rkv.lw (l : Lw F F') : ∀ (ds : List (Key × Dat)) (vs : List (Key × V)), Rkv K F vs ds → Rkv K F' vs ds
  | [], _, h => by cases h; exact .nil
  | (k, d) :: ds, _, h => by
    cases h with
    | cons a b => exact .cons (Rp.lw l d _ a) (Rkv.lw l ds _ b)
theorem Rfs.lw (l : Lw F F') : ∀ (ds : List (Str × Dat)) (vs : List (Str × V)), Rfs K F vs ds → Rfs K F' vs ds
  | [], _, h => by cases h; exact .nil
  | (x, d) :: ds, _, h => by
    cases h with
    | cons a b => exact .cons (Rp.lw l d _ a) (Rfs.lw l ds _ b)
end
theorem Rp.mono {v : V} {d : Dat} (h : Rp K F v d) (l : Le F F') : Rp K F' v d := Rp.lw l.lw d v h
theorem Rps.mono {v : List V} {d : List Dat} (h : Rps K F v d) (l : Le F F') : Rps K F' v d := Rps.lw l.lw d v h
theorem Rkv.mono {v : List (Key × V)} {d : List (Key × Dat)} (h : Rkv K F v d) (l : Le F F') : Rkv K F' v d := Rkv.lw l.lw d v h
theorem Rfs.mono {v : List (Str × V)} {d : List (Str × Dat)} (h : Rfs K F v d) (l : Le F F') : Rfs K F' v d := Rfs.lw l.lw d v h
theorem Rps.length {vs : List V} {ds : List Dat} (h : Rps K F vs ds) : vs.length = ds.length := by
  induction ds generalizing vs with
  | nil => cases h; rfl
  | cons d ds ih =>
    cases h with
    | cons a b => rw [List.length_cons, List.length_cons, ih b]
theorem Rps.get {vs : List V} {ds : List Dat} (h : Rps K F vs ds) {i : Nat} {d : Dat} (e : ds[i]? = some d) : ∃ v, vs[i]? = some v ∧ Rp K F v d := by
  induction ds generalizing vs i with
  | nil => simp at e
  | cons x ds ih =>
    cases h with
    | cons a b =>
      cases i with
      | zero =>
        simp at e
        subst e
        exact ⟨_, rfl, a⟩
      | succ i =>
        obtain ⟨v, h1, h2⟩ := ih b (i := i) (by simpa using e)
        exact ⟨v, by simpa using h1, h2⟩
theorem Rps.getV {vs : List V} {ds : List Dat} (h : Rps K F vs ds) {i : Nat} {v : V} (e : vs[i]? = some v) : ∃ d, ds[i]? = some d ∧ Rp K F v d := by
  induction ds generalizing vs i with
  | nil => cases h; simp at e
  | cons x ds ih =>
    cases h with
    | cons a b =>
      cases i with
      | zero =>
        simp at e
        subst e
        exact ⟨_, rfl, a⟩
      | succ i =>
        obtain ⟨v, h1, h2⟩ := ih b (i := i) (by simpa using e)
        exact ⟨v, by simpa using h1, h2⟩
theorem Rps.append {vs ws : List V} {ds es : List Dat} (h : Rps K F vs ds) (g : Rps K F ws es) : Rps K F (vs ++ ws) (ds ++ es) := by
  induction ds generalizing vs with
  | nil => cases h; exact g
  | cons d ds ih =>
    cases h with
    | cons a b => exact .cons a (ih b)
theorem Rps.take {vs : List V} {ds : List Dat} (h : Rps K F vs ds) (n : Nat) : Rps K F (vs.take n) (ds.take n) := by
  induction ds generalizing vs n with
  | nil => cases h; simp; exact .nil
  | cons d ds ih =>
    cases h with
    | cons a b =>
      cases n with
      | zero => exact .nil
      | succ n => exact .cons a (ih b n)
theorem Rps.drop {vs : List V} {ds : List Dat} (h : Rps K F vs ds) (n : Nat) : Rps K F (vs.drop n) (ds.drop n) := by
  induction ds generalizing vs n with
  | nil => cases h; simp; exact .nil
  | cons d ds ih =>
    cases h with
    | cons a b =>
      cases n with
      | zero => exact .cons a b
      | succ n => exact ih b n
theorem Rps.set {vs : List V} {ds : List Dat} (h : Rps K F vs ds) (n : Nat) {v : V} {d : Dat} (r : Rp K F v d) : Rps K F (vs.set n v) (ds.set n d) := by
  induction ds generalizing vs n with
  | nil => cases h; simp; exact .nil
  | cons x ds ih =>
    cases h with
    | cons a b =>
      cases n with
      | zero => exact .cons r b
      | succ n => exact .cons a (ih b n)
theorem Rps.eraseIdx {vs : List V} {ds : List Dat} (h : Rps K F vs ds) (n : Nat) : Rps K F (vs.eraseIdx n) (ds.eraseIdx n) := by
  induction ds generalizing vs n with
  | nil => cases h; simp; exact .nil
  | cons x ds ih =>
    cases h with
    | cons a b =>
      cases n with
      | zero => exact b
      | succ n => exact .cons a (ih b n)
theorem Rps.strs : ∀ {xs : List Str} {vs : List V}, Rps K F vs (xs.map Dat.str) → vs = xs.map V.str
  | [], _, h => by cases h; rfl
  | x :: xs, _, h => by
    cases h with
    | cons a b => cases a; rw [Rps.strs b]; rfl
theorem Rps.of_strs : ∀ (xs : List Str), Rps K F (xs.map V.str) (xs.map Dat.str)
  | [] => .nil
  | x :: xs => .cons (.str x) (Rps.of_strs xs)
theorem Rps.ints : ∀ {xs : List Int} {vs : List V}, Rps K F vs (xs.map Dat.int) → vs = xs.map V.int
  | [], _, h => by cases h; rfl
  | x :: xs, _, h => by
    cases h with
    | cons a b => cases a; rw [Rps.ints b]; rfl
theorem Rps.of_ints : ∀ (xs : List Int), Rps K F (xs.map V.int) (xs.map Dat.int)
  | [] => .nil
  | x :: xs => .cons (.int x) (Rps.of_ints xs)
theorem Rps.bls : ∀ {xs : List Bool} {vs : List V}, Rps K F vs (xs.map Dat.bl) → vs = xs.map V.bl
  | [], _, h => by cases h; rfl
  | x :: xs, _, h => by
    cases h with
    | cons a b => cases a; rw [Rps.bls b]; rfl
theorem Rfs.lookup {fs : List (Str × V)} {ds : List (Str × Dat)} (h : Rfs K F fs ds) {x : Str} {d : Dat} (e : ds.lookup x = some d) : ∃ v, fs.lookup x = some v ∧ Rp K F v d := by
  induction ds generalizing fs with
  | nil => simp at e
  | cons p ds ih =>
    obtain ⟨y, z⟩ := p
    cases h with
    | cons a b =>
      rw [List.lookup_cons] at e
      cases q : x == y with
      | true =>
        rw [q] at e
        cases e
        exact ⟨_, by rw [List.lookup_cons, q], a⟩
      | false =>
        rw [q] at e
        obtain ⟨v, h1, h2⟩ := ih b e
        exact ⟨v, by rw [List.lookup_cons, q]; exact h1, h2⟩
theorem Rfs.lookup_none {fs : List (Str × V)} {ds : List (Str × Dat)} (h : Rfs K F fs ds) {x : Str} (e : ds.lookup x = none) : fs.lookup x = none := by
  induction ds generalizing fs with
  | nil => cases h; rfl
  | cons p ds ih =>
    obtain ⟨y, z⟩ := p
    cases h with
    | cons a b =>
      rw [List.lookup_cons] at e
      cases q : x == y with
      | true => rw [q] at e; cases e
      | false =>
        rw [q] at e
        rw [List.lookup_cons, q]
        exact ih b e
end

/-! ### slots, the store -/
/-- what a slot holds: data, or the k-th changing object of the store -/
inductive SV where
  | d (x : Dat)
  | r (k : Nat)
/-- a changing object: a list, a list that is walked, a dict, or one that is frozen (gone from the store) -/
inductive Ob where
  | lst (xs : List Dat)
  | lk (xs : List Dat)
  | dct (kvs : List (Key × Dat))
  | ins (C : Addr) (fs : List (Str × Dat))
  | dead
abbrev Mu := List Ob
/-- the def's slots; how many objects the store had at its entry -/
structure En where
  sl : List (Option SV)
  n : Nat
inductive Res (α : Type) where
  | ok (a : α) (μ : Mu)
  | ex (x : String) (μ : Mu)
  | bad
def Res.bind {α β : Type} : Res α → (α → Mu → Res β) → Res β
  | .ok a μ, k => k a μ
  | .ex x μ, _ => .ex x μ
  | .bad, _ => .bad
abbrev EM := En → Mu → Res SV
abbrev BM := En → Mu → Res Bool
abbrev AM := En → Mu → Res (List SV)
/-- a statement's end -/
inductive SO where
  | nx (ρ : En) (μ : Mu)
  | rt (x : SV) (μ : Mu)
  | bk (ρ : En) (μ : Mu)
  | ct (ρ : En) (μ : Mu)
  | ex (x : String) (ρ : En) (μ : Mu)
  | bad
abbrev SM := En → Mu → SO

def Rsv (K : PySem.W.Frag) (F : Hp) (ι : List Addr) (v : V) : SV → Prop
  | .d x => Rp K F v x
  | .r k => ∃ a, ι[k]? = some a ∧ v = .ref a
inductive Rsvs (K : PySem.W.Frag) (F : Hp) (ι : List Addr) : List V → List SV → Prop
  | nil : Rsvs K F ι [] []
  | cons {v : V} {vs : List V} {d : SV} {ds : List SV} : Rsv K F ι v d → Rsvs K F ι vs ds → Rsvs K F ι (v :: vs) (d :: ds)
/-- data of the store -/
def isD : HO → Bool
  | .lst _ => true
  | .dK _ => true
  | .ins _ _ _ => true
  | .own _ => true
  | .frz _ _ => true
  | _ => false
def isT : HO → Bool
  | .tbl _ => true
  | _ => false
/-- nothing but a table of code objects -/
def Nn (h : Option HO) : Prop := ∀ o, h = some o → isT o = true
theorem nn_none {h : Option HO} (e : h = none) : Nn h := fun o q => by rw [e] at q; cases q
/-- the object at a -/
def OOk (K : PySem.W.Frag) (F H : Hp) (a : Addr) : Ob → Prop
  | .lst xs => F a = none ∧ ∃ vs, H a = some (.lst vs) ∧ Rps K F vs xs
  | .lk xs => F a = none ∧ ∃ vs, H a = some (.lst vs) ∧ Rps K F vs xs
  | .dct kvs => F a = none ∧ ∃ vs, H a = some (.dK vs) ∧ Rkv K F vs kvs
  | .ins C fs => F a = none ∧ ∃ dx vs, H a = some (.ins C dx vs) ∧ Rfs K F vs fs
  | .dead => ∃ o, H a = some o ∧ isT o = false
structure Ent where
  H : Hp
  F : Hp
  ι : List Addr
  T : List (Addr × Str)
structure Gw (ι : List Addr) (F : Hp) (ι' : List Addr) (F' : Hp) : Prop where
  le : Le F F'
  ad : ∀ (k : Nat) a, ι[k]? = some a → ι'[k]? = some a
theorem Gw.refl {ι : List Addr} {F : Hp} : Gw ι F ι F := ⟨Le.refl F, fun _ _ h => h⟩
theorem Gw.trans {ι ι1 ι2 : List Addr} {F F1 F2 : Hp} (a : Gw ι F ι1 F1) (b : Gw ι1 F1 ι2 F2) : Gw ι F ι2 F2 := ⟨a.le.trans b.le, fun k c h => b.ad k c (a.ad k c h)⟩
theorem Rsv.mono {K : PySem.W.Frag} {F F' : Hp} {ι ι' : List Addr} {v : V} {x : SV} (h : Rsv K F ι v x) (g : Gw ι F ι' F') : Rsv K F' ι' v x := by
  cases x with
  | d x => exact Rp.mono h g.le
  | r k => obtain ⟨a, h1, h2⟩ := h; exact ⟨a, g.ad _ _ h1, h2⟩
theorem Rsvs.mono {K : PySem.W.Frag} {F F' : Hp} {ι ι' : List Addr} {v : List V} {x : List SV} (h : Rsvs K F ι v x) (g : Gw ι F ι' F') : Rsvs K F' ι' v x := by
  induction h with
  | nil => exact .nil
  | cons a _ ih => exact .cons (a.mono g) ih
theorem OOk.le {K : PySem.W.Frag} {F F' H H' : Hp} {a : Addr} {o : Ob} (h : OOk K F H a o) (l : Le F F') (hF : F a = none → F' a = none) (hH : ∀ u, H a = some u → H' a = some u) : OOk K F' H' a o := by
  cases o with
  | lst xs => obtain ⟨f, vs, e, r⟩ := h; exact ⟨hF f, vs, hH _ e, r.mono l⟩
  | lk xs => obtain ⟨f, vs, e, r⟩ := h; exact ⟨hF f, vs, hH _ e, r.mono l⟩
  | dct xs => obtain ⟨f, vs, e, r⟩ := h; exact ⟨hF f, vs, hH _ e, r.mono l⟩
  | ins C fs => obtain ⟨f, dx, vs, e, r⟩ := h; exact ⟨hF f, dx, vs, hH _ e, r.mono l⟩
  | dead => obtain ⟨o, e, t⟩ := h; exact ⟨o, hH _ e, t⟩
theorem OOk.there {K : PySem.W.Frag} {F H : Hp} {a : Addr} {o : Ob} (h : OOk K F H a o) : ∃ u, H a = some u ∧ isT u = false := by
  cases o with
  | lst xs => obtain ⟨f, vs, e, r⟩ := h; exact ⟨_, e, rfl⟩
  | lk xs => obtain ⟨f, vs, e, r⟩ := h; exact ⟨_, e, rfl⟩
  | dct xs => obtain ⟨f, vs, e, r⟩ := h; exact ⟨_, e, rfl⟩
  | ins C fs => obtain ⟨f, dx, vs, e, r⟩ := h; exact ⟨_, e, rfl⟩
  | dead => exact h

/-- what stays of the entry's heap; the tables of code objects may grow -/
structure Frm (R : Ent) (H : Hp) : Prop where
  keep : ∀ a o, R.H a = some o → a ∉ R.ι → isT o = false → H a = some o
  tb : LamX.Tabs R.T H
theorem tabs_upd {T : List (Addr × Str)} {H : Hp} {a : Addr} {o o0 : HO} (t : LamX.Tabs T H) (h : H a = some o0) (d : isD o0 = true) : LamX.Tabs T (upd H a o) := fun p hp => by
  obtain ⟨ps, h1, h2, h3⟩ := t p hp
  refine ⟨ps, ?_, h2, fun pos cv hc => ?_⟩
  · rw [upd_ne (fun z => by rw [z, h] at h1; cases h1; cases d)]; exact h1
  · obtain ⟨c, e1, e2⟩ := h3 pos cv hc
    refine ⟨c, e1, ?_⟩
    rw [upd_ne (fun z => by rw [z, h] at e2; unfold LamX.CodeO at e2; cases e2; cases d)]; exact e2
theorem Frm.new {R : Ent} {H : Hp} {p : Addr} (f : Frm R H) (h : H p = none) (o : HO) : Frm R (upd H p o) := by
  refine ⟨fun a u e n t => ?_, f.tb.ext fun b o e => ?_⟩
  · have z := f.keep a u e n t
    rw [upd_ne (ne_of_none z h)]; exact z
  · rw [upd_ne (ne_of_none e h)]; exact e
theorem Frm.put {R : Ent} {H : Hp} {a : Addr} {o0 : HO} (f : Frm R H) (h : H a = some o0) (d : isD o0 = true) (hn : ∀ o, R.H a = some o → isT o = false → a ∈ R.ι) (o : HO) : Frm R (upd H a o) := by
  refine ⟨fun b u e n t => ?_, tabs_upd f.tb h d⟩
  have z := f.keep b u e n t
  rw [upd_ne (fun q => n (by rw [q]; exact hn u (by rw [← q]; exact e) t))]; exact z
/-- THE STATE -/
structure DI (K : PySem.W.Frag) (R : Ent) (ρ : En) (μ : Mu) (ι : List Addr) (F : Hp) (σ : L2.St) (H : Hp) : Prop where
  sub : ∀ a o, F a = some o → H a = some o
  nn : ρ.n = R.ι.length
  sl : ∀ (i : Nat) x, ρ.sl[i]? = some (some x) → ∃ v, σ[i]? = some (some v) ∧ Rsv K F ι v x
  len : ι.length = μ.length
  ob : ∀ (k : Nat) a o, ι[k]? = some a → μ[k]? = some o → OOk K F H a o
  nd : ι.Nodup
  fr : Frm R H
  F0 : Le R.F F
  Fn : ∀ a, F a ≠ none → R.F a ≠ none ∨ Nn (R.H a)
  ι0 : ∃ m, ι = R.ι ++ m ∧ ∀ a ∈ m, Nn (R.H a)
  ft : ∀ a o, F a = some o → isT o = false
section
variable {K : PySem.W.Frag} {R : Ent} {ρ : En} {μ : Mu} {ι : List Addr} {F : Hp} {σ : L2.St} {H : Hp}
theorem DI.there (I : DI K R ρ μ ι F σ H) {a : Addr} (h : a ∈ ι) : ∃ o, H a = some o ∧ isT o = false := by
  obtain ⟨k, hk, e⟩ := List.getElem_of_mem h
  have e1 : ι[k]? = some a := by rw [List.getElem?_eq_getElem hk, e]
  have hk2 : k < μ.length := by rw [← I.len]; exact hk
  exact (I.ob k a _ e1 (List.getElem?_eq_getElem hk2)).there
theorem DI.freshN (I : DI K R ρ μ ι F σ H) {p : Addr} (h : Nn (H p)) : p ∉ ι ∧ F p = none ∧ Nn (R.H p) := by
  have h1 : p ∉ ι := fun z => by
    obtain ⟨o, e, t⟩ := I.there z
    rw [h o e] at t; cases t
  have h2 : F p = none := by
    cases q : F p with
    | none => rfl
    | some o =>
      have t := I.ft p o q
      rw [h o (I.sub p o q)] at t; cases t
  refine ⟨h1, h2, fun o q => ?_⟩
  cases t : isT o with
  | true => rfl
  | false =>
    have h3 : p ∉ R.ι := fun z => by
      obtain ⟨m, e, _⟩ := I.ι0
      exact h1 (by rw [e]; exact List.mem_append_left _ z)
    have e := h o (I.fr.keep p o q h3 t)
    rw [t] at e; cases e
theorem DI.fresh (I : DI K R ρ μ ι F σ H) {p : Addr} (h : H p = none) : p ∉ ι ∧ F p = none ∧ Nn (R.H p) := I.freshN (nn_none h)
/-- a new frozen object -/
theorem DI.alloc (I : DI K R ρ μ ι F σ H) {p : Addr} (h : H p = none) (o : HO) (ho : isT o = false) : DI K R ρ μ ι (upd F p o) σ (upd H p o) ∧ Gw ι F ι (upd F p o) := by
  obtain ⟨h1, h2, h3⟩ := I.fresh h
  have l : Le F (upd F p o) := Le.upd h2
  refine ⟨⟨fun a u e => ?_, I.nn, fun i x e => ?_, I.len, fun k a u e1 e2 => ?_, I.nd, I.fr.new h o, I.F0.trans l, fun a e => ?_, I.ι0, fun a u e => ?_⟩, l, fun _ _ e => e⟩
  · by_cases q : a = p
    · subst q; rw [upd_same] at e; rw [upd_same]; exact e
    · rw [upd_ne q] at e; rw [upd_ne q]; exact I.sub a u e
  · obtain ⟨v, e1, r⟩ := I.sl i x e
    exact ⟨v, e1, r.mono ⟨l, fun _ _ e => e⟩⟩
  · have q : a ≠ p := fun z => h1 (by rw [← z]; exact List.mem_of_getElem? e1)
    exact (I.ob k a u e1 e2).le l (fun z => by rw [upd_ne q]; exact z) fun u z => by rw [upd_ne q]; exact z
  · by_cases q : a = p
    · subst q; exact .inr h3
    · rw [upd_ne q] at e; exact I.Fn a e
  · by_cases q : a = p
    · subst q; rw [upd_same] at e; cases e; exact ho
    · rw [upd_ne q] at e; exact I.ft a u e
theorem nodup_snoc {α : Type} {l : List α} {p : α} (h : l.Nodup) (n : p ∉ l) : (l ++ [p]).Nodup := by
  rw [List.nodup_append]
  refine ⟨h, by simp, fun a ha b hb => ?_⟩
  have e : b = p := by simpa using hb
  rw [e]
  intro z
  exact n (z ▸ ha)
/-- a new changing object -/
theorem DI.new (I : DI K R ρ μ ι F σ H) {p : Addr} (h : H p = none) (o : HO) {x : Ob} (ok : OOk K F (upd H p o) p x) :
    DI K R ρ (μ ++ [x]) (ι ++ [p]) F σ (upd H p o) ∧ Gw ι F (ι ++ [p]) F := by
  obtain ⟨h1, h2, h3⟩ := I.fresh h
  have ad : ∀ (k : Nat) a, ι[k]? = some a → (ι ++ [p])[k]? = some a := fun k a e => by
    rw [List.getElem?_append_left (List.getElem?_eq_some_iff.mp e).1]
    exact e
  have g : Gw ι F (ι ++ [p]) F := ⟨Le.refl F, ad⟩
  refine ⟨⟨fun a u e => ?_, I.nn, fun i x e => ?_, by simp [I.len], fun k a u e1 e2 => ?_, nodup_snoc I.nd h1, I.fr.new h o, I.F0, I.Fn, ?_, I.ft⟩, g⟩
  · rw [upd_ne (ne_of_none e h2)]; exact I.sub a u e
  · obtain ⟨v, e1, r⟩ := I.sl i x e
    exact ⟨v, e1, r.mono g⟩
  · by_cases hk : k < ι.length
    · rw [List.getElem?_append_left hk] at e1
      rw [List.getElem?_append_left (by rw [← I.len]; exact hk)] at e2
      have q : a ≠ p := fun z => h1 (by rw [← z]; exact List.mem_of_getElem? e1)
      exact (I.ob k a u e1 e2).le (Le.refl F) id fun u z => by rw [upd_ne q]; exact z
    · rw [List.getElem?_append_right (by omega)] at e1
      rw [List.getElem?_append_right (by rw [← I.len]; omega)] at e2
      have hk0 : k - ι.length = 0 := by
        have := (List.getElem?_eq_some_iff.mp e1).1
        simp at this
        exact this
      rw [hk0] at e1
      rw [← I.len, hk0] at e2
      simp at e1 e2
      subst e1 e2
      exact ok
  · obtain ⟨m, e, hm⟩ := I.ι0
    refine ⟨m ++ [p], by rw [e, List.append_assoc], fun a ha => ?_⟩
    rcases List.mem_append.mp ha with z | z
    · exact hm a z
    · have : a = p := by simpa using z
      rw [this]; exact h3
theorem nodup_get {α : Type} {l : List α} (h : l.Nodup) {i j : Nat} {x : α} (a : l[i]? = some x) (b : l[j]? = some x) : i = j := by
  obtain ⟨h1, e1⟩ := List.getElem?_eq_some_iff.mp a
  obtain ⟨h2, e2⟩ := List.getElem?_eq_some_iff.mp b
  exact (List.getElem_inj h).mp (e1.trans e2.symm)
/-- a changing object is changed -/
theorem DI.put (I : DI K R ρ μ ι F σ H) {k : Nat} {a : Addr} {x y : Ob} (ha : ι[k]? = some a) (hx : μ[k]? = some x) (hF : F a = none) {o0 : HO} (h0 : H a = some o0) (hd : isD o0 = true) (o : HO) (ok : OOk K F (upd H a o) a y) :
    DI K R ρ (μ.set k y) ι F σ (upd H a o) := by
  have hk : k < μ.length := (List.getElem?_eq_some_iff.mp hx).1
  refine ⟨fun b u e => ?_, I.nn, I.sl, by simp [I.len], fun j b u e1 e2 => ?_, I.nd, I.fr.put h0 hd (fun u e t => ?_) o, I.F0, I.Fn, I.ι0, I.ft⟩
  · rw [upd_ne (ne_of_none e hF)]; exact I.sub b u e
  · by_cases q : j = k
    · subst q
      rw [ha] at e1; cases e1
      rw [List.getElem?_set_self hk] at e2
      cases e2
      exact ok
    · rw [List.getElem?_set_ne (Ne.symm q)] at e2
      have nb : b ≠ a := fun z => q (nodup_get I.nd (z ▸ e1) ha)
      exact (I.ob j b u e1 e2).le (Le.refl F) id fun u z => by rw [upd_ne nb]; exact z
  · obtain ⟨m, e', hm⟩ := I.ι0
    have : a ∈ ι := List.mem_of_getElem? ha
    rw [e'] at this
    rcases List.mem_append.mp this with q | q
    · exact q
    · have z := hm a q u e
      rw [t] at z; cases z
/-- the same object, told otherwise (locked, unlocked) -/
theorem DI.re (I : DI K R ρ μ ι F σ H) {k : Nat} {a : Addr} {x y : Ob} (ha : ι[k]? = some a) (hx : μ[k]? = some x) (ok : OOk K F H a y) : DI K R ρ (μ.set k y) ι F σ H := by
  have hk : k < μ.length := (List.getElem?_eq_some_iff.mp hx).1
  refine ⟨I.sub, I.nn, I.sl, by simp [I.len], fun j b u e1 e2 => ?_, I.nd, I.fr, I.F0, I.Fn, I.ι0, I.ft⟩
  by_cases q : j = k
  · subst q
    rw [ha] at e1; cases e1
    rw [List.getElem?_set_self hk] at e2
    cases e2
    exact ok
  · rw [List.getElem?_set_ne (Ne.symm q)] at e2
    exact I.ob j b u e1 e2
/-- a slot is set -/
theorem DI.slot (I : DI K R ρ μ ι F σ H) {i : Nat} {v : V} {x : SV} (hi : i < σ.length) (r : Rsv K F ι v x) : DI K R ⟨ρ.sl.set i (some x), ρ.n⟩ μ ι F (σ.set i (some v)) H := by
  refine ⟨I.sub, I.nn, fun j y e => ?_, I.len, I.ob, I.nd, I.fr, I.F0, I.Fn, I.ι0, I.ft⟩
  have e : (ρ.sl.set i (some x))[j]? = some (some y) := e
  by_cases q : j = i
  · subst q
    have hj : j < ρ.sl.length := by
      by_cases z : j < ρ.sl.length
      · exact z
      · rw [List.getElem?_eq_none (by simp; omega)] at e; cases e
    rw [List.getElem?_set_self hj] at e
    cases e
    exact ⟨v, by rw [List.getElem?_set_self hi], r⟩
  · rw [List.getElem?_set_ne (Ne.symm q)] at e
    obtain ⟨w, e1, r1⟩ := I.sl j y e
    exact ⟨w, by rw [List.getElem?_set_ne (Ne.symm q)]; exact e1, r1⟩
/-- fewer slots known -/
theorem DI.weak (I : DI K R ρ μ ι F σ H) {ρ' : En} {σ' : L2.St} (hn : ρ'.n = ρ.n) (h : ∀ (i : Nat) x, ρ'.sl[i]? = some (some x) → ρ.sl[i]? = some (some x) ∧ ∀ v, σ[i]? = some (some v) → σ'[i]? = some (some v)) : DI K R ρ' μ ι F σ' H :=
  ⟨I.sub, hn.trans I.nn, fun i x e => by
    obtain ⟨e1, e2⟩ := h i x e
    obtain ⟨v, e3, r⟩ := I.sl i x e1
    exact ⟨v, e2 v e3, r⟩, I.len, I.ob, I.nd, I.fr, I.F0, I.Fn, I.ι0, I.ft⟩
end

/-! ### a changing object is frozen -/
def asD (ρ : En) (x : SV) (μ : Mu) : Option (Dat × Mu) := match x with
  | .d y => some (y, μ)
  | .r k => if ρ.n ≤ k then (match μ[k]? with
    | some (.lst xs) => some (.lst xs, μ.set k .dead)
    | some (.dct kvs) => some (.dct kvs, μ.set k .dead)
    | some (.ins C fs) => some (.ins C fs, μ.set k .dead)
    | _ => none) else none
section
variable {K : PySem.W.Frag} {R : Ent} {ρ : En} {μ μ' : Mu} {ι : List Addr} {F : Hp} {σ : L2.St} {H : Hp}
theorem DI.gone (I : DI K R ρ μ ι F σ H) {k : Nat} {a : Addr} {o : Ob} {u : HO} (hn : ρ.n ≤ k) (ha : ι[k]? = some a) (ho : μ[k]? = some o) (hF : F a = none) (hH : H a = some u) (hu : isT u = false) :
    DI K R ρ (μ.set k .dead) ι (upd F a u) σ H ∧ Gw ι F ι (upd F a u) := by
  have l : Le F (upd F a u) := Le.upd hF
  have hk : k < μ.length := (List.getElem?_eq_some_iff.mp ho).1
  refine ⟨⟨fun b w e => ?_, I.nn, fun i x e => ?_, by simp [I.len], fun j b w e1 e2 => ?_, I.nd, I.fr, I.F0.trans l, fun b e => ?_, I.ι0, fun b w e => ?_⟩, l, fun _ _ e => e⟩
  · by_cases q : b = a
    · subst q; rw [upd_same] at e; cases e; exact hH
    · rw [upd_ne q] at e; exact I.sub b w e
  · obtain ⟨v, e1, r⟩ := I.sl i x e
    exact ⟨v, e1, r.mono ⟨l, fun _ _ e => e⟩⟩
  · by_cases q : j = k
    · subst q
      rw [ha] at e1; cases e1
      rw [List.getElem?_set_self hk] at e2
      cases e2
      exact ⟨_, hH, hu⟩
    · rw [List.getElem?_set_ne (Ne.symm q)] at e2
      have nb : b ≠ a := fun z => q (nodup_get I.nd (z ▸ e1) ha)
      exact (I.ob j b w e1 e2).le l (fun z => by rw [upd_ne nb]; exact z) fun u z => z
  · by_cases q : b = a
    · subst q
      obtain ⟨m, e', hm⟩ := I.ι0
      refine .inr (hm b ?_)
      rw [e'] at ha
      rw [List.getElem?_append_right (by rw [← I.nn]; exact hn)] at ha
      exact List.mem_of_getElem? ha
    · rw [upd_ne q] at e; exact I.Fn b e
  · by_cases q : b = a
    · subst q; rw [upd_same] at e; cases e; exact hu
    · rw [upd_ne q] at e; exact I.ft b w e
theorem DI.frz (I : DI K R ρ μ ι F σ H) {v : V} {x : SV} {d : Dat} (r : Rsv K F ι v x) (h : asD ρ x μ = some (d, μ')) : ∃ F', DI K R ρ μ' ι F' σ H ∧ Gw ι F ι F' ∧ Rp K F' v d := by
  cases x with
  | d y =>
    have e : some (y, μ) = some (d, μ') := h
    cases e
    exact ⟨F, I, Gw.refl, r⟩
  | r k =>
    obtain ⟨a, ha, rfl⟩ := r
    have h1 : (if ρ.n ≤ k then (match μ[k]? with
      | some (.lst xs) => some (.lst xs, μ.set k .dead)
      | some (.dct kvs) => some (.dct kvs, μ.set k .dead)
      | some (.ins C fs) => some (.ins C fs, μ.set k .dead)
      | _ => none) else none) = some (d, μ') := h
    by_cases hn : ρ.n ≤ k
    · rw [if_pos hn] at h1
      cases e : μ[k]? with
      | none => rw [e] at h1; cases h1
      | some o =>
        rw [e] at h1
        have ok := I.ob k a o ha e
        cases o with
        | lst xs =>
          cases h1
          obtain ⟨f, vs, e1, rr⟩ := ok
          obtain ⟨J, g⟩ := I.gone hn ha e f e1 rfl
          exact ⟨_, J, g, .lst upd_same (rr.mono g.le)⟩
        | dct kvs =>
          cases h1
          obtain ⟨f, vs, e1, rr⟩ := ok
          obtain ⟨J, g⟩ := I.gone hn ha e f e1 rfl
          exact ⟨_, J, g, .dct (.inl upd_same) (rr.mono g.le)⟩
        | ins C fs =>
          cases h1
          obtain ⟨f, dx, vs, e1, rr⟩ := ok
          obtain ⟨J, g⟩ := I.gone hn ha e f e1 rfl
          exact ⟨_, J, g, .ins upd_same (rr.mono g.le)⟩
        | lk xs => cases h1
        | dead => cases h1
    · rw [if_neg hn] at h1; cases h1
end

/-! ### readings -/
def Pst {α : Type} (B : String → Mu → Prop) (good : α → Mu → Prop) : Res α → Prop
  | .ok a μ => good a μ
  | .ex x μ => B x μ
  | .bad => False
theorem Pst.bind {α β : Type} {B : String → Mu → Prop} {good : β → Mu → Prop} {r : Res α} {k : α → Mu → Res β} (h : Pst B good (r.bind k)) : Pst B (fun a μ => Pst B good (k a μ)) r := by
  cases r with
  | ok a μ => exact h
  | ex x μ => exact h
  | bad => exact h
theorem Pst.imp {α : Type} {B : String → Mu → Prop} {good good' : α → Mu → Prop} {r : Res α} (h : Pst B good r) (i : ∀ a μ, good a μ → good' a μ) : Pst B good' r := by
  cases r with
  | ok a μ => exact i a μ h
  | ex x μ => exact h
  | bad => exact h
theorem Pst.imp2 {α : Type} {B B' : String → Mu → Prop} {good good' : α → Mu → Prop} {r : Res α} (h : Pst B good r) (b : ∀ x μ, B x μ → B' x μ) (i : ∀ a μ, good a μ → good' a μ) : Pst B' good' r := by
  cases r with
  | ok a μ => exact i a μ h
  | ex x μ => exact b x μ h
  | bad => exact h
abbrev MG := Str → Option Value
/-- what is wished of an exception: its class by the module's name -/
def Bx (K : PySem.W.Frag) (mg : MG) (R : Ent) (W : WX) (ρ : En) (σ : L2.St) : String → Mu → Prop := fun nm μ => ∀ ι F H cls, mg (Str.ofString nm) = some cls → DI K R ρ μ ι F σ H → W cls none σ H
def tD (K : PySem.W.Frag) (mg : MG) (R : Ent) (W : WX) (f : EM) : TE := fun σ H Q => ∃ ρ μ ι F, DI K R ρ μ ι F σ H ∧
  Pst (Bx K mg R W ρ σ) (fun x μ' => ∀ ι' F' H' v, DI K R ρ μ' ι' F' σ H' → Gw ι F ι' F' → Rsv K F' ι' v x → Q v H') (f ρ μ)
def tDT (K : PySem.W.Frag) (mg : MG) (R : Ent) (W : WX) (f : BM) : TT := fun σ H Q => ∃ ρ μ ι F, DI K R ρ μ ι F σ H ∧
  Pst (Bx K mg R W ρ σ) (fun b μ' => ∀ ι' F' H', DI K R ρ μ' ι' F' σ H' → Gw ι F ι' F' → Q b H') (f ρ μ)
def tDA (K : PySem.W.Frag) (mg : MG) (R : Ent) (W : WX) (f : AM) : TA := fun σ H Q => ∃ ρ μ ι F, DI K R ρ μ ι F σ H ∧
  Pst (Bx K mg R W ρ σ) (fun xs μ' => ∀ ι' F' H' vs, DI K R ρ μ' ι' F' σ H' → Gw ι F ι' F' → Rsvs K F' ι' vs xs → Q vs H') (f ρ μ)
/-- n: the slots are as many as the names -/
def PsS (K : PySem.W.Frag) (mg : MG) (R : Ent) (W : WX) (n : Nat) (D : Ends) (ι0 : List Addr) (F0 : Hp) : SO → Prop
  | .nx ρ μ => ∀ ι F σ H, DI K R ρ μ ι F σ H → Gw ι0 F0 ι F → σ.length = n → D.nx σ H
  | .bk ρ μ => ∀ ι F σ H, DI K R ρ μ ι F σ H → Gw ι0 F0 ι F → σ.length = n → D.bk σ H
  | .ct ρ μ => ∀ ι F σ H, DI K R ρ μ ι F σ H → Gw ι0 F0 ι F → σ.length = n → D.ct σ H
  | .rt x μ => ∀ ρ ι F σ H v, DI K R ρ μ ι F σ H → Rsv K F ι v x → D.rt v H
  | .ex x ρ μ => ∀ σ, σ.length = n → Bx K mg R W ρ σ x μ
  | .bad => False
theorem PsS.mono {K : PySem.W.Frag} {mg : MG} {R : Ent} {W : WX} {n : Nat} {D : Ends} {ι0 ι1 : List Addr} {F0 F1 : Hp} {s : SO} (h : PsS K mg R W n D ι0 F0 s) (g : Gw ι0 F0 ι1 F1) : PsS K mg R W n D ι1 F1 s := by
  cases s with
  | nx ρ μ => exact fun ι F σ H I g1 hl => h ι F σ H I (g.trans g1) hl
  | bk ρ μ => exact fun ι F σ H I g1 hl => h ι F σ H I (g.trans g1) hl
  | ct ρ μ => exact fun ι F σ H I g1 hl => h ι F σ H I (g.trans g1) hl
  | rt x μ => exact h
  | ex x ρ μ => exact h
  | bad => exact h
def tDS (K : PySem.W.Frag) (mg : MG) (R : Ent) (W : WX) (n : Nat) (g : SM) : TS := fun D σ H => ∃ ρ μ ι F, DI K R ρ μ ι F σ H ∧ σ.length = n ∧ PsS K mg R W n D ι F (g ρ μ)
end DL

-- DL2
/-! DL2: expressions: names, constants, operators, comparisons, truth, and, or, not, if. -/
namespace DL
open PySem PySem.Spec PyProof.Rows L2

/-! ### weakening -/
section
variable {X : Cx}
theorem pe_imp {e : Expr} {t t' : TE} (h : PE X e t) (i : ∀ σ H Q, t' σ H Q → t σ H Q) : PE X e t' := ⟨fun pins s σ H Q I q => h.run pins s σ H Q I (i σ H Q q)⟩
theorem pt_imp {e : Expr} {t t' : TT} (h : PT X e t) (i : ∀ σ H Q, t' σ H Q → t σ H Q) : PT X e t' := ⟨fun pins s σ H Q I q => h.run pins s σ H Q I (i σ H Q q)⟩
theorem pw_imp {e : Expr} {t t' : TT} (h : PW X e t) (i : ∀ σ H Q, t' σ H Q → t σ H Q) : PW X e t' := ⟨fun wh pins s σ H Q I q => h.run wh pins s σ H Q I (i σ H Q q)⟩
theorem pa_imp {e : List Expr} {t t' : TA} (h : PA X e t) (i : ∀ σ H Q, t' σ H Q → t σ H Q) : PA X e t' := ⟨fun pos pins s σ H Q I q => h.run pos pins s σ H Q I (i σ H Q q)⟩
theorem ps_imp {e : Stmt} {t t' : TS} (h : PS X e t) (i : ∀ D σ H, t' D σ H → t D σ H) : PS X e t' := ⟨fun pins s σ H D I q => h.run pins s σ H D I (i D σ H q)⟩
theorem pss_imp {e : List Stmt} {t t' : TS} (h : PSs X e t) (i : ∀ D σ H, t' D σ H → t D σ H) : PSs X e t' := ⟨fun pins s σ H D I q => h.run pins s σ H D I (i D σ H q)⟩
end

/-! ### views: a value by its top, read off H -/
def Rv (K : PySem.W.Frag) (F H : Hp) (v : V) : Dat → Prop
  | .non => v = .non
  | .bl b => v = .bl b
  | .int i => v = .int i
  | .str x => v = .str x
  | .tup ds => ∃ a vs, v = .ref a ∧ (SqT K F a vs ∧ SqT K H a vs) ∧ Rps K F vs ds
  | .lst ds => ∃ a vs, v = .ref a ∧ H a = some (.lst vs) ∧ Rps K F vs ds
  | .dct ds => ∃ a ks, v = .ref a ∧ Rd H a (.dK ks) ∧ Rkv K F ks ds
  | .ins C ds => ∃ a dx fs, v = .ref a ∧ (F a = some (.ins C dx fs) ∧ H a = some (.ins C dx fs)) ∧ Rfs K F fs ds
  | .ob w => v = w
  | .scr ns => ∃ a, v = .ref a ∧ SqL K F a (ns.map V.int) ∧ SqL K H a (ns.map V.int)
def vw (x : SV) (μ : Mu) : Option Dat := match x with
  | .d y => some y
  | .r k => match μ[k]? with
    | some (.lst xs) => some (.lst xs)
    | some (.lk xs) => some (.lst xs)
    | some (.dct kvs) => some (.dct kvs)
    | _ => none
section
variable {K : PySem.W.Frag} {R : Ent} {ρ : En} {μ μ' : Mu} {ι : List Addr} {F H : Hp} {σ : L2.St}
theorem rd_sub {F H : Hp} (h : ∀ a o, F a = some o → H a = some o) {a : Addr} {u : HO} (r : Rd F a u) : Rd H a u := by
  rcases r with r | ⟨o, r⟩
  · exact .inl (h _ _ r)
  · exact .inr ⟨o, h _ _ r⟩
theorem Rp.view {v : V} {d : Dat} (s : ∀ a o, F a = some o → H a = some o) (r : Rp K F v d) : Rv K F H v d := by
  cases r with
  | non => rfl
  | bl b => rfl
  | int i => rfl
  | str x => rfl
  | tup h g => exact ⟨_, _, rfl, ⟨h, h.imp (rd_sub s) id⟩, g⟩
  | lst h g => exact ⟨_, _, rfl, s _ _ h, g⟩
  | dct h g => exact ⟨_, _, rfl, rd_sub s h, g⟩
  | ins h g => exact ⟨_, _, _, rfl, ⟨h, s _ _ h⟩, g⟩
  | ob w => rfl
  | scr ns h => exact ⟨_, rfl, h, h.imp (rd_sub s) id⟩
theorem DI.view (I : DI K R ρ μ ι F σ H) {v : V} {x : SV} {d : Dat} (r : Rsv K F ι v x) (h : vw x μ = some d) : Rv K F H v d := by
  cases x with
  | d y =>
    have e : some y = some d := h
    cases e
    exact Rp.view I.sub r
  | r k =>
    obtain ⟨a, ha, rfl⟩ := r
    have h1 : (match μ[k]? with
      | some (.lst xs) => some (Dat.lst xs)
      | some (.lk xs) => some (.lst xs)
      | some (.dct kvs) => some (.dct kvs)
      | _ => none) = some d := h
    cases e : μ[k]? with
    | none => rw [e] at h1; cases h1
    | some o =>
      rw [e] at h1
      have ok := I.ob k a o ha e
      cases o with
      | lst xs => cases h1; obtain ⟨f, vs, e1, rr⟩ := ok; exact ⟨a, vs, rfl, e1, rr⟩
      | lk xs => cases h1; obtain ⟨f, vs, e1, rr⟩ := ok; exact ⟨a, vs, rfl, e1, rr⟩
      | dct xs => cases h1; obtain ⟨f, vs, e1, rr⟩ := ok; exact ⟨a, vs, rfl, .inl e1, rr⟩
      | ins C fs => cases h1
      | dead => cases h1
end
theorem Rps.mono' {K : PySem.W.Frag} {F F' : Hp} {v : List V} {d : List Dat} (h : Rps K F v d) (l : Le F F') : Rps K F' v d := h.mono l
theorem Rv.le {K : PySem.W.Frag} {F F' H : Hp} {v : V} {d : Dat} (h : Rv K F H v d) (l : Le F F') : Rv K F' H v d := by
  cases d with
  | tup ds => obtain ⟨a, vs, e, s, r⟩ := h; exact ⟨a, vs, e, ⟨SqT.le l s.1, s.2⟩, r.mono l⟩
  | lst ds => obtain ⟨a, vs, e, s, r⟩ := h; exact ⟨a, vs, e, s, r.mono l⟩
  | dct ds => obtain ⟨a, vs, e, s, r⟩ := h; exact ⟨a, vs, e, s, r.mono l⟩
  | ins C ds => obtain ⟨a, dx, fs, e, s, r⟩ := h; exact ⟨a, dx, fs, e, ⟨l.h _ _ s.1, s.2⟩, r.mono l⟩
  | scr ns => obtain ⟨a, e, s, t⟩ := h; exact ⟨a, e, SqL.le l s, t⟩
  | _ => exact h
/-- at most one object more -/
def GH (F H F' H' : Hp) : Prop := (F' = F ∧ H' = H) ∨ ∃ p o, H p = none ∧ isT o = false ∧ F' = upd F p o ∧ H' = upd H p o
theorem DI.gh {K : PySem.W.Frag} {R : Ent} {ρ : En} {μ : Mu} {ι : List Addr} {F F' H H' : Hp} {σ : L2.St} (I : DI K R ρ μ ι F σ H) (g : GH F H F' H') : DI K R ρ μ ι F' σ H' ∧ Gw ι F ι F' := by
  rcases g with ⟨rfl, rfl⟩ | ⟨p, o, hp, ho, rfl, rfl⟩
  · exact ⟨I, Gw.refl⟩
  · exact I.alloc hp o ho

/-! ### names, constants -/
def ofO (o : Option Dat) (μ : Mu) : Res SV := match o with
  | some d => .ok (.d d) μ
  | none => .bad
def ofB (o : Option Bool) (μ : Mu) : Res Bool := match o with
  | some d => .ok d μ
  | none => .bad
def fVar (i : Nat) : EM := fun ρ μ => match ρ.sl[i]? with
  | some (some x) => .ok x μ
  | _ => .bad
def fC (d : Dat) : EM := fun _ μ => .ok (.d d) μ
section
variable {X : Cx} {R : Ent} {W : WX} {B : String → Mu → Prop} {mg : MG}
theorem de_var (i : Nat) {x : Str} {pos : Pos} (h : PE X (.Name x pos) (tVar i)) : PE X (.Name x pos) (tD X.K X.mg R W (fVar i)) := by
  refine pe_imp h fun σ H Q ⟨ρ, μ, ι, F, I, q⟩ => ?_
  unfold fVar at q
  cases e : ρ.sl[i]? with
  | none => rw [e] at q; exact q.elim
  | some o =>
    rw [e] at q
    cases o with
    | none => exact q.elim
    | some x =>
      obtain ⟨v, e1, r⟩ := I.sl i x e
      exact ⟨v, e1, q ι F H v I Gw.refl r⟩
theorem de_c {e : Expr} {v : V} {d : Dat} (h : PE X e (tC v)) (r : ∀ F : Hp, Rp X.K F v d) : PE X e (tD X.K X.mg R W (fC d)) :=
  pe_imp h fun σ H Q ⟨ρ, μ, ι, F, I, q⟩ => q ι F H v I Gw.refl (r F)
theorem de_int {i : Int} {j : Nat} {pos : Pos} : PE X (.Constant (.int i) j pos) (tD X.K X.mg R W (fC (.int i))) := de_c pe_int fun _ => .int i
theorem de_bl {b : Bool} {j : Nat} {pos : Pos} : PE X (.Constant (.bool b) j pos) (tD X.K X.mg R W (fC (.bl b))) := de_c pe_bl fun _ => .bl b
theorem de_non {j : Nat} {pos : Pos} : PE X (.Constant .none j pos) (tD X.K X.mg R W (fC .non)) := de_c pe_non fun _ => .non
theorem de_str {x : Str} {j : Nat} {pos : Pos} : PE X (.Constant (.str x) j pos) (tD X.K X.mg R W (fC (.str x))) := de_c pe_str fun _ => .str x
/-- a module's constant -/
theorem de_glob {x : Str} {v : V} {u : Value} {d : Dat} {pos : Pos} (hm : X.mg x = some u) (r : RelV v u) (rp : ∀ F : Hp, Rp X.K F v d) (hg : Gl X x := by rfl) (hd : (x == ("__debug__" : Str)) = false := by decide) : PE X (.Name x pos) (tD X.K X.mg R W (fC d)) :=
  de_c (pe_glob hg hm r hd) rp
end

/-! ### operators -/
abbrev O2 := Dat → Dat → Option Dat
def OpG (K : PySem.W.Frag) (r : R2) (op : O2) : Prop :=
  ∀ (F H : Hp) (v w : V) (x y d : Dat) (Q : VK), (∀ a o, F a = some o → H a = some o) → Rv K F H v x → Rv K F H w y → op x y = some d → (∀ v' H' F', GH F H F' H' → Rp K F' v' d → Q v' H') → r v w H Q
def o2 (op : O2) (x y : SV) (μ : Mu) : Res SV := match vw x μ with
  | some a => (match vw y μ with
    | some b => ofO (op a b) μ
    | none => .bad)
  | none => .bad
def fBin (op : O2) (fa fb : EM) : EM := fun ρ μ => (fa ρ μ).bind fun x μ1 => (fb ρ μ1).bind fun y μ2 => o2 op x y μ2
section
variable {X : Cx} {R : Ent} {W : WX} {B : String → Mu → Prop} {mg : MG}
theorem o2_ok {K : PySem.W.Frag} {r : R2} {op : O2} (hg : OpG K r op) {ρ : En} {μ : Mu} {ι : List Addr} {F H : Hp} {σ : L2.St} {v w : V} {x y : SV} {Q : VK} (I : DI K R ρ μ ι F σ H) (rv : Rsv K F ι v x) (rw : Rsv K F ι w y)
    (q : Pst B (fun z μ' => ∀ ι' F' H' v, DI K R ρ μ' ι' F' σ H' → Gw ι F ι' F' → Rsv K F' ι' v z → Q v H') (o2 op x y μ)) : r v w H Q := by
  unfold o2 at q
  cases e1 : vw x μ with
  | none => rw [e1] at q; exact q.elim
  | some a =>
    rw [e1] at q
    cases e2 : vw y μ with
    | none => rw [e2] at q; exact q.elim
    | some b =>
      rw [e2] at q
      have q : Pst _ _ (ofO (op a b) μ) := q
      cases e3 : op a b with
      | none => rw [e3] at q; exact q.elim
      | some d =>
        rw [e3] at q
        refine hg F H v w a b d Q I.sub (I.view rv e1) (I.view rw e2) e3 fun v' H' F' g rp => ?_
        obtain ⟨J, gw⟩ := I.gh g
        exact q ι F' H' v' J gw rp
theorem bin_ok {K : PySem.W.Frag} {ta tb : TE} {r : R2} {op : O2} {fa fb : EM} (hg : OpG K r op) {σ : L2.St} {H : Hp} {Q : VK} (ea : ta = tD K mg R W fa) (eb : tb = tD K mg R W fb) (h : tD K mg R W (fBin op fa fb) σ H Q) : tOp r ta tb σ H Q := by
  subst ea eb
  obtain ⟨ρ, μ, ι, F, I, q⟩ := h
  refine ⟨ρ, μ, ι, F, I, q.bind.imp fun x μ1 q1 ι1 F1 H1 v I1 g1 r1 => ⟨ρ, μ1, ι1, F1, I1, q1.bind.imp fun y μ2 q2 ι2 F2 H2 w I2 g2 r2 => ?_⟩⟩
  refine o2_ok hg I2 (r1.mono g2) r2 (q2.imp fun z μ' q3 ι' F' H' v' J g3 r3 => q3 ι' F' H' v' J ((g1.trans g2).trans g3) r3)
theorem de_bin {op : Operator} {r : R2} {f : O2} {a b : Expr} {fa fb : EM} {pos : Pos} (ho : OpR X (binaryOp op) r) (hg : OpG X.K r f) (ha : PE X a (tD X.K X.mg R W fa)) (hb : PE X b (tD X.K X.mg R W fb)) : PE X (.BinOp a op b pos) (tD X.K X.mg R W (fBin f fa fb)) :=
  pe_imp (pe_op ho ha hb) fun σ H Q h => bin_ok hg rfl rfl h
theorem de_cmp {op : CmpOp} {r : R2} {f : O2} {a b : Expr} {fa fb : EM} {pos : Pos} (ho : OpR X (compareOp op) r) (hg : OpG X.K r f) (ha : PE X a (tD X.K X.mg R W fa)) (hb : PE X b (tD X.K X.mg R W fb)) (hm : behindInMarks op b = false) : PE X (.Compare a [op] [b] pos) (tD X.K X.mg R W (fBin f fa fb)) :=
  pe_imp (pe_cmpR ho ha hb hm) fun σ H Q h => bin_ok hg rfl rfl h
/-- a value that is True or False, as a test's answer -/
def asB (x : SV) (μ : Mu) : Res Bool := match x with
  | .d (.bl b) => .ok b μ
  | _ => .bad
def fB (f : EM) : BM := fun ρ μ => (f ρ μ).bind fun x μ1 => asB x μ1
theorem tst_ok {K : PySem.W.Frag} {t : TE} {f : EM} {σ : L2.St} {H : Hp} {Q : Bool → Hp → Prop} (i : ∀ σ H Q, tD K mg R W f σ H Q → t σ H Q) (h : tDT K mg R W (fB f) σ H Q) : tTest t σ H Q := by
  obtain ⟨ρ, μ, ι, F, I, q⟩ := h
  refine i σ H _ ⟨ρ, μ, ι, F, I, q.bind.imp fun x μ1 q1 ι1 F1 H1 v I1 g1 r1 => ?_⟩
  unfold asB at q1
  cases x with
  | r k => exact q1.elim
  | d y =>
    cases y with
    | bl b =>
      cases r1
      exact ⟨b, rfl, q1 ι1 F1 H1 I1 g1⟩
    | _ => exact q1.elim
theorem dt_cmp {op : CmpOp} {r : R2} {f : O2} {a b : Expr} {fa fb : EM} {pos : Pos} (ho : OpR X (compareOp op) r) (hg : OpG X.K r f) (ha : PE X a (tD X.K X.mg R W fa)) (hb : PE X b (tD X.K X.mg R W fb)) (hm : behindInMarks op b = false) : PT X (.Compare a [op] [b] pos) (tDT X.K X.mg R W (fB (fBin f fa fb))) :=
  pt_imp (pt_cmpR ho ha hb hm) fun σ H Q h => tst_ok (fun σ H Q h => bin_ok hg rfl rfl h) h
/-- a comparison of three -/
def fCh (op op' : O2) (fa fb fc : EM) : EM := fun ρ μ => (fa ρ μ).bind fun x μ1 => (fb ρ μ1).bind fun y μ2 => (o2 op x y μ2).bind fun z μ3 => (asB z μ3).bind fun k μ4 => match k with
  | true => (fc ρ μ4).bind fun w μ5 => o2 op' y w μ5
  | false => .ok (.d (.bl false)) μ4
theorem chain_ok {K : PySem.W.Frag} {r r' : R2} {op op' : O2} {fa fb fc : EM} (hg : OpG K r op) (hg' : OpG K r' op') {σ : L2.St} {H : Hp} {Q : VK} (h : tD K mg R W (fCh op op' fa fb fc) σ H Q) :
    tD K mg R W fa σ H fun x H1 => tD K mg R W fb σ H1 fun y H2 => r x y H2 fun z H3 => ∃ k, z = .bl k ∧ if k = true then tD K mg R W fc σ H3 fun w H4 => r' y w H4 Q else Q (.bl false) H3 := by
  obtain ⟨ρ, μ, ι, F, I, q⟩ := h
  refine ⟨ρ, μ, ι, F, I, q.bind.imp fun x μ1 q1 ι1 F1 H1 v I1 g1 r1 => ⟨ρ, μ1, ι1, F1, I1, q1.bind.imp fun y μ2 q2 ι2 F2 H2 w I2 g2 r2 => ?_⟩⟩
  refine o2_ok hg I2 (r1.mono g2) r2 (q2.bind.imp fun z μ3 q3 ι3 F3 H3 v3 I3 g3 r3 => ?_)
  cases z with
  | r k => exact (show False from q3).elim
  | d z =>
    cases z with
    | bl k =>
      cases r3
      refine ⟨k, rfl, ?_⟩
      cases k with
      | false => exact q3 ι3 F3 H3 (.bl false) I3 ((g1.trans g2).trans g3) (.bl false)
      | true =>
        have q3 : Pst _ _ ((fc ρ μ3).bind fun w μ5 => o2 op' y w μ5) := q3
        refine ⟨ρ, μ3, ι3, F3, I3, q3.bind.imp fun u μ5 q5 ι5 F5 H5 v5 I5 g5 r5 => ?_⟩
        exact o2_ok hg' I5 (r2.mono (g3.trans g5)) r5 (q5.imp fun z μ' q6 ι' F' H' v' J g6 r6 => q6 ι' F' H' v' J ((((g1.trans g2).trans g3).trans g5).trans g6) r6)
    | _ => exact (show False from q3).elim
theorem de_chain {op op' : CmpOp} {r r' : R2} {f f' : O2} {a b c : Expr} {fa fb fc : EM} {pos : Pos} (ho : OpR X (compareOp op) r) (ho' : OpR X (compareOp op') r') (hg : OpG X.K r f) (hg' : OpG X.K r' f')
    (ha : PE X a (tD X.K X.mg R W fa)) (hb : PE X b (tD X.K X.mg R W fb)) (hc : PE X c (tD X.K X.mg R W fc)) (pe : PE X (.Compare a [op, op'] [b, c] pos) (tChain r r' (tD X.K X.mg R W fa) (tD X.K X.mg R W fb) (tD X.K X.mg R W fc))) :
    PE X (.Compare a [op, op'] [b, c] pos) (tD X.K X.mg R W (fCh f f' fa fb fc)) := pe_imp pe fun σ H Q h => chain_ok hg hg' h
theorem dt_chain {op op' : CmpOp} {r r' : R2} {f f' : O2} {a b c : Expr} {fa fb fc : EM} {pos : Pos} (hg : OpG X.K r f) (hg' : OpG X.K r' f')
    (pe : PT X (.Compare a [op, op'] [b, c] pos) (tTest (tChain r r' (tD X.K X.mg R W fa) (tD X.K X.mg R W fb) (tD X.K X.mg R W fc)))) :
    PT X (.Compare a [op, op'] [b, c] pos) (tDT X.K X.mg R W (fB (fCh f f' fa fb fc))) := pt_imp pe fun σ H Q h => tst_ok (fun σ H Q h => chain_ok hg hg' h) h
end

/-! ### truth -/
def truD : Dat → Option Bool
  | .non => some false
  | .bl b => some b
  | .int i => some (i != 0)
  | .str x => if x.length ≤ sizeLine then some (x.length != 0) else none
  | .tup xs => some (!xs.isEmpty)
  | .lst xs => some (!xs.isEmpty)
  | _ => none
def fTru (f : EM) : BM := fun ρ μ => (f ρ μ).bind fun x μ1 => match vw x μ1 with
  | some d => ofB (truD d) μ1
  | none => .bad
section
variable {X : Cx} {R : Ent} {W : WX} {B : String → Mu → Prop} {mg : MG}
theorem nat_int_ne (n : Nat) : ((n : Int) != 0) = (n != 0) := by
  cases n with
  | zero => rfl
  | succ n =>
    have h1 : ((((n + 1 : Nat)) : Int) != 0) = true := by
      rw [bne_iff_ne]
      omega
    rw [h1]
    rfl
theorem tru_of {K : PySem.W.Frag} {F H : Hp} {v : V} {d : Dat} {k : Bool} (r : Rv K F H v d) (e : truD d = some k) : TruV K v H k := by
  cases d with
  | non => cases (show v = V.non from r); cases e; rfl
  | bl b => cases (show v = V.bl b from r); cases e; rfl
  | int i => cases (show v = V.int i from r); cases e; rfl
  | str x =>
    cases (show v = V.str x from r)
    have e1 : (if x.length ≤ sizeLine then some (x.length != 0) else none) = some k := e
    by_cases h : x.length ≤ sizeLine
    · rw [if_pos h] at e1
      cases e1
      exact ⟨h, (nat_int_ne _).symm⟩
    · rw [if_neg h] at e1; cases e1
  | tup ds =>
    obtain ⟨a, vs, rfl, ⟨_, s⟩, rr⟩ := (show ∃ a vs, v = .ref a ∧ (SqT K F a vs ∧ SqT K H a vs) ∧ Rps K F vs ds from r)
    cases e
    refine .inr (.inl ⟨vs, s, ?_⟩)
    cases rr <;> rfl
  | lst ds =>
    obtain ⟨a, vs, rfl, s, rr⟩ := (show ∃ a vs, v = .ref a ∧ H a = some (.lst vs) ∧ Rps K F vs ds from r)
    cases e
    refine .inl ⟨vs, .inl (.inl s), ?_⟩
    cases rr <;> rfl
  | dct ds => cases e
  | ins C ds => cases e
  | ob w => cases e
  | scr ns => cases e
theorem dt_tru {e : Expr} {f : EM} (h : PE X e (tD X.K X.mg R W f)) (he : ∀ whole, isTrue e X.env whole = (do let v ← whole; standAt e.pos; holding [v] (truthy v)) := by intro _; rfl) : PT X e (tDT X.K X.mg R W (fTru f)) := by
  refine pt_imp (pt_truth h he) fun σ H Q ⟨ρ, μ, ι, F, I, q⟩ => ⟨ρ, μ, ι, F, I, q.bind.imp fun x μ1 q1 ι1 F1 H1 v I1 g1 r1 => ?_⟩
  cases e1 : vw x μ1 with
  | none => rw [e1] at q1; exact q1.elim
  | some d =>
    rw [e1] at q1
    cases e2 : truD d with
    | none =>
      have q2 : Pst _ _ (ofB (truD d) μ1) := q1
      rw [e2] at q2
      exact q2.elim
    | some k =>
      have q2 : Pst _ _ (ofB (truD d) μ1) := q1
      rw [e2] at q2
      exact ⟨k, tru_of (I1.view r1 e1) e2, q2 ι1 F1 H1 I1 g1⟩

/-! ### and, or, not, if -/
def bAnd (f g : BM) : BM := fun ρ μ => (f ρ μ).bind fun b μ1 => match b with
  | true => g ρ μ1
  | false => .ok false μ1
def bOr (f g : BM) : BM := fun ρ μ => (f ρ μ).bind fun b μ1 => match b with
  | true => .ok true μ1
  | false => g ρ μ1
def bNot (f : BM) : BM := fun ρ μ => (f ρ μ).bind fun b μ1 => .ok (!b) μ1
variable {a b : Expr} {rest : List Expr} {pos : Pos} {f g : BM} {fa fb : EM}
theorem dw_and1 (h : PT X a (tDT X.K X.mg R W f)) : PW X (.BoolOp .And [a] pos) (tDT X.K X.mg R W f) := pw_and1 h
theorem dw_or1 (h : PT X a (tDT X.K X.mg R W f)) : PW X (.BoolOp .Or [a] pos) (tDT X.K X.mg R W f) := pw_or1 h
theorem dw_and (h : PT X a (tDT X.K X.mg R W f)) (k : PW X (.BoolOp .And (b :: rest) pos) (tDT X.K X.mg R W g)) : PW X (.BoolOp .And (a :: b :: rest) pos) (tDT X.K X.mg R W (bAnd f g)) := by
  refine pw_imp (pw_and h k) fun σ H Q ⟨ρ, μ, ι, F, I, q⟩ => ⟨ρ, μ, ι, F, I, q.bind.imp fun c μ1 q1 ι1 F1 H1 I1 g1 => ?_⟩
  cases c with
  | false => exact q1 ι1 F1 H1 I1 g1
  | true => exact ⟨ρ, μ1, ι1, F1, I1, Pst.imp q1 fun c μ2 q2 ι2 F2 H2 I2 g2 => q2 ι2 F2 H2 I2 (g1.trans g2)⟩
theorem dw_or (h : PT X a (tDT X.K X.mg R W f)) (k : PW X (.BoolOp .Or (b :: rest) pos) (tDT X.K X.mg R W g)) : PW X (.BoolOp .Or (a :: b :: rest) pos) (tDT X.K X.mg R W (bOr f g)) := by
  refine pw_imp (pw_or h k) fun σ H Q ⟨ρ, μ, ι, F, I, q⟩ => ⟨ρ, μ, ι, F, I, q.bind.imp fun c μ1 q1 ι1 F1 H1 I1 g1 => ?_⟩
  cases c with
  | true => exact q1 ι1 F1 H1 I1 g1
  | false => exact ⟨ρ, μ1, ι1, F1, I1, Pst.imp q1 fun c μ2 q2 ι2 F2 H2 I2 g2 => q2 ι2 F2 H2 I2 (g1.trans g2)⟩
theorem dt_not (h : PT X a (tDT X.K X.mg R W f)) : PT X (.UnaryOp .Not a pos) (tDT X.K X.mg R W (bNot f)) :=
  pt_imp (pt_not h) fun σ H Q ⟨ρ, μ, ι, F, I, q⟩ => ⟨ρ, μ, ι, F, I, q.bind.imp fun c μ1 q1 ι1 F1 H1 I1 g1 => q1 ι1 F1 H1 I1 g1⟩
/-- as values, by truth -/
def tru1 (x : SV) (μ : Mu) : Res Bool := match vw x μ with
  | some d => ofB (truD d) μ
  | none => .bad
def fAnd (fa fb : EM) : EM := fun ρ μ => (fa ρ μ).bind fun x μ1 => (tru1 x μ1).bind fun k μ2 => match k with
  | true => fb ρ μ2
  | false => .ok x μ2
def fOr (fa fb : EM) : EM := fun ρ μ => (fa ρ μ).bind fun x μ1 => (tru1 x μ1).bind fun k μ2 => match k with
  | true => .ok x μ2
  | false => fb ρ μ2
def fNot (fa : EM) : EM := fun ρ μ => (fa ρ μ).bind fun x μ1 => (tru1 x μ1).bind fun k μ2 => .ok (.d (.bl (!k))) μ2
theorem tru1_ok {ρ : En} {μ : Mu} {ι : List Addr} {F H : Hp} {σ : L2.St} {v : V} {x : SV} {good : Bool → Mu → Prop} (I : DI X.K R ρ μ ι F σ H) (r : Rsv X.K F ι v x) (q : Pst B good (tru1 x μ)) : ∃ k, TruV X.K v H k ∧ good k μ := by
  unfold tru1 at q
  cases e1 : vw x μ with
  | none => rw [e1] at q; exact q.elim
  | some d =>
    rw [e1] at q
    have q2 : Pst B good (ofB (truD d) μ) := q
    cases e2 : truD d with
    | none => rw [e2] at q2; exact q2.elim
    | some k => rw [e2] at q2; exact ⟨k, tru_of (I.view r e1) e2, q2⟩
theorem de_one {op : BoolOp} (h : PE X a (tD X.K X.mg R W fa)) : PE X (.BoolOp op [a] pos) (tD X.K X.mg R W fa) := pe_one h
theorem de_and (h : PE X a (tD X.K X.mg R W fa)) (k : PE X (.BoolOp .And (b :: rest) pos) (tD X.K X.mg R W fb)) : PE X (.BoolOp .And (a :: b :: rest) pos) (tD X.K X.mg R W (fAnd fa fb)) := by
  refine pe_imp (pe_andT h k) fun σ H Q ⟨ρ, μ, ι, F, I, q⟩ => ⟨ρ, μ, ι, F, I, q.bind.imp fun x μ1 q1 ι1 F1 H1 v I1 g1 r1 => ?_⟩
  obtain ⟨k, t, q2⟩ := tru1_ok I1 r1 q1.bind
  refine ⟨k, t, ?_⟩
  cases k with
  | false => exact q2 ι1 F1 H1 v I1 g1 r1
  | true => exact ⟨ρ, μ1, ι1, F1, I1, Pst.imp q2 fun y μ2 q3 ι2 F2 H2 w I2 g2 r2 => q3 ι2 F2 H2 w I2 (g1.trans g2) r2⟩
theorem de_or (h : PE X a (tD X.K X.mg R W fa)) (k : PE X (.BoolOp .Or (b :: rest) pos) (tD X.K X.mg R W fb)) : PE X (.BoolOp .Or (a :: b :: rest) pos) (tD X.K X.mg R W (fOr fa fb)) := by
  refine pe_imp (pe_orT h k) fun σ H Q ⟨ρ, μ, ι, F, I, q⟩ => ⟨ρ, μ, ι, F, I, q.bind.imp fun x μ1 q1 ι1 F1 H1 v I1 g1 r1 => ?_⟩
  obtain ⟨k, t, q2⟩ := tru1_ok I1 r1 q1.bind
  refine ⟨k, t, ?_⟩
  cases k with
  | true => exact q2 ι1 F1 H1 v I1 g1 r1
  | false => exact ⟨ρ, μ1, ι1, F1, I1, Pst.imp q2 fun y μ2 q3 ι2 F2 H2 w I2 g2 r2 => q3 ι2 F2 H2 w I2 (g1.trans g2) r2⟩
theorem de_not (h : PE X a (tD X.K X.mg R W fa)) : PE X (.UnaryOp .Not a pos) (tD X.K X.mg R W (fNot fa)) := by
  refine pe_imp (pe_notT h) fun σ H Q ⟨ρ, μ, ι, F, I, q⟩ => ⟨ρ, μ, ι, F, I, q.bind.imp fun x μ1 q1 ι1 F1 H1 v I1 g1 r1 => ?_⟩
  obtain ⟨k, t, q2⟩ := tru1_ok I1 r1 q1.bind
  exact ⟨k, t, q2 ι1 F1 H1 _ I1 g1 (.bl _)⟩
def fIf (t : BM) (fa fb : EM) : EM := fun ρ μ => (t ρ μ).bind fun k μ1 => match k with
  | true => fa ρ μ1
  | false => fb ρ μ1
theorem de_if {c : Expr} (hc : PT X c (tDT X.K X.mg R W f)) (h : PE X a (tD X.K X.mg R W fa)) (k : PE X b (tD X.K X.mg R W fb)) : PE X (.IfExp c a b pos) (tD X.K X.mg R W (fIf f fa fb)) := by
  refine pe_imp (pe_ifExp hc h k) fun σ H Q ⟨ρ, μ, ι, F, I, q⟩ => ⟨ρ, μ, ι, F, I, q.bind.imp fun c μ1 q1 ι1 F1 H1 I1 g1 => ?_⟩
  cases c with
  | true => exact ⟨ρ, μ1, ι1, F1, I1, Pst.imp q1 fun y μ2 q3 ι2 F2 H2 w I2 g2 r2 => q3 ι2 F2 H2 w I2 (g1.trans g2) r2⟩
  | false => exact ⟨ρ, μ1, ι1, F1, I1, Pst.imp q1 fun y μ2 q3 ι2 F2 H2 w I2 g2 r2 => q3 ι2 F2 H2 w I2 (g1.trans g2) r2⟩
end
end DL

-- DL3
/-! DL3: calls (entry and end), argument lists, statements, targets, loops. -/
namespace DL
open PySem PySem.Spec PyProof.Rows L2

section
variable {K : PySem.W.Frag} {R : Ent} {ρ ρ' : En} {μ μ' : Mu} {ι ι' : List Addr} {F F' : Hp} {σ σ' : L2.St} {H H' : Hp}
theorem DI.gw {T : List (Addr × Str)} (J : DI K ⟨H, F, ι, T⟩ ρ' μ' ι' F' σ' H') : Gw ι F ι' F' := by
  obtain ⟨m, e, _⟩ := J.ι0
  refine ⟨J.F0, fun k a h => ?_⟩
  rw [e]
  rw [List.getElem?_append_left (List.getElem?_eq_some_iff.mp h).1]
  exact h
/-- behind a call, or any piece that was told from its own entry -/
theorem DI.after (I : DI K R ρ μ ι F σ H) (J : DI K ⟨H, F, ι, R.T⟩ ρ' μ' ι' F' σ' H') : DI K R ρ μ' ι' F' σ H' := by
  have g := J.gw
  have h3 : ∀ a, Nn (H a) → Nn (R.H a) := fun a h => (I.freshN h).2.2
  refine ⟨J.sub, I.nn, fun i x e => ?_, J.len, J.ob, J.nd, ⟨fun a o e n t => J.fr.keep a o (I.fr.keep a o e n t) ?_ t, J.fr.tb⟩, I.F0.trans J.F0, fun a e => ?_, ?_, J.ft⟩
  · obtain ⟨v, e1, r⟩ := I.sl i x e
    exact ⟨v, e1, r.mono g⟩
  · intro z
    obtain ⟨m, e', hm⟩ := I.ι0
    have z : a ∈ ι := z
    rw [e'] at z
    rcases List.mem_append.mp z with q | q
    · exact n q
    · have z := hm a q o e
      rw [t] at z; cases z
  · rcases J.Fn a e with q | q
    · exact I.Fn a q
    · exact .inr (h3 a q)
  · obtain ⟨m, e1, hm⟩ := I.ι0
    obtain ⟨m', e2, hm'⟩ := J.ι0
    have e2 : ι' = ι ++ m' := e2
    refine ⟨m ++ m', by rw [e2, e1, List.append_assoc], fun a ha => ?_⟩
    rcases List.mem_append.mp ha with z | z
    · exact hm a z
    · exact h3 a (hm' a z)
/-- the slots told anew, at the end of a piece that was told from its own entry -/
theorem DI.into (I : DI K R ρ μ ι F σ H) (J : DI K ⟨H, F, ι, R.T⟩ ρ' μ' ι' F' σ' H') (hn : ρ'.n = ι.length) (h : ∀ (i : Nat) x, ρ'.sl[i]? = some (some x) → True) : DI K R ⟨ρ'.sl, ρ.n⟩ μ' ι' F' σ' H' :=
  let A := I.after J
  ⟨A.sub, A.nn, J.sl, A.len, A.ob, A.nd, A.fr, A.F0, A.Fn, A.ι0, A.ft⟩
theorem DI.enter (I : DI K R ρ μ ι F σ H) : DI K ⟨H, F, ι, R.T⟩ ⟨[], ι.length⟩ μ ι F [] H :=
  ⟨I.sub, rfl, fun i x e => by simp at e, I.len, I.ob, I.nd, ⟨fun a o e _ _ => e, I.fr.tb⟩, Le.refl F, fun a e => .inl e, ⟨[], by simp, by simp⟩, I.ft⟩
/-- the same with the slots -/
theorem DI.here (I : DI K R ρ μ ι F σ H) : DI K ⟨H, F, ι, R.T⟩ ⟨ρ.sl, ι.length⟩ μ ι F σ H :=
  ⟨I.sub, rfl, I.sl, I.len, I.ob, I.nd, ⟨fun a o e _ _ => e, I.fr.tb⟩, Le.refl F, fun a e => .inl e, ⟨[], by simp, by simp⟩, I.ft⟩
theorem DI.slots (I : DI K R ρ μ ι F σ H) {ρ' : En} {σ' : L2.St} (hn : ρ'.n = ρ.n) (h : ∀ (i : Nat) x, ρ'.sl[i]? = some (some x) → ∃ v, σ'[i]? = some (some v) ∧ Rsv K F ι v x) : DI K R ρ' μ ι F σ' H :=
  ⟨I.sub, hn.trans I.nn, h, I.len, I.ob, I.nd, I.fr, I.F0, I.Fn, I.ι0, I.ft⟩
/-- what was made since the entry is forgotten -/
theorem DI.trunc (I : DI K R ρ μ ι F σ H) : DI K R ⟨[], ρ.n⟩ (μ.take ρ.n) (ι.take ρ.n) F [] H ∧ ι.take ρ.n = R.ι := by
  obtain ⟨m, e, hm⟩ := I.ι0
  have e2 : ι.take ρ.n = R.ι := by
    rw [I.nn, e]
    simp
  refine ⟨⟨I.sub, I.nn, fun i x e => by simp at e, ?_, fun k a o h1 h2 => ?_, ?_, I.fr, I.F0, I.Fn, ?_, I.ft⟩, e2⟩
  · rw [List.length_take, List.length_take, I.len]
  · rw [List.getElem?_take] at h1 h2
    by_cases q : k < ρ.n
    · rw [if_pos q] at h1 h2
      exact I.ob k a o h1 h2
    · rw [if_neg q] at h1; cases h1
  · exact I.nd.sublist (List.take_sublist _ _)
  · exact ⟨[], by rw [e2]; simp, by simp⟩
end
def Res.trunc {α : Type} (n : Nat) : Res α → Res α
  | .ok a μ => .ok a (μ.take n)
  | .ex x μ => .ex x (μ.take n)
  | .bad => .bad

/-! ### a def's contract -/
abbrev FnM := List SV → Mu → Res SV
def spD (K : PySem.W.Frag) (mg : MG) (T : List (Addr × Str)) (n : Nat) (Fn : FnM) : Sp := fun vs H Q E => vs.length = n ∧ ∃ μ ι F xs, DI K ⟨H, F, ι, T⟩ ⟨[], ι.length⟩ μ ι F [] H ∧ Rsvs K F ι vs xs ∧
  Pst (fun nm μ' => ∀ ι' F' H' cls, mg (Str.ofString nm) = some cls → DI K ⟨H, F, ι, T⟩ ⟨[], ι.length⟩ μ' ι' F' [] H' → E cls none H')
    (fun x μ' => ∀ ι' F' H' v, DI K ⟨H, F, ι, T⟩ ⟨[], ι.length⟩ μ' ι' F' [] H' → Rsv K F' ι' v x → Q v H') (Fn xs μ)
theorem Rsvs.length {K : PySem.W.Frag} {F : Hp} {ι : List Addr} {vs : List V} {xs : List SV} (h : Rsvs K F ι vs xs) : vs.length = xs.length := by
  induction h with
  | nil => rfl
  | cons _ _ ih => rw [List.length_cons, List.length_cons, ih]
theorem Rsvs.get {K : PySem.W.Frag} {F : Hp} {ι : List Addr} {vs : List V} {xs : List SV} (h : Rsvs K F ι vs xs) {i : Nat} {x : SV} (e : xs[i]? = some x) : ∃ v, vs[i]? = some v ∧ Rsv K F ι v x := by
  induction h generalizing i with
  | nil => simp at e
  | cons a _ ih =>
    cases i with
    | zero =>
      simp at e
      subst e
      exact ⟨_, rfl, a⟩
    | succ i =>
      obtain ⟨v, h1, h2⟩ := ih (i := i) (by simpa using e)
      exact ⟨v, by simpa using h1, h2⟩

/-! ### argument lists -/
def fNil : AM := fun _ μ => .ok [] μ
def fCons (f : EM) (g : AM) : AM := fun ρ μ => (f ρ μ).bind fun x μ1 => (g ρ μ1).bind fun xs μ2 => .ok (x :: xs) μ2
/-- frozen -/
def fZ (f : EM) : EM := fun ρ μ => (f ρ μ).bind fun x μ1 => match asD ρ x μ1 with
  | some (d, μ2) => .ok (.d d) μ2
  | none => .bad
section
variable {X : Cx} {R : Ent} {W : WX} {e : Expr} {es : List Expr} {f : EM} {g : AM}
theorem da_nil : PA X [] (tDA X.K X.mg R W fNil) := pa_imp pa_nil fun σ H Q ⟨ρ, μ, ι, F, I, q⟩ => q ι F H [] I Gw.refl .nil
theorem da_cons (ha : PE X e (tD X.K X.mg R W f)) (hr : PA X es (tDA X.K X.mg R W g)) (hs : starEach (e :: es) X.env = (false, eval e X.env) :: starEach es X.env := by rfl) : PA X (e :: es) (tDA X.K X.mg R W (fCons f g)) := by
  refine pa_imp (pa_cons ha hr hs) fun σ H Q ⟨ρ, μ, ι, F, I, q⟩ => ⟨ρ, μ, ι, F, I, q.bind.imp fun x μ1 q1 ι1 F1 H1 v I1 g1 r1 => ⟨ρ, μ1, ι1, F1, I1, q1.bind.imp fun xs μ2 q2 ι2 F2 H2 vs I2 g2 r2 => ?_⟩⟩
  exact q2 ι2 F2 H2 (v :: vs) I2 (g1.trans g2) (.cons (r1.mono g2) r2)
theorem de_frz (h : PE X e (tD X.K X.mg R W f)) : PE X e (tD X.K X.mg R W (fZ f)) := by
  refine pe_imp h fun σ H Q ⟨ρ, μ, ι, F, I, q⟩ => ⟨ρ, μ, ι, F, I, q.bind.imp fun x μ1 q1 ι1 F1 H1 v I1 g1 r1 => ?_⟩
  cases e1 : asD ρ x μ1 with
  | none => rw [e1] at q1; exact q1.elim
  | some p =>
    obtain ⟨d, μ2⟩ := p
    rw [e1] at q1
    obtain ⟨F2, J, g2, r2⟩ := I1.frz r1 e1
    exact q1 ι1 F2 H1 v J (g1.trans g2) r2
end

/-! ### calls by the module's name -/
/-- what a call may let out is wished -/
abbrev TkE (X : Cx) (W : WX) : Prop := ∀ σ, PassesAt (L2.CX X.prog X.w) X σ (WE W σ)
theorem tkE {X : Cx} {W : WX} (tk : Takes X W) : TkE X W := passAt tk
def fCall (n : Nat) (Fn : FnM) (fa : AM) : EM := fun ρ μ => (fa ρ μ).bind fun xs μ1 => if xs.length = n then Fn xs μ1 else .bad
section
variable {X : Cx} {R : Ent} {W : WX} {k : Nat} {f : Addr} {fd : FuncData} {ps : List Str} {Fn : FnM} {fa : AM} {x : Str} {p pos : Pos} {e : Expr} {es : List Expr}
theorem sp_in {K : PySem.W.Frag} {mg : MG} {n : Nat} {ρ : En} {μ : Mu} {ι : List Addr} {F H : Hp} {σ : L2.St} {vs : List V} {xs : List SV} {Q : VK} (I : DI K R ρ μ ι F σ H) (r : Rsvs K F ι vs xs)
    (q : Pst (Bx K mg R W ρ σ) (fun x μ' => ∀ ι' F' H' v, DI K R ρ μ' ι' F' σ H' → Gw ι F ι' F' → Rsv K F' ι' v x → Q v H') (if xs.length = n then Fn xs μ else .bad)) : spD K mg R.T n Fn vs H Q (WE W σ) := by
  by_cases hn : xs.length = n
  · rw [if_pos hn] at q
    exact ⟨by rw [r.length, hn], μ, ι, F, xs, I.enter, r, q.imp2 (fun nm μ' b ι' F' H' cls hc J => b ι' F' H' cls hc (I.after J)) fun x μ' g ι' F' H' v J r' => g ι' F' H' v (I.after J) J.gw r'⟩
  · rw [if_neg hn] at q
    exact q.elim
theorem de_call {n : Nat} {T : List (Addr × Str)} (hT : R.T = T) (Fo : FnOk X.prog X.w X.K X.mg X.base (L2.CX X.prog X.w) k f fd ps (spD X.K X.mg T n Fn)) (tk : TkE X W) (hr : Room k X.A) (hm : X.mg x = some (.ref f)) (hk : PySem.W.keepIn X.K (.ref f) = true) (hb : Binds X.K fd ps [])
    (ha : PA X (e :: es) (tDA X.K X.mg R W fa)) (hg : Gl X x := by rfl) (hdb : (x == ("__debug__" : Str)) = false := by decide) (he : starEach (e :: es) X.env = (false, eval e X.env) :: starEach es X.env := by rfl) (hpl : (backTo pos (starEach es X.env)).any (·.1) = false := by rfl) :
    PE X (.Call (.Name x p) (e :: es) [] pos) (tD X.K X.mg R W (fCall n Fn fa)) := by
  subst hT
  exact pe_imp (pe_callS Fo hr hg hm hk hb tk ha hdb he hpl) fun σ H Q ⟨ρ, μ, ι, F, I, q⟩ => ⟨ρ, μ, ι, F, I, q.bind.imp fun xs μ1 q1 ι1 F1 H1 vs I1 g1 r1 =>
    sp_in I1 r1 (q1.imp fun x μ' q2 ι' F' H' v J g2 r2 => q2 ι' F' H' v J (g1.trans g2) r2)⟩
theorem de_call0 {n : Nat} {T : List (Addr × Str)} (hT : R.T = T) (Fo : FnOk X.prog X.w X.K X.mg X.base (L2.CX X.prog X.w) k f fd ps (spD X.K X.mg T n Fn)) (tk : TkE X W) (hr : Room k X.A) (hm : X.mg x = some (.ref f)) (hk : PySem.W.keepIn X.K (.ref f) = true) (hb : Binds X.K fd ps [])
    (hg : Gl X x := by rfl) (hdb : (x == ("__debug__" : Str)) = false := by decide) :
    PE X (.Call (.Name x p) [] [] pos) (tD X.K X.mg R W (fCall n Fn fNil)) := by
  subst hT
  refine ⟨fun pins s σ H Q I ⟨ρ, μ, ι, F, J, q⟩ => ?_⟩
  refine wpAny_Call_Name_kw (ld_glob I hg hm ?_ hdb)
  exact PySem.W.callWith_K0 I.kIn hk (run_fnS (E := WE W) (us := []) Fo hr hb (tk σ) I .nil (sp_in J .nil q))
end

/-! ### statements -/
def sE (f : EM) (k : SV → En → Mu → SO) : SM := fun ρ μ => match f ρ μ with
  | .ok x μ1 => k x ρ μ1
  | .ex nm μ1 => .ex nm ρ μ1
  | .bad => .bad
def sT (f : BM) (k : Bool → En → Mu → SO) : SM := fun ρ μ => match f ρ μ with
  | .ok x μ1 => k x ρ μ1
  | .ex nm μ1 => .ex nm ρ μ1
  | .bad => .bad
def sNx : SM := fun ρ μ => .nx ρ μ
def sBk : SM := fun ρ μ => .bk ρ μ
def sCt : SM := fun ρ μ => .ct ρ μ
def sSeq (a b : SM) : SM := fun ρ μ => match a ρ μ with
  | .nx ρ1 μ1 => b ρ1 μ1
  | .rt x μ1 => .rt x μ1
  | .bk ρ1 μ1 => .bk ρ1 μ1
  | .ct ρ1 μ1 => .ct ρ1 μ1
  | .ex x ρ1 μ1 => .ex x ρ1 μ1
  | .bad => .bad
def sIf (c : BM) (a b : SM) : SM := sT c fun k ρ μ => match k with
  | true => a ρ μ
  | false => b ρ μ
def sRet (f : EM) : SM := sE f fun x _ μ => .rt x μ
def sDrop (f : EM) : SM := sE f fun _ ρ μ => .nx ρ μ
section
variable {X : Cx} {R : Ent} {W : WX} {n : Nat} {K : PySem.W.Frag} {mg : MG} {D : Ends} {ρ : En} {μ : Mu} {σ : L2.St}
theorem sE_ok {f : EM} {k : SV → En → Mu → SO} {ι : List Addr} {F : Hp} (hl : σ.length = n) (q : PsS K mg R W n D ι F (sE f k ρ μ)) : Pst (Bx K mg R W ρ σ) (fun x μ1 => PsS K mg R W n D ι F (k x ρ μ1)) (f ρ μ) := by
  unfold sE at q
  cases e : f ρ μ with
  | ok x μ1 => rw [e] at q; exact q
  | ex x μ1 =>
    rw [e] at q
    have q : PsS K mg R W n D ι F (.ex x ρ μ1) := q
    exact q σ hl
  | bad => rw [e] at q; exact q
theorem sT_ok {f : BM} {k : Bool → En → Mu → SO} {ι : List Addr} {F : Hp} (hl : σ.length = n) (q : PsS K mg R W n D ι F (sT f k ρ μ)) : Pst (Bx K mg R W ρ σ) (fun x μ1 => PsS K mg R W n D ι F (k x ρ μ1)) (f ρ μ) := by
  unfold sT at q
  cases e : f ρ μ with
  | ok x μ1 => rw [e] at q; exact q
  | ex x μ1 =>
    rw [e] at q
    have q : PsS K mg R W n D ι F (.ex x ρ μ1) := q
    exact q σ hl
  | bad => rw [e] at q; exact q
theorem dss_nil : PSs X [] (tDS X.K X.mg R W n sNx) := pss_imp pss_nil fun D σ H ⟨ρ, μ, ι, F, I, hl, q⟩ => q ι F σ H I Gw.refl hl
theorem dss_cons {st : Stmt} {rest : List Stmt} {a b : SM} (h1 : PS X st (tDS X.K X.mg R W n a)) (h2 : PSs X rest (tDS X.K X.mg R W n b)) : PSs X (st :: rest) (tDS X.K X.mg R W n (sSeq a b)) := by
  refine pss_imp (pss_cons h1 h2) fun D σ H ⟨ρ, μ, ι, F, I, hl, q⟩ => ⟨ρ, μ, ι, F, I, hl, ?_⟩
  unfold sSeq at q
  cases e : a ρ μ with
  | nx ρ1 μ1 => rw [e] at q; exact fun ι1 F1 σ1 H1 I1 g1 hl1 => ⟨ρ1, μ1, ι1, F1, I1, hl1, q.mono g1⟩
  | rt x μ1 => rw [e] at q; exact q
  | bk ρ1 μ1 => rw [e] at q; exact q
  | ct ρ1 μ1 => rw [e] at q; exact q
  | ex x ρ1 μ1 => rw [e] at q; exact q
  | bad => rw [e] at q; exact q
theorem dss_one {st : Stmt} {a : SM} (h : PS X st (tDS X.K X.mg R W n a)) : PSs X [st] (tDS X.K X.mg R W n a) := pss_imp (pss_one h) fun D σ H h => h
theorem ds_pass {pos : Pos} : PS X (.Pass pos) (tDS X.K X.mg R W n sNx) := ps_imp ps_pass fun D σ H ⟨ρ, μ, ι, F, I, hl, q⟩ => q ι F σ H I Gw.refl hl
theorem ds_brk {pos : Pos} : PS X (.Break pos) (tDS X.K X.mg R W n sBk) := ps_imp ps_break fun D σ H ⟨ρ, μ, ι, F, I, hl, q⟩ => q ι F σ H I Gw.refl hl
theorem ds_cnt {pos : Pos} : PS X (.Continue pos) (tDS X.K X.mg R W n sCt) := ps_imp ps_continue fun D σ H ⟨ρ, μ, ι, F, I, hl, q⟩ => q ι F σ H I Gw.refl hl
theorem ds_if {c : Expr} {a b : List Stmt} {pos : Pos} {fc : BM} {fa fb : SM} (hc : PT X c (tDT X.K X.mg R W fc)) (ha : PSs X a (tDS X.K X.mg R W n fa)) (hb : PSs X b (tDS X.K X.mg R W n fb)) : PS X (.If c a b pos) (tDS X.K X.mg R W n (sIf fc fa fb)) := by
  refine ps_imp (ps_if hc ha hb) fun D σ H ⟨ρ, μ, ι, F, I, hl, q⟩ => ⟨ρ, μ, ι, F, I, (sT_ok hl q).imp fun k μ1 q1 ι1 F1 H1 I1 g1 => ?_⟩
  cases k with
  | true => exact ⟨ρ, μ1, ι1, F1, I1, hl, PsS.mono q1 g1⟩
  | false => exact ⟨ρ, μ1, ι1, F1, I1, hl, PsS.mono q1 g1⟩
theorem ds_ret {e : Expr} {pos : Pos} {f : EM} (h : PE X e (tD X.K X.mg R W f)) : PS X (.Return (some e) pos) (tDS X.K X.mg R W n (sRet f)) :=
  ps_imp (ps_ret h) fun D σ H ⟨ρ, μ, ι, F, I, hl, q⟩ => ⟨ρ, μ, ι, F, I, (sE_ok hl q).imp fun x μ1 q1 ι1 F1 H1 v I1 g1 r1 => q1 ρ ι1 F1 σ H1 v I1 r1⟩
def sRetN : SM := fun _ μ => .rt (.d .non) μ
theorem ds_retN {pos : Pos} : PS X (.Return none pos) (tDS X.K X.mg R W n sRetN) :=
  ps_imp ps_retN fun D σ H ⟨ρ, μ, ι, F, I, hl, q⟩ => q ρ ι F σ H .non I .non
theorem ds_expr {e : Expr} {pos : Pos} {f : EM} (h : PE X e (tD X.K X.mg R W f)) (hs : swapsWith e none pos.line X.env = pure false := by rfl) : PS X (.Expr e pos) (tDS X.K X.mg R W n (sDrop f)) :=
  ps_imp (ps_expr h hs) fun D σ H ⟨ρ, μ, ι, F, I, hl, q⟩ => ⟨ρ, μ, ι, F, I, (sE_ok hl q).imp fun x μ1 q1 ι1 F1 H1 v I1 g1 r1 => q1 ι1 F1 σ H1 I1 g1 hl⟩
theorem ds_never {st : Stmt} : PS X st (tDS X.K X.mg R W n fun _ _ => .bad) := ps_imp ps_never fun D σ H ⟨ρ, μ, ι, F, I, hl, q⟩ => q

/-! ### targets -/
abbrev GM := SV → En → Mu → Option En
abbrev GsM := List SV → En → Mu → Option En
/-- vs: the slots that it sets -/
def tDG (K : PySem.W.Frag) (R : Ent) (n : Nat) (vs : List Nat) (g : GM) : TG := fun v σ H Q => ∃ ρ μ ι F x, DI K R ρ μ ι F σ H ∧ σ.length = n ∧ Rsv K F ι v x ∧ ∃ ρ', g x ρ μ = some ρ' ∧
  ∀ σ', DI K R ρ' μ ι F σ' H → σ'.length = n → (∀ ws, (∀ j ∈ vs, j ∈ ws) → wipe σ' ws = wipe σ ws) → Q σ' H
def tDGs (K : PySem.W.Frag) (R : Ent) (n : Nat) (vs : List Nat) (g : GsM) : TGs := fun us σ H Q => ∃ ρ μ ι F xs, DI K R ρ μ ι F σ H ∧ σ.length = n ∧ Rsvs K F ι us xs ∧ ∃ ρ', g xs ρ μ = some ρ' ∧
  ∀ σ', DI K R ρ' μ ι F σ' H → σ'.length = n → (∀ ws, (∀ j ∈ vs, j ∈ ws) → wipe σ' ws = wipe σ ws) → Q σ' H
def gN (i : Nat) : GM := fun x ρ _ => some ⟨ρ.sl.set i (some x), ρ.n⟩
def gO : GsM := fun xs ρ _ => match xs with
  | [] => some ρ
  | _ => none
def gC (g : GM) (h : GsM) : GsM := fun xs ρ μ => match xs with
  | x :: r => (match g x ρ μ with
    | some ρ1 => h r ρ1 μ
    | none => none)
  | _ => none
def gT (m : Nat) (h : GsM) : GM := fun x ρ μ => match vw x μ with
  | some (.tup ds) => if ds.length = m then h (ds.map SV.d) ρ μ else none
  | some (.lst ds) => if ds.length = m then h (ds.map SV.d) ρ μ else none
  | _ => none
theorem wipe_set {σ : L2.St} {i : Nat} {o : Option V} : ∀ {ws : List Nat}, i ∈ ws → wipe (σ.set i o) ws = wipe σ ws
  | w :: ws, h => by
    show (wipe (σ.set i o) ws).set w none = (wipe σ ws).set w none
    by_cases q : i ∈ ws
    · rw [wipe_set q]
    · have e : i = w := by
        rcases List.mem_cons.mp h with z | z
        · exact z
        · exact absurd z q
      subst e
      have gen : ∀ (ws : List Nat) (σ : L2.St), i ∉ ws → wipe (σ.set i o) ws = (wipe σ ws).set i o := by
        intro ws
        induction ws with
        | nil => intro σ _; rfl
        | cons w ws ih =>
          intro σ hn
          have h1 : i ≠ w := fun z => hn (by rw [z]; exact List.mem_cons_self)
          have h2 : i ∉ ws := fun z => hn (List.mem_cons_of_mem _ z)
          show (wipe (σ.set i o) ws).set w none = ((wipe σ ws).set w none).set i o
          rw [ih σ h2, List.set_comm _ _ h1]
      rw [gen ws σ q, List.set_set]
theorem dg_name {i : Nat} {x : Str} {pos : Pos} (hN : X.N.Nodup) (hi : X.N[i]? = some x) (hx : Loc X.env.scope x) (hn : i < n) (hf : X.fn x = true ∨ X.env.scope.names.lookup x = some .local := by first | exact .inl rfl | exact .inr rfl | assumption) : PG X (.Name x pos) (tDG X.K R n [i] (gN i)) := by
  refine ⟨fun pins s σ H v u Q I r ⟨ρ, μ, ι, F, y, J, hl, ry, ρ', e, q⟩ => (pg_name hN hi hx hf).run pins s σ H v u Q I r ?_⟩
  cases e
  exact q _ (J.slot (by rw [hl]; exact hn) ry) (by rw [List.length_set]; exact hl) fun ws h => wipe_set (h i (by simp))
theorem dgs_nil : PGs X [] (tDGs X.K R n [] gO) := by
  refine ⟨fun pins s σ H v u Q I r ⟨ρ, μ, ι, F, y, J, hl, ry, ρ', e, q⟩ => pgs_nil.run pins s σ H v u Q I r ?_⟩
  cases ry with
  | nil => cases e; exact ⟨rfl, q σ J hl fun ws _ => rfl⟩
  | cons a b => cases e
theorem dgs_cons {e : Expr} {es : List Expr} {v1 v2 : List Nat} {g : GM} {h : GsM} (h1 : PG X e (tDG X.K R n v1 g)) (h2 : PGs X es (tDGs X.K R n v2 h))
    (hs : (assignEach (e :: es) X.env).map (·.2) = assign e X.env :: (assignEach es X.env).map (·.2) := by rfl) : PGs X (e :: es) (tDGs X.K R n (v1 ++ v2) (gC g h)) := by
  refine ⟨fun pins s σ H v u Q I r ⟨ρ, μ, ι, F, y, J, hl, ry, ρ', e, q⟩ => (pgs_cons h1 h2 hs).run pins s σ H v u Q I r ?_⟩
  cases ry with
  | nil => cases e
  | @cons v0 vs d ds a b =>
    dsimp only [gC] at e
    cases e1 : g d ρ μ with
    | none => rw [e1] at e; cases e
    | some ρ1 =>
      rw [e1] at e
      refine ⟨v0, vs, rfl, ρ, μ, ι, F, d, J, hl, a, ρ1, e1, fun σ1 J1 hl1 w1 => ⟨ρ1, μ, ι, F, ds, J1, hl1, b, ρ', e, fun σ2 J2 hl2 w2 => q σ2 J2 hl2 fun ws hw => ?_⟩⟩
      rw [w2 ws fun j hj => hw j (List.mem_append_right _ hj), w1 ws fun j hj => hw j (List.mem_append_left _ hj)]
theorem rps_rsvs {F : Hp} {ι : List Addr} : ∀ {vs : List V} {ds : List Dat}, Rps K F vs ds → Rsvs K F ι vs (ds.map SV.d)
  | [], _, h => by cases h; exact .nil
  | v :: vs, _, h => by
    cases h with
    | cons a b => exact .cons a (rps_rsvs b)
theorem dg_tup {es : List Expr} {k m : Nat} {pos : Pos} {vs : List Nat} {h : GsM} (hc : X.calm = true) (hs : PGs X es (tDGs X.K R n vs h)) (p1 : PG X (.Tuple es k pos) (L2.gTup X.K m (tDGs X.K R n vs h))) (p2 : PG X (.Tuple es k pos) (L2.gLst X.K m (tDGs X.K R n vs h))) :
    PG X (.Tuple es k pos) (tDG X.K R n vs (gT m h)) := by
  refine ⟨fun pins s σ H v u Q I r ⟨ρ, μ, ι, F, y, J, hl, ry, ρ', e, q⟩ => ?_⟩
  unfold gT at e
  cases e1 : vw y μ with
  | none => rw [e1] at e; cases e
  | some d =>
    rw [e1] at e
    have rv := J.view ry e1
    cases d with
    | tup ds =>
      have e : (if ds.length = m then h (ds.map SV.d) ρ μ else none) = some ρ' := e
      by_cases hm : ds.length = m
      · rw [if_pos hm] at e
        obtain ⟨a, ws, rfl, ⟨_, sq⟩, rr⟩ := rv
        exact p1.run pins s σ H _ u Q I r ⟨a, ws, rfl, sq, by rw [rr.length, hm], ρ, μ, ι, F, _, J, hl, rps_rsvs rr, ρ', e, q⟩
      · rw [if_neg hm] at e; cases e
    | lst ds =>
      have e : (if ds.length = m then h (ds.map SV.d) ρ μ else none) = some ρ' := e
      by_cases hm : ds.length = m
      · rw [if_pos hm] at e
        obtain ⟨a, ws, rfl, sq, rr⟩ := rv
        exact p2.run pins s σ H _ u Q I r ⟨a, ws, rfl, .inl (.inl sq), by rw [rr.length, hm], ρ, μ, ι, F, _, J, hl, rps_rsvs rr, ρ', e, q⟩
      · rw [if_neg hm] at e; cases e
    | _ => cases e

/-! ### assignments -/
def sSet (f : EM) (g : GM) : SM := sE f fun x ρ μ => match g x ρ μ with
  | some ρ1 => .nx ρ1 μ
  | none => .bad
theorem asg_ok {f : EM} {g : GM} {vs : List Nat} {D : Ends} {σ : L2.St} {H : Hp} (h : tDS K mg R W n (sSet f g) D σ H) : tD K mg R W f σ H fun x H1 => tDG K R n vs g x σ H1 D.nx := by
  obtain ⟨ρ, μ, ι, F, I, hl, q⟩ := h
  refine ⟨ρ, μ, ι, F, I, (sE_ok hl q).imp fun x μ1 q1 ι1 F1 H1 v I1 g1 r1 => ?_⟩
  cases e : g x ρ μ1 with
  | none => rw [e] at q1; exact q1.elim
  | some ρ1 =>
    rw [e] at q1
    exact ⟨ρ, μ1, ι1, F1, x, I1, hl, r1, ρ1, e, fun σ' J hl' _ => q1 ι1 F1 σ' H1 J g1 hl'⟩
theorem ds_asg {tg e : Expr} {pos : Pos} {f : EM} {g : GM} {vs : List Nat} (he : PE X e (tD X.K X.mg R W f)) (hg : PG X tg (tDG X.K R n vs g)) (hs : swapsWithSole [tg] e pos.line X.env = pure false := by rfl) (hw : swappedStores [tg] e X.env = pure none := by rfl)
    (h1 : (assignEach [tg] X.env).map (·.2) = [assign tg X.env] := by rfl) : PS X (.Assign [tg] e pos) (tDS X.K X.mg R W n (sSet f g)) :=
  ps_imp (ps_asg he hg hs hw h1) fun D σ H h => asg_ok h
theorem ds_set {i : Nat} {x : Str} {e : Expr} {f : EM} {pos pos' : Pos} (hN : X.N.Nodup) (hi : X.N[i]? = some x) (hx : Loc X.env.scope x) (hn : i < n) (he : PE X e (tD X.K X.mg R W f)) (hs : swapsWith e (some (.Name x pos')) pos.line X.env = pure false := by rfl)
    (hf : X.fn x = true ∨ X.env.scope.names.lookup x = some .local := by first | exact .inl rfl | exact .inr rfl | assumption) : PS X (.Assign [.Name x pos'] e pos) (tDS X.K X.mg R W n (sSet f (gN i))) :=
  ps_imp (ps_set hN hi hx he hs hf) fun D σ H ⟨ρ, μ, ι, F, I, hl, q⟩ => ⟨ρ, μ, ι, F, I, (sE_ok hl q).imp fun x μ1 q1 ι1 F1 H1 v I1 g1 r1 =>
    q1 ι1 F1 _ H1 (I1.slot (by rw [hl]; exact hn) r1) g1 (by rw [List.length_set]; exact hl)⟩
/-- a, b = x, y -/
def sPar (i j : Nat) (fa : AM) : SM := fun ρ μ => match fa ρ μ with
  | .ok [x, y] μ1 => .nx ⟨(ρ.sl.set i (some x)).set j (some y), ρ.n⟩ μ1
  | .ok _ _ => .bad
  | .ex nm μ1 => .ex nm ρ μ1
  | .bad => .bad
theorem ds_par {st : Stmt} {i j : Nat} {fa : AM} (h : PS X st (tPar i j (tDA X.K X.mg R W fa))) (hi : i < n) (hj : j < n) : PS X st (tDS X.K X.mg R W n (sPar i j fa)) := by
  refine ps_imp h fun D σ H ⟨ρ, μ, ι, F, I, hl, q⟩ => ⟨ρ, μ, ι, F, I, ?_⟩
  unfold sPar at q
  cases e : fa ρ μ with
  | bad => rw [e] at q; exact q
  | ex nm μ1 =>
    rw [e] at q
    exact (show PsS X.K X.mg R W n D ι F (.ex nm ρ μ1) from q) σ hl
  | ok xs μ1 =>
    rw [e] at q
    intro ι1 F1 H1 vs I1 g1 r1
    cases r1 with
    | nil => exact q.elim
    | cons a b =>
      cases b with
      | nil => exact q.elim
      | cons b c =>
        cases c with
        | cons _ _ => exact q.elim
        | nil =>
          refine ⟨_, _, rfl, q ι1 F1 _ H1 ((I1.slot (by rw [hl]; exact hi) a).slot (by rw [List.length_set, hl]; exact hj) b) g1 (by rw [List.length_set, List.length_set]; exact hl)⟩
def sAug (i : Nat) (op : O2) (f : EM) : SM := fun ρ μ => match ρ.sl[i]? with
  | some (some x) => sE f (fun y ρ μ1 => match o2 op x y μ1 with
    | .ok z μ2 => .nx ⟨ρ.sl.set i (some z), ρ.n⟩ μ2
    | .ex _ _ => .bad
    | .bad => .bad) ρ μ
  | _ => .bad
theorem ds_aug {i : Nat} {x : Str} {e : Expr} {op : Operator} {r : R2} {o : O2} {f : EM} {pos pos' : Pos} (hN : X.N.Nodup) (hi : X.N[i]? = some x) (hx : Loc X.env.scope x) (hn : i < n) (he : PE X e (tD X.K X.mg R W f)) (ho : PIp X op r) (hg : OpG X.K r o)
    (hf : X.fn x = true ∨ X.env.scope.names.lookup x = some .local := by first | exact .inl rfl | exact .inr rfl | assumption) : PS X (.AugAssign (.Name x pos') op e pos) (tDS X.K X.mg R W n (sAug i o f)) := by
  refine ps_imp (ps_aug hN hi hx he ho hf) fun D σ H ⟨ρ, μ, ι, F, I, hl, q⟩ => ?_
  unfold sAug at q
  cases e1 : ρ.sl[i]? with
  | none => rw [e1] at q; exact q.elim
  | some y =>
    cases y with
    | none => rw [e1] at q; exact q.elim
    | some y =>
      rw [e1] at q
      obtain ⟨v, e2, rv⟩ := I.sl i y e1
      refine ⟨v, e2, ρ, μ, ι, F, I, (sE_ok hl q).imp fun w μ1 q1 ι1 F1 H1 u I1 g1 r1 => ?_⟩
      refine o2_ok (B := fun _ _ => True) hg I1 (rv.mono g1) r1 ?_
      cases e3 : o2 o y w μ1 with
      | ok z μ2 =>
        rw [e3] at q1
        intro ι2 F2 H2 v2 I2 g2 r2
        exact q1 ι2 F2 _ H2 (I2.slot (by rw [hl]; exact hn) r2) (g1.trans g2) (by rw [List.length_set]; exact hl)
      | ex _ _ => rw [e3] at q1; exact q1.elim
      | bad => rw [e3] at q1; exact q1.elim

/-! ### while -/
def whGo (c : BM) (b : SM) : Nat → SM
  | 0, _, _ => .bad
  | m + 1, ρ, μ => sT c (fun k ρ1 μ1 => match k with
    | true => (match b ρ1 μ1 with
      | .nx ρ2 μ2 => whGo c b m ρ2 μ2
      | .ct ρ2 μ2 => whGo c b m ρ2 μ2
      | .bk ρ2 μ2 => .nx ρ2 μ2
      | .rt x μ2 => .rt x μ2
      | .ex x ρ2 μ2 => .ex x ρ2 μ2
      | .bad => .bad)
    | false => .nx ρ1 μ1) ρ μ
def sWh (fu : En → Mu → Nat) (c : BM) (b : SM) : SM := fun ρ μ => whGo c b (fu ρ μ) ρ μ
theorem ds_while {c : Expr} {body : List Stmt} {pos : Pos} {fc : BM} {fb : SM} (fu : En → Mu → Nat) (hp : PassesOwn (model X.prog X.w) X.A X.env X.xe) (hc : PT X c (tDT X.K X.mg R W fc)) (hb : PSs X body (tDS X.K X.mg R W n fb)) : PS X (.While c body [] pos) (tDS X.K X.mg R W n (sWh fu fc fb)) := by
  refine ps_imp (ps_while hp hc hb) fun D σ H ⟨ρ, μ, ι, F, I, hl, q⟩ => ?_
  refine ⟨fun m σ H => ∃ ρ μ ι F, DI X.K R ρ μ ι F σ H ∧ σ.length = n ∧ PsS X.K X.mg R W n D ι F (whGo fc fb m ρ μ), ⟨fu ρ μ, ρ, μ, ι, F, I, hl, q⟩, ?_⟩
  rintro m σ H ⟨ρ, μ, ι, F, I, hl, q⟩
  cases m with
  | zero => exact q.elim
  | succ m =>
    refine ⟨ρ, μ, ι, F, I, (sT_ok hl q).imp fun k μ1 q1 ι1 F1 H1 I1 g1 => ?_⟩
    cases k with
    | false => exact q1 ι1 F1 σ H1 I1 g1 hl
    | true =>
      refine ⟨fun σ H => ∃ ρ μ ι F, DI X.K R ρ μ ι F σ H ∧ σ.length = n ∧ PsS X.K X.mg R W n D ι F (whGo fc fb m ρ μ), fun σ' H' h => ⟨m, Nat.lt_succ_self m, h⟩, ρ, μ1, ι1, F1, I1, hl, ?_⟩
      have q1 : PsS X.K X.mg R W n D ι F (match fb ρ μ1 with
        | .nx ρ2 μ2 => whGo fc fb m ρ2 μ2
        | .ct ρ2 μ2 => whGo fc fb m ρ2 μ2
        | .bk ρ2 μ2 => .nx ρ2 μ2
        | .rt x μ2 => .rt x μ2
        | .ex x ρ2 μ2 => .ex x ρ2 μ2
        | .bad => .bad) := q1
      cases e : fb ρ μ1 with
      | nx ρ2 μ2 => rw [e] at q1; exact fun ι2 F2 σ2 H2 I2 g2 hl2 => ⟨ρ2, μ2, ι2, F2, I2, hl2, q1.mono (g1.trans g2)⟩
      | ct ρ2 μ2 => rw [e] at q1; exact fun ι2 F2 σ2 H2 I2 g2 hl2 => ⟨ρ2, μ2, ι2, F2, I2, hl2, q1.mono (g1.trans g2)⟩
      | bk ρ2 μ2 => rw [e] at q1; exact q1.mono g1
      | rt x μ2 => rw [e] at q1; exact q1
      | ex x ρ2 μ2 => rw [e] at q1; exact q1
      | bad => rw [e] at q1; exact q1

/-! ### what is walked -/
def ItOk (K : PySem.W.Frag) (J : It) (ι0 : List Addr) (F0 : Hp) (xs : List Dat) : Prop := ∀ R ρ μ ι F σ H, DI K R ρ μ ι F σ H → Gw ι0 F0 ι F → ∀ i,
  (∀ d, xs[i]? = some d → J.go i H ∧ ∀ x H', J.yld i H x H' → ∃ F', DI K R ρ μ ι F' σ H' ∧ Gw ι F ι F' ∧ (∀ a o, H a = some o → H' a = some o) ∧ Rp K F' x d) ∧ (xs.length ≤ i → J.stop i H)
abbrev IM := En → Mu → Res (List Dat)
def tDI (K : PySem.W.Frag) (mg : MG) (R : Ent) (W : WX) (f : IM) : TI := fun σ H Q => ∃ ρ μ ι F, DI K R ρ μ ι F σ H ∧
  Pst (Bx K mg R W ρ σ) (fun xs μ' => ∀ ι' F' H' J, DI K R ρ μ' ι' F' σ H' → Gw ι F ι' F' → ItOk K J ι' F' xs → Q J H') (f ρ μ)
/-- a frozen list or tuple -/
def iSeq (f : EM) : IM := fun ρ μ => (f ρ μ).bind fun x μ1 => match x with
  | .d (.lst xs) => .ok xs μ1
  | .d (.tup xs) => .ok xs μ1
  | .d (.str z) => .ok (z.cps.toList.map fun c => Dat.str ⟨#[c]⟩) μ1
  | _ => .bad
theorem its_ok {z : Str} {ι0 : List Addr} {F0 : Hp} : ItOk K (Its z) ι0 F0 (z.cps.toList.map fun c => Dat.str ⟨#[c]⟩) := by
  intro R ρ μ ι F σ H I g i
  refine ⟨fun d e => ?_, fun hi => ?_⟩
  · have hlt : i < z.cps.size := by
      have h1 := (List.getElem?_eq_some_iff.mp e).1
      simpa using h1
    refine ⟨hlt, fun x H' ⟨eH, c, hc, ex⟩ => ?_⟩
    subst eH
    subst ex
    have e2 : d = .str ⟨#[c]⟩ := by
      rw [List.getElem?_map, Array.getElem?_toList, hc] at e
      simpa using e.symm
    subst e2
    exact ⟨F, I, Gw.refl, fun _ _ q => q, .str _⟩
  · show z.cps.size ≤ i
    simpa using hi
theorem itl_ok {a : Addr} {vs : List V} {xs : List Dat} {ι0 : List Addr} {F0 : Hp} (h : F0 a = some (.lst vs)) (r : Rps K F0 vs xs) : ItOk K (Itl K a) ι0 F0 xs := by
  intro R ρ μ ι F σ H I g i
  have h1 : SqL K H a vs := .inl (.inl (I.sub _ _ (g.le.h _ _ h)))
  refine ⟨fun d e => ?_, fun hi => ⟨vs, h1, by rw [r.length]; exact hi⟩⟩
  obtain ⟨v, e1, rv⟩ := r.get e
  refine ⟨⟨vs, v, h1, e1⟩, fun x H' ⟨eH, ex⟩ => ?_⟩
  subst eH
  have e2 := ex vs h1
  rw [e1] at e2; cases e2
  exact ⟨F, I, Gw.refl, fun _ _ q => q, rv.mono g.le⟩
theorem itt_ok {a : Addr} {vs : List V} {xs : List Dat} {ι0 : List Addr} {F0 : Hp} (h : SqT K F0 a vs) (r : Rps K F0 vs xs) : ItOk K (Itt K a) ι0 F0 xs := by
  intro R ρ μ ι F σ H I g i
  have h1 : SqT K H a vs := (SqT.le g.le h).imp (rd_sub I.sub) id
  refine ⟨fun d e => ?_, fun hi => ⟨vs, h1, by rw [r.length]; exact hi⟩⟩
  obtain ⟨v, e1, rv⟩ := r.get e
  refine ⟨⟨vs, v, h1, e1⟩, fun x H' ⟨eH, ex⟩ => ?_⟩
  subst eH
  have e2 := ex vs h1
  rw [e1] at e2; cases e2
  exact ⟨F, I, Gw.refl, fun _ _ q => q, rv.mono g.le⟩
theorem di_seq {tg l : Expr} {f : EM} (h : PE X l (tD X.K X.mg R W f)) : PI X tg l (tDI X.K X.mg R W (iSeq f)) := by
  refine ⟨fun pins s σ H Q I ⟨ρ, μ, ι, F, J, q⟩ => ?_⟩
  unfold iSeq at q
  have q1 := q.bind
  cases e : f ρ μ with
  | bad => rw [e] at q1; exact q1.elim
  | ex nm μ1 =>
    refine (pi_list h).run pins s σ H Q I ⟨ρ, μ, ι, F, J, ?_⟩
    rw [e] at q1 ⊢
    exact q1
  | ok x μ1 =>
    rw [e] at q1
    cases x with
    | r k => exact (show False from q1).elim
    | d x =>
      cases x with
      | lst xs =>
        refine (pi_list h).run pins s σ H Q I ⟨ρ, μ, ι, F, J, ?_⟩
        rw [e]
        intro ι1 F1 H1 v I1 g1 r1
        cases r1 with
        | lst sq r =>
          rename_i a vs
          exact ⟨a, rfl, ⟨vs, .inl (.inl (I1.sub _ _ sq))⟩, q1 ι1 F1 H1 _ I1 g1 (itl_ok sq r)⟩
      | tup xs =>
        refine (pi_tup h).run pins s σ H Q I ⟨ρ, μ, ι, F, J, ?_⟩
        rw [e]
        intro ι1 F1 H1 v I1 g1 r1
        cases r1 with
        | tup sq r =>
          rename_i a vs
          exact ⟨a, rfl, ⟨vs, sq.imp (rd_sub I1.sub) id⟩, q1 ι1 F1 H1 _ I1 g1 (itt_ok sq r)⟩
      | str z =>
        refine (pi_str h).run pins s σ H Q I ⟨ρ, μ, ι, F, J, ?_⟩
        rw [e]
        intro ι1 F1 H1 v I1 g1 r1
        cases r1
        exact ⟨z, rfl, q1 ι1 F1 H1 _ I1 g1 its_ok⟩
      | _ => exact (show False from q1).elim
/-- a walk over the rest of what is walked -/
def forGo (g : GM) (b : SM) : List Dat → SM
  | [], ρ, μ => .nx ρ μ
  | d :: ds, ρ, μ => match g (.d d) ρ μ with
    | none => .bad
    | some ρ1 => (match b ρ1 μ with
      | .nx ρ2 μ2 => forGo g b ds ρ2 μ2
      | .ct ρ2 μ2 => forGo g b ds ρ2 μ2
      | .bk ρ2 μ2 => .nx ρ2 μ2
      | .rt x μ2 => .rt x μ2
      | .ex x ρ2 μ2 => .ex x ρ2 μ2
      | .bad => .bad)
def sFor (it : IM) (g : GM) (b : SM) : SM := fun ρ μ => match it ρ μ with
  | .ok xs μ1 => forGo g b xs ρ μ1
  | .ex nm μ1 => .ex nm ρ μ1
  | .bad => .bad
theorem ds_for {tg iter : Expr} {body : List Stmt} {pos : Pos} {it : IM} {vs : List Nat} {g : GM} {b : SM} (hp : PassesOwn (model X.prog X.w) X.A X.env X.xe) (hc : X.calm = true) (hi : PI X tg iter (tDI X.K X.mg R W it)) (hg : PG X tg (tDG X.K R n vs g))
    (hb : PSs X body (tDS X.K X.mg R W n b)) (hs : ∀ x, foldedSetIterable iter X.env x = pure x := by intro _; rfl) : PS X (.For tg iter body [] pos) (tDS X.K X.mg R W n (sFor it g b)) := by
  refine ps_imp (ps_for hp hc hi hg hb hs) fun D σ H ⟨ρ, μ, ι, F, I, hl, q⟩ => ⟨ρ, μ, ι, F, I, ?_⟩
  unfold sFor at q
  cases e : it ρ μ with
  | bad => rw [e] at q; exact q
  | ex nm μ1 =>
    rw [e] at q
    exact (show PsS X.K X.mg R W n D ι F (.ex nm ρ μ1) from q) σ hl
  | ok xs μ1 =>
    rw [e] at q
    intro ι1 F1 H1 J I1 g1 ok
    have q : PsS X.K X.mg R W n D ι F (forGo g b xs ρ μ1) := q
    refine ⟨fun i m σ H => m = xs.length - i ∧ i ≤ xs.length ∧ ∃ ρ μ ι2 F2, DI X.K R ρ μ ι2 F2 σ H ∧ σ.length = n ∧ Gw ι1 F1 ι2 F2 ∧ PsS X.K X.mg R W n D ι2 F2 (forGo g b (xs.drop i) ρ μ), ⟨xs.length, by simp, Nat.zero_le _, ρ, μ1, ι1, F1, I1, hl, Gw.refl, q.mono g1⟩, ?_⟩
    rintro i m σ H ⟨rfl, hi, ρ, μ, ι2, F2, I2, hl2, g2, q2⟩
    obtain ⟨k1, k2⟩ := ok R ρ μ ι2 F2 σ H I2 g2 i
    by_cases hlt : i < xs.length
    · obtain ⟨go, yl⟩ := k1 xs[i] (List.getElem?_eq_getElem hlt)
      rw [List.drop_eq_getElem_cons hlt] at q2
      unfold forGo at q2
      cases e2 : g (.d xs[i]) ρ μ with
      | none => rw [e2] at q2; exact q2.elim
      | some ρ1 =>
        rw [e2] at q2
        refine .inr ⟨go, fun σ H => i + 1 ≤ xs.length ∧ ∃ ρ μ ι2 F2, DI X.K R ρ μ ι2 F2 σ H ∧ σ.length = n ∧ Gw ι1 F1 ι2 F2 ∧ PsS X.K X.mg R W n D ι2 F2 (forGo g b (xs.drop (i + 1)) ρ μ), fun σ' H' p => ⟨xs.length - (i + 1), by omega, rfl, p⟩, fun x H' hy => ?_⟩
        obtain ⟨F3, I3, g3, _, r3⟩ := yl x H' hy
        refine ⟨ρ, μ, ι2, F3, .d xs[i], I3, hl2, r3, ρ1, e2, fun σ4 I4 hl4 _ => ⟨ρ1, μ, ι2, F3, I4, hl4, ?_⟩⟩
        have q2 : PsS X.K X.mg R W n D ι2 F2 (match b ρ1 μ with
          | .nx ρ2 μ2 => forGo g b (xs.drop (i + 1)) ρ2 μ2
          | .ct ρ2 μ2 => forGo g b (xs.drop (i + 1)) ρ2 μ2
          | .bk ρ2 μ2 => .nx ρ2 μ2
          | .rt x μ2 => .rt x μ2
          | .ex x ρ2 μ2 => .ex x ρ2 μ2
          | .bad => .bad) := q2
        cases e3 : b ρ1 μ with
        | nx ρ5 μ5 => rw [e3] at q2; exact fun ι5 F5 σ5 H5 I5 g5 hl5 => ⟨hlt, ρ5, μ5, ι5, F5, I5, hl5, (g2.trans g3).trans g5, q2.mono (g3.trans g5)⟩
        | ct ρ5 μ5 => rw [e3] at q2; exact fun ι5 F5 σ5 H5 I5 g5 hl5 => ⟨hlt, ρ5, μ5, ι5, F5, I5, hl5, (g2.trans g3).trans g5, q2.mono (g3.trans g5)⟩
        | bk ρ5 μ5 => rw [e3] at q2; exact q2.mono g3
        | rt x μ5 => rw [e3] at q2; exact q2
        | ex x ρ5 μ5 => rw [e3] at q2; exact q2
        | bad => rw [e3] at q2; exact q2
    · have ei : i = xs.length := by omega
      subst ei
      rw [List.drop_length] at q2
      exact .inl ⟨k2 (Nat.le_refl _), q2 ι2 F2 σ H I2 Gw.refl hl2⟩
end
end DL

-- DL4
/-! DL4: the operators, comparisons, subscripts, slices over plain data. -/
namespace L2
open PySem PySem.Spec PyProof.Rows
theorem tuple_mul1 (l : Addr) (items : Array Value) (n : Nat) (dd : Option Addr) (sl : Array (Option Value)) (u : Tok) :
    Meets (Builtin.«tuple.__mul__» ⟨[.ref l, .int 1 u], []⟩) (fun _ R s => s.heap.get? l = some { cls := .type "tuple", dict := dd, data := .seq items n, slots := sl } ∧
      R (.ok (.ret (Value.ref l))) s) :=
  .of_wp fun prog w A R s h => by
    obtain ⟨hp, g, d, tk, os⟩ := s
    obtain ⟨hl, h⟩ := h
    have f1 := AutoSeq1.idx_int
    have c0 : (decide ((1 : Int) < -(2 ^ 63)) || decide ((1 : Int) ≥ 2 ^ 63)) = false := by decide
    have c1 : (items.isEmpty || (1 : Int) == 1) = true := by simp
    wp_walk using wpAny_loadPart' hl
    repeat (first
      | (refine wpAny_ite_false (decide_eq_false (by rw [c0]; exact Bool.false_ne_true)) ?_; wp_walk using wpAny_loadPart' hl)
      | (refine wpAny_ite_true (decide_eq_true c1) ?_; wp_walk using wpAny_loadPart' hl))
    exact ⟨_, rfl, h⟩
theorem tuple_mul0 (l : Addr) (items : Array Value) (n : Nat) (dd : Option Addr) (sl : Array (Option Value)) (x : Int) (u : Tok) (c0 : (decide (x < -(2 ^ 63)) || decide (x ≥ 2 ^ 63)) = false) (c1 : (items.isEmpty || x == 1) = false) (c2 : (decide (x ≤ 0) || items.isEmpty) = true) :
    Meets (Builtin.«tuple.__mul__» ⟨[.ref l, .int x u], []⟩) (fun _ R s => s.heap.get? l = some { cls := .type "tuple", dict := dd, data := .seq items n, slots := sl } ∧
      R (.ok (.ret (Value.ref s.heap.objs.size))) { s with heap := s.heap.push { cls := Value.type "tuple", data := Data.seq #[] }, toks := s.toks }) :=
  .of_wp fun prog w A R s h => by
    obtain ⟨hp, g, d, tk, os⟩ := s
    obtain ⟨hl, h⟩ := h
    have f1 := AutoSeq1.idx_int
    wp_walk using wpAny_loadPart' hl
    repeat (first
      | (refine wpAny_ite_false (decide_eq_false (by rw [c0]; exact Bool.false_ne_true)) ?_; wp_walk using wpAny_loadPart' hl)
      | (refine wpAny_ite_false (decide_eq_false (by rw [c1]; exact Bool.false_ne_true)) ?_; wp_walk using wpAny_loadPart' hl)
      | (refine wpAny_ite_true (decide_eq_true c2) ?_; wp_walk using wpAny_loadPart' hl))
    exact ⟨_, rfl, h⟩
def rRepT1 (K : PySem.W.Frag) : R2 := fun x y H Q => ∃ l xs, x = .ref l ∧ y = .int 1 ∧ SqT K H l xs ∧ Q (.ref l) H
def rRepT0 (K : PySem.W.Frag) : R2 := fun x y H Q => ∃ l k xs, x = .ref l ∧ y = .int k ∧ SqT K H l xs ∧ xs ≠ [] ∧ k ≤ 0 ∧ -1000 ≤ k ∧ ∀ p, H p = none → Q (.ref p) (upd H p (.tup []))
section
variable {X : Cx}
theorem op_repT1 : OpR X (binaryOp .Mult) (rRepT1 X.K) := by
  intro pins s σ H x y v u Q I rx ry h
  obtain ⟨l, xs, rfl, rfl, hT, q⟩ := h
  cases rx
  obtain ⟨t, rfl⟩ := ry
  obtain ⟨its, r, ⟨⟨cls, dd, data, sl⟩, ho, hc, n, hd⟩, hs⟩ := I.tuple hT
  simp only at hc hd
  subst hc hd
  refine wpAny_binaryOp_repeat_ref (T := "tuple") (U := "int") (by decide) ⟨_, ho, rfl⟩ (fun s' => typeIs_int s' 1 t) noFill_tuple_mul F.fills_int_mul F.slot_int_rmul repeat_tuple F.slot_int_index.lookup
    (call_meets F.slot_int_rmul (typeIs_int s 1 t) F.entry_int_rmul (F.args_int_rmul_2 _ _) (int_rmul_tuple 1 t l its.toArray n dd sl)
      ⟨ho, rfl, ⟨_, ho, rfl⟩, call_meets F.slot_tuple_mul ⟨_, ho, rfl⟩ F.entry_tuple_mul (F.args_tuple_mul_2 _ _) (tuple_mul1 l its.toArray n dd sl t) ⟨ho, ?_⟩⟩)
  exact ⟨.ref l, H, I, rfl, q⟩
theorem op_repT0 : OpR X (binaryOp .Mult) (rRepT0 X.K) := by
  intro pins s σ H x y v u Q I rx ry h
  obtain ⟨l, k, xs, rfl, rfl, hT, hne, h1, h2, q⟩ := h
  cases rx
  obtain ⟨t, rfl⟩ := ry
  obtain ⟨its, r, ⟨⟨cls, dd, data, sl⟩, ho, hc, n, hd⟩, hs⟩ := I.tuple hT
  simp only at hc hd
  subst hc hd
  have hle : its.length = xs.length := r.length.symm
  have hn : its ≠ [] := fun e => hne (by
    rw [e] at hle
    exact List.eq_nil_of_length_eq_zero hle.symm)
  have hi : its.toArray.isEmpty = false := by
    cases its with
    | nil => exact absurd rfl hn
    | cons a b => rfl
  have c0 : (decide (k < -(2 ^ 63)) || decide (k ≥ 2 ^ 63)) = false := by
    rw [decide_eq_false (by omega), decide_eq_false (by omega)] <;> rfl
  have c1 : (its.toArray.isEmpty || k == 1) = false := by
    rw [hi, Bool.false_or]
    exact beq_eq_false_iff_ne.mpr (by omega)
  have c2 : (decide (k ≤ 0) || its.toArray.isEmpty) = true := by
    rw [decide_eq_true h1, Bool.true_or]
  refine wpAny_binaryOp_repeat_ref (T := "tuple") (U := "int") (by decide) ⟨_, ho, rfl⟩ (fun s' => typeIs_int s' k t) noFill_tuple_mul F.fills_int_mul F.slot_int_rmul repeat_tuple F.slot_int_index.lookup
    (call_meets F.slot_int_rmul (typeIs_int s k t) F.entry_int_rmul (F.args_int_rmul_2 _ _) (int_rmul_tuple k t l its.toArray n dd sl)
      ⟨ho, rfl, ⟨_, ho, rfl⟩, call_meets F.slot_tuple_mul ⟨_, ho, rfl⟩ F.entry_tuple_mul (F.args_tuple_mul_2 _ _) (tuple_mul0 l its.toArray n dd sl k t c0 c1 c2) ⟨ho, ?_⟩⟩)
  refine ⟨.ref s.heap.objs.size, _, I.laid (t' := s.toks) (o := .tup []) (fun b ob q => Heap.get?_push_of_some _ q) (Nat.le_refl _) ?_, rfl, q _ (I.hok.fresh (Nat.le_refl _))⟩
  exact ⟨Nat.zero_le _, [], .nil, IsTup.new _ _⟩
end
end L2
namespace DL
open PySem PySem.Spec PyProof.Rows L2

/-! ### helpers -/
section
variable {K : PySem.W.Frag} {F H : Hp} {v w : V} {Q : VK} {d : Dat}
abbrev QOk (K : PySem.W.Frag) (F H : Hp) (d : Dat) (Q : VK) : Prop := ∀ v' H' F', GH F H F' H' → Rp K F' v' d → Q v' H'
theorem q_int {i : Int} (q : QOk K F H (.int i) Q) : Q (.int i) H := q _ H F (.inl ⟨rfl, rfl⟩) (.int i)
theorem q_bl {i : Bool} (q : QOk K F H (.bl i) Q) : Q (.bl i) H := q _ H F (.inl ⟨rfl, rfl⟩) (.bl i)
theorem q_str {i : Str} (q : QOk K F H (.str i) Q) : Q (.str i) H := q _ H F (.inl ⟨rfl, rfl⟩) (.str i)
theorem q_old {v : V} (r : Rp K F v d) (q : QOk K F H d Q) : Q v H := q v H F (.inl ⟨rfl, rfl⟩) r
theorem free_sub (s : ∀ a o, F a = some o → H a = some o) {p : Addr} (hp : H p = none) : F p = none := by
  cases e : F p with
  | none => rfl
  | some o => rw [s p o e] at hp; cases hp
theorem q_tup (s : ∀ a o, F a = some o → H a = some o) {vs : List V} {ds : List Dat} (r : Rps K F vs ds) (q : QOk K F H (.tup ds) Q) {p : Addr} (hp : H p = none) : Q (.ref p) (upd H p (.tup vs)) :=
  q _ _ _ (.inr ⟨p, _, hp, rfl, rfl, rfl⟩) (.tup (.inl (.inl upd_same)) (r.mono (Le.upd (free_sub s hp))))
theorem q_lst (s : ∀ a o, F a = some o → H a = some o) {vs : List V} {ds : List Dat} (r : Rps K F vs ds) (q : QOk K F H (.lst ds) Q) {p : Addr} (hp : H p = none) : Q (.ref p) (upd H p (.lst vs)) :=
  q _ _ _ (.inr ⟨p, _, hp, rfl, rfl, rfl⟩) (.lst upd_same (r.mono (Le.upd (free_sub s hp))))
theorem q_dct (s : ∀ a o, F a = some o → H a = some o) {vs : List (Key × V)} {ds : List (Key × Dat)} (r : Rkv K F vs ds) (q : QOk K F H (.dct ds) Q) {p : Addr} (hp : H p = none) : Q (.ref p) (upd H p (.dK vs)) :=
  q _ _ _ (.inr ⟨p, _, hp, rfl, rfl, rfl⟩) (.dct (.inl upd_same) (r.mono (Le.upd (free_sub s hp))))
theorem rv_int {i : Int} (r : Rv K F H v (.int i)) : v = .int i := r
theorem rv_bl {i : Bool} (r : Rv K F H v (.bl i)) : v = .bl i := r
theorem rv_str {i : Str} (r : Rv K F H v (.str i)) : v = .str i := r
theorem rv_non (r : Rv K F H v .non) : v = .non := r
theorem rps_nil {vs : List V} {ds : List Dat} (r : Rps K F vs ds) : vs = [] ↔ ds = [] := by
  cases r <;> simp
end

/-! ### + -/
def oAdd : O2 := fun x y => match x, y with
  | .int i, .int j => some (.int (i + j))
  | .str i, .str j => if i.length + j.length ≤ sizeLine then some (.str (i ++ j)) else none
  | .tup xs, .tup ys => if xs.length + ys.length ≤ sizeLine then some (.tup (xs ++ ys)) else none
  | .lst xs, .lst ys => if xs.length + ys.length ≤ sizeLine then some (.lst (xs ++ ys)) else none
  | _, _ => none
def rAddD (K : PySem.W.Frag) : R2 := fun x y H Q => (∃ i j, x = .int i ∧ y = .int j ∧ Q (.int (i + j)) H) ∨ (∃ i j, x = .str i ∧ y = .str j ∧ i.length + j.length ≤ sizeLine ∧ Q (.str (i ++ j)) H) ∨ rCatA K x y H Q ∨ rCat x y H Q
theorem op_addD {X : Cx} : OpR X (binaryOp .Add) (rAddD X.K) := op_add.or (op_add_str.or (op_catA.or op_cat))
section
variable {K : PySem.W.Frag} {F H : Hp} {v : V} {C : Addr}
abbrev RvT (K : PySem.W.Frag) (F H : Hp) (v : V) (ds : List Dat) : Prop := ∃ a vs, v = .ref a ∧ (SqT K F a vs ∧ SqT K H a vs) ∧ Rps K F vs ds
abbrev RvL (K : PySem.W.Frag) (F H : Hp) (v : V) (ds : List Dat) : Prop := ∃ a vs, v = .ref a ∧ H a = some (.lst vs) ∧ Rps K F vs ds
theorem rv_tup {ds : List Dat} (r : Rv K F H v (.tup ds)) : RvT K F H v ds := r
theorem rv_lst {ds : List Dat} (r : Rv K F H v (.lst ds)) : RvL K F H v ds := r
theorem rv_dct {ds : List (Key × Dat)} (r : Rv K F H v (.dct ds)) : ∃ a ks, v = .ref a ∧ Rd H a (.dK ks) ∧ Rkv K F ks ds := r
theorem rv_ins {ds : List (Str × Dat)} (r : Rv K F H v (.ins C ds)) : ∃ a dx fs, v = .ref a ∧ (F a = some (.ins C dx fs) ∧ H a = some (.ins C dx fs)) ∧ Rfs K F fs ds := r
end
theorem og_add {K : PySem.W.Frag} : OpG K (rAddD K) oAdd := by
  intro F H v w x y d Q s rx ry e q
  dsimp only [oAdd] at e
  split at e
  · cases e
    exact .inl ⟨_, _, rv_int rx, rv_int ry, q_int q⟩
  · split at e
    · rename_i h; cases e
      exact .inr (.inl ⟨_, _, rv_str rx, rv_str ry, h, q_str q⟩)
    · cases e
  · split at e
    · rename_i h; cases e
      obtain ⟨a, vs, e1, s1, r1⟩ := rv_tup rx
      obtain ⟨b, ws, e2, s2, r2⟩ := rv_tup ry
      refine .inr (.inr (.inl ⟨a, b, vs, ws, e1, e2, s1.2, s2.2, by rw [r1.length, r2.length]; exact h, fun z => ?_, fun z1 z2 => ?_, fun z1 z2 p hp => q_tup s (r1.append r2) q hp⟩))
      · have z' := (rps_nil r1).mp z
        subst z'
        exact q _ H F (.inl ⟨rfl, rfl⟩) (.tup s2.1 r2)
      · have z' := (rps_nil r2).mp z2
        subst z'
        rw [List.append_nil] at q
        exact q _ H F (.inl ⟨rfl, rfl⟩) (.tup s1.1 r1)
    · cases e
  · split at e
    · rename_i h; cases e
      obtain ⟨a, vs, e1, s1, r1⟩ := rv_lst rx
      obtain ⟨b, ws, e2, s2, r2⟩ := rv_lst ry
      exact .inr (.inr (.inr ⟨a, b, vs, ws, e1, e2, s1, s2, by rw [r1.length, r2.length]; exact h, fun p hp => q_lst s (r1.append r2) q hp⟩))
    · cases e
  · cases e

/-! ### ints -/
def oSub : O2 := fun x y => match x, y with
  | .int i, .int j => some (.int (i - j))
  | _, _ => none
theorem og_sub {K : PySem.W.Frag} : OpG K (rI0 fun i j => .int (i - j)) oSub := by
  intro F H v w x y d Q s rx ry e q
  dsimp only [oSub] at e
  split at e
  · cases e; exact ⟨_, _, rv_int rx, rv_int ry, q_int q⟩
  · cases e
instance {i j : Int} : Decidable (CMulX i j) := by unfold CMulX; infer_instance
instance {i j : Int} : Decidable (CDivW i j) := by unfold CDivW; infer_instance
def repD (k : Int) (xs : List Dat) : List Dat := (List.replicate k.toNat xs).flatten
def oMul : O2 := fun x y => match x, y with
  | .int i, .int j => if CMulX i j then some (.int (i * j)) else none
  | .tup xs, .int k => if xs ≠ [] ∧ 2 ≤ k ∧ k ≤ 1000 ∧ xs.length ≤ 1000 then some (.tup (repD k xs)) else if k = 1 then some (.tup xs) else if xs ≠ [] ∧ k ≤ 0 ∧ -1000 ≤ k then some (.tup []) else none
  | .lst xs, .int k => if -(2 ^ 63) ≤ k ∧ k < 2 ^ 63 ∧ xs.length * k.toNat ≤ sizeLine then some (.lst (repD k xs)) else none
  | _, _ => none
theorem Rps.rep {K : PySem.W.Frag} {F : Hp} {vs : List V} {ds : List Dat} (r : Rps K F vs ds) : ∀ k : Nat, Rps K F (List.replicate k vs).flatten (List.replicate k ds).flatten
  | 0 => .nil
  | k + 1 => by
    rw [List.replicate_succ, List.replicate_succ, List.flatten_cons, List.flatten_cons]
    exact r.append (Rps.rep r k)
/-- t * 1, t * 0 and () * k stand apart: a tuple once is itself -/
def rMulD (K : PySem.W.Frag) : R2 := fun x y H Q => rI CMulX (fun i j => .int (i * j)) x y H Q ∨ rRepT K x y H Q ∨ rRep x y H Q ∨ rRepT1 K x y H Q ∨ rRepT0 K x y H Q
theorem op_mulD {X : Cx} : OpR X (binaryOp .Mult) (rMulD X.K) := op_mulX.or (op_repT.or (op_rep.or (op_repT1.or op_repT0)))
theorem og_mul {K : PySem.W.Frag} : OpG K (rMulD K) oMul := by
  intro F H v w x y d Q s rx ry e q
  dsimp only [oMul] at e
  split at e
  · split at e
    · rename_i h; cases e
      exact .inl ⟨_, _, rv_int rx, rv_int ry, h, q_int q⟩
    · cases e
  · split at e
    · rename_i h; cases e
      obtain ⟨a, vs, e1, s1, r1⟩ := rv_tup rx
      exact .inr (.inl ⟨a, _, vs, e1, rv_int ry, s1.2, fun z => h.1 ((rps_nil r1).mp z), h.2.1, h.2.2.1, by rw [r1.length]; exact h.2.2.2, fun p hp => q_tup s (r1.rep _) q hp⟩)
    · obtain ⟨a, vs, e1, s1, r1⟩ := rv_tup rx
      split at e
      · rename_i h; cases e
        subst e1 h
        exact .inr (.inr (.inr (.inl ⟨a, vs, rfl, rv_int ry, s1.2, q _ _ _ (.inl ⟨rfl, rfl⟩) (.tup s1.1 r1)⟩)))
      · split at e
        · rename_i h; cases e
          exact .inr (.inr (.inr (.inr ⟨a, _, vs, e1, rv_int ry, s1.2, fun z => h.1 ((rps_nil r1).mp z), h.2.1, h.2.2, fun p hp => q_tup s .nil q hp⟩)))
        · cases e
  · split at e
    · rename_i h; cases e
      obtain ⟨a, vs, e1, s1, r1⟩ := rv_lst rx
      exact .inr (.inr (.inl ⟨a, _, vs, e1, rv_int ry, s1, h.1, h.2.1, by rw [r1.length]; exact h.2.2, fun p hp => q_lst s (r1.rep _) q hp⟩))
    · cases e
  · cases e
def oDiv : O2 := fun x y => match x, y with
  | .int i, .int j => if CDivW i j then some (.int (i / j)) else none
  | _, _ => none
theorem og_div {K : PySem.W.Frag} : OpG K (rI CDivW fun i j => .int (i / j)) oDiv := by
  intro F H v w x y d Q s rx ry e q
  dsimp only [oDiv] at e
  split at e
  · split at e
    · rename_i h; cases e; exact ⟨_, _, rv_int rx, rv_int ry, h, q_int q⟩
    · cases e
  · cases e
def oMod : O2 := fun x y => match x, y with
  | .int i, .int j => if 0 < j then some (.int (i % j)) else none
  | _, _ => none
theorem og_mod {K : PySem.W.Frag} : OpG K (rI (fun _ j => 0 < j) fun i j => .int (i % j)) oMod := by
  intro F H v w x y d Q s rx ry e q
  dsimp only [oMod] at e
  split at e
  · split at e
    · rename_i h; cases e; exact ⟨_, _, rv_int rx, rv_int ry, h, q_int q⟩
    · cases e
  · cases e

/-! ### order -/
def cmpD (pi : Int → Int → Bool) (ps : List Nat → List Nat → Bool) : O2 := fun x y => match x, y with
  | .int i, .int j => some (.bl (pi i j))
  | .str i, .str j => some (.bl (ps i.cps.toList j.cps.toList))
  | _, _ => none
def rCmpD (pi : Int → Int → Bool) (ps : List Nat → List Nat → Bool) : R2 := fun x y H Q => rI0 (fun i j => .bl (pi i j)) x y H Q ∨ (∃ i j, x = .str i ∧ y = .str j ∧ Q (.bl (ps i.cps.toList j.cps.toList)) H)
theorem og_cmp {K : PySem.W.Frag} {pi : Int → Int → Bool} {ps : List Nat → List Nat → Bool} : OpG K (rCmpD pi ps) (cmpD pi ps) := by
  intro F H v w x y d Q s rx ry e q
  dsimp only [cmpD] at e
  split at e
  · cases e; exact .inl ⟨_, _, rv_int rx, rv_int ry, q_bl q⟩
  · cases e; exact .inr ⟨_, _, rv_str rx, rv_str ry, q_bl q⟩
  · cases e
def oLt : O2 := cmpD (fun i j => decide (i < j)) (fun i j => decide (i < j))
def oLe : O2 := cmpD (fun i j => decide (i ≤ j)) (fun i j => !decide (j < i))
def oGt : O2 := cmpD (fun i j => decide (j < i)) (fun i j => decide (j < i))
def oGe : O2 := cmpD (fun i j => decide (j ≤ i)) (fun i j => !decide (i < j))
section
variable {X : Cx}
theorem op_ltD : OpR X (compareOp .Lt) (rCmpD (fun i j => decide (i < j)) (fun i j => decide (i < j))) := op_lt.or op_lt_str
theorem op_leD : OpR X (compareOp .LtE) (rCmpD (fun i j => decide (i ≤ j)) (fun i j => !decide (j < i))) := op_le.or op_le_str
theorem op_gtD : OpR X (compareOp .Gt) (rCmpD (fun i j => decide (j < i)) (fun i j => decide (j < i))) := op_gt.or op_gt_str
theorem op_geD : OpR X (compareOp .GtE) (rCmpD (fun i j => decide (j ≤ i)) (fun i j => !decide (i < j))) := op_ge.or op_ge_str
end
/-- is None -/
def oIsN (neg : Bool) : O2 := fun x y => match y with
  | .non => some (.bl (xor neg (match x with | .non => true | _ => false)))
  | _ => none
end DL

-- DL5
/-! DL5: subscripts, slices, in, ==, built-ins by name, text methods, f-strings. -/
namespace DL
open PySem PySem.Spec PyProof.Rows L2

/-! ### is None -/
def rIsND (neg : Bool) : R2 := fun x y H Q => y = .non ∧ Q (.bl (xor neg (decide (x = .non)))) H
theorem op_isND {X : Cx} : OpR X (compareOp .Is) (rIsND false) := fun pins s σ H x y v u Q I rx ry q => op_isN pins s σ H x y v u Q I rx ry ⟨q.1, by have z := q.2; rwa [Bool.false_xor] at z⟩
theorem op_notND {X : Cx} : OpR X (compareOp .IsNot) (rIsND true) := fun pins s σ H x y v u Q I rx ry q => op_notN pins s σ H x y v u Q I rx ry ⟨q.1, by have z := q.2; rwa [Bool.true_xor] at z⟩
def isNonD : Dat → Option Bool
  | .non => some true
  | .ob _ => none
  | .scr _ => none
  | _ => some false
def oIs (neg : Bool) : O2 := fun x y => match y with
  | .non => (isNonD x).map fun b => .bl (xor neg b)
  | _ => none
theorem og_is {K : PySem.W.Frag} {neg : Bool} : OpG K (rIsND neg) (oIs neg) := by
  intro F H v w x y d Q s rx ry e q
  dsimp only [oIs] at e
  split at e
  · have h1 : ∃ b, isNonD x = some b ∧ d = .bl (xor neg b) := by
      cases h : isNonD x with
      | none => rw [h] at e; cases e
      | some b => rw [h] at e; exact ⟨b, rfl, by cases e; rfl⟩
    obtain ⟨b, h2, rfl⟩ := h1
    refine ⟨rv_non ry, ?_⟩
    have h3 : decide (v = .non) = b := by
      cases x with
      | non => cases h2; rw [rv_non rx]; rfl
      | bl b => cases h2; rw [rv_bl rx]; rfl
      | int i => cases h2; rw [rv_int rx]; rfl
      | str x => cases h2; rw [rv_str rx]; rfl
      | tup ds => cases h2; obtain ⟨a, vs, e1, _⟩ := rv_tup rx; rw [e1]; rfl
      | lst ds => cases h2; obtain ⟨a, vs, e1, _⟩ := rv_lst rx; rw [e1]; rfl
      | dct ds => cases h2; obtain ⟨a, vs, e1, _⟩ := rv_dct rx; rw [e1]; rfl
      | ins C ds => cases h2; obtain ⟨a, dx, vs, e1, _⟩ := rv_ins rx; rw [e1]; rfl
      | ob w => cases h2
      | scr ns => cases h2
    rw [h3]
    exact q_bl q
  · cases e

/-! ### subscripts -/
theorem atI_get {K : PySem.W.Frag} {F : Hp} {vs : List V} {ds : List Dat} (r : Rps K F vs ds) {i : Int} {d : Dat} (e : atI ds i = some d) : ∃ v, atI vs i = some v ∧ Rp K F v d := by
  unfold atI at e ⊢
  rw [r.length]
  cases h : ixN ds.length i with
  | none => rw [h] at e; cases e
  | some j =>
    rw [h] at e
    exact r.get e
def oIx : O2 := fun x y => match x, y with
  | .scr ns, .int i => atI (ns.map Dat.int) i
  | .lst xs, .int i => atI xs i
  | .tup xs, .int i => atI xs i
  | .str z, .int i => if z.length ≤ sizeLine then (atI z.cps.toList i).map fun c => .str ⟨#[c]⟩ else none
  | _, _ => none
theorem rps_ints {K : PySem.W.Frag} {F : Hp} : ∀ ns : List Int, Rps K F (ns.map V.int) (ns.map Dat.int)
  | [] => .nil
  | n :: ns => .cons (.int n) (rps_ints ns)
theorem og_ix {K : PySem.W.Frag} : OpG K (rIx K) oIx := by
  intro F H v w x y d Q s rx ry e q
  dsimp only [oIx] at e
  split at e
  · obtain ⟨a, e1, _, s1⟩ := (show ∃ a, v = .ref a ∧ SqL K F a _ ∧ SqL K H a _ from rx)
    obtain ⟨z, e2, rz⟩ := atI_get (rps_ints (F := F) _) e
    exact .inl ⟨a, _, _, z, e1, rv_int ry, s1, e2, q_old rz q⟩
  · obtain ⟨a, vs, e1, s1, r1⟩ := rv_lst rx
    obtain ⟨z, e2, rz⟩ := atI_get r1 e
    exact .inl ⟨a, vs, _, z, e1, rv_int ry, .inl (.inl s1), e2, q_old rz q⟩
  · obtain ⟨a, vs, e1, s1, r1⟩ := rv_tup rx
    obtain ⟨z, e2, rz⟩ := atI_get r1 e
    exact .inr (.inl ⟨a, vs, _, z, e1, rv_int ry, s1.2, e2, q_old rz q⟩)
  · split at e
    · rename_i z i h
      cases h2 : atI z.cps.toList i with
      | none => rw [h2] at e; cases e
      | some c =>
        rw [h2] at e; cases e
        exact .inr (.inr ⟨z, i, c, rv_str rx, rv_int ry, h, h2, q_str q⟩)
    · cases e
  · cases e
section
variable {X : Cx} {R : Ent} {W : WX}
theorem de_ix {a b : Expr} {fa fb : EM} {pos : Pos} (ha : PE X a (tD X.K X.mg R W fa)) (hb : PE X b (tD X.K X.mg R W fb)) (hs : PlainIx b := by intro _ _; rfl) : PE X (.Subscript a b pos) (tD X.K X.mg R W (fBin oIx fa fb)) :=
  pe_imp (pe_ix ix_seq ha hb hs) fun σ H Q h => bin_ok og_ix rfl rfl h
end
/-! ### dicts -/
def datKey : Dat → Option Key
  | .int i => some (.inl i)
  | .str x => some (.inr x)
  | _ => none
def valD (kvs : List (Key × Dat)) (k : Key) : Option Dat := (kvs.find? fun kv => decide (kv.1 = k)).map (·.2)
def putD (kvs : List (Key × Dat)) (k : Key) (v : Dat) : List (Key × Dat) :=
  if (kvs.any fun kv => decide (kv.1 = k)) = true then kvs.map (fun kv => if kv.1 = k then (kv.1, v) else kv) else kvs ++ [(k, v)]
def mergeD (kvs more : List (Key × Dat)) : List (Key × Dat) := more.foldl (fun acc kv => putD acc kv.1 kv.2) kvs
section
variable {K : PySem.W.Frag} {F H : Hp} {v : V}
theorem Rkv.length {vs : List (Key × V)} {ds : List (Key × Dat)} (r : Rkv K F vs ds) : vs.length = ds.length := by
  induction ds generalizing vs with
  | nil => cases r; rfl
  | cons d ds ih =>
    cases r with
    | cons a b => rw [List.length_cons, List.length_cons, ih b]
theorem Rkv.keys {vs : List (Key × V)} {ds : List (Key × Dat)} (r : Rkv K F vs ds) : vs.map (·.1) = ds.map (·.1) := by
  induction ds generalizing vs with
  | nil => cases r; rfl
  | cons d ds ih =>
    cases r with
    | cons a b => rw [List.map_cons, List.map_cons, ih b]
theorem Rkv.append {vs ws : List (Key × V)} {ds es : List (Key × Dat)} (r : Rkv K F vs ds) (g : Rkv K F ws es) : Rkv K F (vs ++ ws) (ds ++ es) := by
  induction ds generalizing vs with
  | nil => cases r; exact g
  | cons d ds ih =>
    cases r with
    | cons a b => exact .cons a (ih b)
theorem Rkv.get {vs : List (Key × V)} {ds : List (Key × Dat)} (r : Rkv K F vs ds) {k : Key} : (∀ d, valD ds k = some d → ∃ v, valV vs k = some v ∧ Rp K F v d) ∧ (valD ds k = none → valV vs k = none) := by
  induction ds generalizing vs with
  | nil => cases r; exact ⟨fun d e => (nomatch (show (none : Option Dat) = some d from e)), fun _ => rfl⟩
  | cons p ds ih =>
    obtain ⟨k', d'⟩ := p
    cases r with
    | cons a b =>
      by_cases h : k' = k
      · have e1 : ∀ (v : V) vs, valV ((k', v) :: vs) k = some v := fun v vs => valV_pos h
        have e2 : valD ((k', d') :: ds) k = some d' := by simp [valD, List.find?_cons, h]
        refine ⟨fun d e => ?_, fun e => ?_⟩
        · rw [e2] at e; cases e
          exact ⟨_, e1 _ _, a⟩
        · rw [e2] at e; cases e
      · have e1 : ∀ (v : V) vs, valV ((k', v) :: vs) k = valV vs k := fun v vs => valV_neg h
        have e2 : valD ((k', d') :: ds) k = valD ds k := by simp [valD, List.find?_cons, h]
        rw [e1, e2]
        exact ih b
theorem Rkv.any {vs : List (Key × V)} {ds : List (Key × Dat)} (r : Rkv K F vs ds) (k : Key) : (vs.any fun kv => decide (kv.1 = k)) = ds.any fun kv => decide (kv.1 = k) := by
  induction ds generalizing vs with
  | nil => cases r; rfl
  | cons p ds ih =>
    cases r with
    | cons a b => rw [List.any_cons, List.any_cons, ih b]
theorem Rkv.put {vs : List (Key × V)} {ds : List (Key × Dat)} (r : Rkv K F vs ds) (k : Key) {v : V} {d : Dat} (rv : Rp K F v d) : Rkv K F (putK vs k v) (putD ds k d) := by
  unfold putK putD
  rw [r.any k]
  by_cases h : (ds.any fun kv => decide (kv.1 = k)) = true
  · rw [if_pos h, if_pos h]
    clear h
    induction ds generalizing vs with
    | nil => cases r; exact .nil
    | cons p ds ih =>
      obtain ⟨k', d'⟩ := p
      cases r with
      | cons a b =>
        rw [List.map_cons, List.map_cons]
        by_cases h : k' = k
        · rw [if_pos h, if_pos h]; exact .cons rv (ih b)
        · rw [if_neg h, if_neg h]; exact .cons a (ih b)
  · rw [if_neg h, if_neg h]
    exact r.append (.cons rv .nil)
theorem Rkv.merge {vs ws : List (Key × V)} {ds es : List (Key × Dat)} (r : Rkv K F vs ds) (g : Rkv K F ws es) : Rkv K F (mergeK vs ws) (mergeD ds es) := by
  induction es generalizing vs ws ds with
  | nil => cases g; exact r
  | cons p es ih =>
    obtain ⟨k, d⟩ := p
    cases g with
    | @cons k v kvs d ds' a b =>
      show Rkv K F (mergeK (putK vs k v) kvs) (mergeD (putD ds k d) es)
      exact ih (r.put k a) b
theorem key_of {y : Dat} {k : Key} (e : datKey y = some k) {w : V} (r : Rv K F H w y) : w = kV k := by
  cases y with
  | int i => cases e; exact rv_int r
  | str x => cases e; exact rv_str r
  | _ => cases e
end
def oDget : O2 := fun x y => match x with
  | .dct kvs => (datKey y).bind fun k => valD kvs k
  | _ => none
def rDgetD : R2 := fun x y H Q => ∃ a v, x = .ref a ∧ DGet H a y (some v) ∧ Q v H
theorem og_dget {K : PySem.W.Frag} : OpG K rDgetD oDget := by
  intro F H v w x y d Q s rx ry e q
  dsimp only [oDget] at e
  split at e
  · rename_i kvs
    cases h : datKey y with
    | none => rw [h] at e; cases e
    | some k =>
      rw [h] at e
      obtain ⟨a, ks, e1, s1, r1⟩ := rv_dct rx
      obtain ⟨z, e2, rz⟩ := r1.get.1 d e
      rw [key_of h ry]
      exact ⟨a, z, e1, .inl ⟨ks, k, s1, rfl, e2.symm⟩, q_old rz q⟩
  · cases e
section
variable {X : Cx} {R : Ent} {W : WX}
theorem de_dget {a b : Expr} {fa fb : EM} {pos : Pos} (hu : X.A.units + 1 < cLine) (ha : PE X a (tD X.K X.mg R W fa)) (hb : PE X b (tD X.K X.mg R W fb)) (hs : NoSl b := by intro _ _; rfl) : PE X (.Subscript a b pos) (tD X.K X.mg R W (fBin oDget fa fb)) :=
  pe_imp (pe_dget hu ha hb hs) fun σ H Q h => bin_ok (r := rDgetD) og_dget rfl rfl h
end
def oDin (neg : Bool) : O2 := fun y x => match x with
  | .dct kvs => (datKey y).map fun k => .bl (xor neg (valD kvs k).isSome)
  | _ => none
def rDinD (neg : Bool) : R2 := fun y x H Q => ∃ a o, x = .ref a ∧ DGet H a y o ∧ Q (.bl (xor neg o.isSome)) H
theorem og_din {K : PySem.W.Frag} {neg : Bool} : OpG K (rDinD neg) (oDin neg) := by
  intro F H w v y x d Q s ry rx e q
  dsimp only [oDin] at e
  split at e
  · rename_i kvs
    cases h : datKey y with
    | none => rw [h] at e; cases e
    | some k =>
      rw [h] at e; cases e
      obtain ⟨a, ks, e1, s1, r1⟩ := rv_dct rx
      rw [key_of h ry]
      refine ⟨a, valV ks k, e1, .inl ⟨ks, k, s1, rfl, rfl⟩, ?_⟩
      have e3 : (valV ks k).isSome = (valD kvs k).isSome := by
        cases h2 : valD kvs k with
        | none => rw [r1.get.2 h2]; rfl
        | some d => obtain ⟨z, e2, _⟩ := r1.get.1 d h2; rw [e2]; rfl
      rw [e3]
      exact q_bl q
  · cases e

/-! ### slices -/
def cutL {α : Type} (xs : List α) (lo hi : Option Int) : List α := (xs.drop (HT.sIx xs.length 0 lo)).take (HT.sIx xs.length xs.length hi - HT.sIx xs.length 0 lo)
def slD (x : Dat) (lo hi : Option Int) : Option Dat := match x with
  | .lst xs => some (.lst (cutL xs lo hi))
  | .tup xs => some (.tup (cutL xs lo hi))
  | .str z => if z.length ≤ sizeLine then some (.str (cutS z lo hi)) else none
  | _ => none
def rSlD (K : PySem.W.Frag) : V → Option Int → Option Int → Hp → VK → Prop := fun x lo hi H Q => rSlL K x lo hi H Q ∨ rSlA K x lo hi H Q ∨ rSlS x lo hi H Q
theorem sl_D {X : Cx} : SlR X (rSlD X.K) := sl_list.or (sl_tupA.or sl_str)
theorem Rps.cut {K : PySem.W.Frag} {F : Hp} {vs : List V} {ds : List Dat} (r : Rps K F vs ds) (lo hi : Option Int) : Rps K F (cutV vs lo hi) (cutL ds lo hi) := by
  unfold cutV cutL
  rw [r.length]
  exact (r.drop _).take _
theorem cut_whole {α : Type} {xs : List α} {lo hi : Option Int} (h : HT.sIx xs.length 0 lo = 0 ∧ HT.sIx xs.length xs.length hi = xs.length) : cutL xs lo hi = xs := by
  unfold cutL
  rw [h.1, h.2]
  simp
theorem og_sl {K : PySem.W.Frag} {F H : Hp} {v : V} {x d : Dat} {lo hi : Option Int} {Q : VK} (s : ∀ a o, F a = some o → H a = some o) (rx : Rv K F H v x) (e : slD x lo hi = some d) (q : QOk K F H d Q) : rSlD K v lo hi H Q := by
  unfold slD at e
  split at e
  · cases e
    obtain ⟨a, vs, e1, s1, r1⟩ := rv_lst rx
    exact .inl ⟨a, vs, e1, .inl (.inl s1), fun p hp => q_lst s (r1.cut lo hi) q hp⟩
  · cases e
    obtain ⟨a, vs, e1, s1, r1⟩ := rv_tup rx
    refine .inr (.inl ⟨a, vs, e1, s1.2, fun h => ?_, fun h p hp => q_tup s (r1.cut lo hi) q hp⟩)
    rw [r1.length] at h
    rw [cut_whole h] at q
    exact q_old (.tup s1.1 r1) q
  · split at e
    · cases e
      rename_i z h
      exact .inr (.inr ⟨z, rv_str rx, h, q_str q⟩)
    · cases e
  · cases e
abbrev OM := En → Mu → Res (Option Int)
def tDO (K : PySem.W.Frag) (mg : MG) (R : Ent) (W : WX) (f : OM) : TO := fun σ H Q => ∃ ρ μ ι F, DI K R ρ μ ι F σ H ∧
  Pst (Bx K mg R W ρ σ) (fun b μ' => ∀ ι' F' H', DI K R ρ μ' ι' F' σ H' → Gw ι F ι' F' → Q b H') (f ρ μ)
def fNo : OM := fun _ μ => .ok none μ
def fPart (f : EM) : OM := fun ρ μ => (f ρ μ).bind fun x μ1 => match x with
  | .d (.int i) => .ok (some i) μ1
  | _ => .bad
def fSl (f : EM) (l h : OM) : EM := fun ρ μ => (f ρ μ).bind fun x μ1 => (l ρ μ1).bind fun lo μ2 => (h ρ μ2).bind fun hi μ3 => match vw x μ3 with
  | some d => ofO (slD d lo hi) μ3
  | none => .bad
section
variable {X : Cx} {R : Ent} {W : WX}
theorem do_no : PO X none (tDO X.K X.mg R W fNo) := ⟨fun pins s σ H Q I ⟨ρ, μ, ι, F, J, q⟩ => po_none.run pins s σ H Q I (q ι F H J Gw.refl)⟩
theorem do_part {e : Expr} {f : EM} (h : PE X e (tD X.K X.mg R W f)) : PO X (some e) (tDO X.K X.mg R W (fPart f)) := by
  refine ⟨fun pins s σ H Q I ⟨ρ, μ, ι, F, J, q⟩ => (po_some h).run pins s σ H Q I ⟨ρ, μ, ι, F, J, q.bind.imp fun x μ1 q1 ι1 F1 H1 v I1 g1 r1 => ?_⟩⟩
  cases x with
  | r k => exact (show False from q1).elim
  | d x =>
    cases x with
    | int i => cases r1; exact ⟨i, rfl, q1 ι1 F1 H1 I1 g1⟩
    | _ => exact (show False from q1).elim
theorem de_sl {e : Expr} {lo hi : Option Expr} {p2 pos : Pos} {f : EM} {l h : OM} (he : PE X e (tD X.K X.mg R W f)) (hl : PO X lo (tDO X.K X.mg R W l)) (hh : PO X hi (tDO X.K X.mg R W h)) : PE X (.Subscript e (.Slice lo hi none p2) pos) (tD X.K X.mg R W (fSl f l h)) := by
  refine pe_imp (pe_slice sl_D he hl hh) fun σ H Q ⟨ρ, μ, ι, F, I, q⟩ => ⟨ρ, μ, ι, F, I, q.bind.imp fun x μ1 q1 ι1 F1 H1 v I1 g1 r1 => ⟨ρ, μ1, ι1, F1, I1, q1.bind.imp fun lo μ2 q2 ι2 F2 H2 I2 g2 => ⟨ρ, μ2, ι2, F2, I2, q2.bind.imp fun hi μ3 q3 ι3 F3 H3 I3 g3 => ?_⟩⟩⟩
  cases e1 : vw x μ3 with
  | none => rw [e1] at q3; exact q3.elim
  | some d =>
    rw [e1] at q3
    have q3 : Pst _ _ (ofO (slD d lo hi) μ3) := q3
    cases e2 : slD d lo hi with
    | none => rw [e2] at q3; exact q3.elim
    | some z =>
      rw [e2] at q3
      refine og_sl I3.sub (I3.view (r1.mono (g2.trans g3)) e1) e2 fun v' H' F' gh rp => ?_
      obtain ⟨J, gw⟩ := I3.gh gh
      exact q3 ι3 F' H' v' J (((g1.trans g2).trans g3).trans gw) rp
end

/-! ### == over data -/
mutual
def toPy : Dat → PyData
  | .non => .none
  | .bl b => .bool b
  | .int i => .int i
  | .str x => .str x
  | .tup xs => .tuple (toPys xs)
  | .lst xs => .list (toPys xs)
  | .dct _ => .dict []
  | .ins _ _ => .dict []
  | .ob _ => .dict []
  | .scr _ => .dict []
def toPys : List Dat → List PyData
  | [] => []
  | d :: ds => toPy d :: toPys ds
end
section
variable {K : PySem.W.Frag} {F H : Hp}
mutual
theorem dp_of (s : ∀ a o, F a = some o → H a = some o) : ∀ (d : Dat) (v : V), Rp K F v d → (toPy d).canLay0 = true → Dp K H v (toPy d)
  | .non, _, r, _ => by cases r; exact .non
  | .bl b, _, r, _ => by cases r; exact .bl b
  | .int i, _, r, _ => by cases r; exact .int i
  | .str x, _, r, _ => by cases r; exact .str x
  | .tup ds, _, r, h => by
    cases r with
    | tup sq r => exact .tup (sq.imp (rd_sub s) id) (dps_of s ds _ r h)
  | .lst ds, _, r, h => by
    cases r with
    | lst sq r => exact .lst (.inl (.inl (s _ _ sq))) (dps_of s ds _ r h)
  | .dct _, _, _, h => by cases h
  | .ins _ _, _, _, h => by cases h
  | .ob _, _, _, h => by cases h
  | .scr _, _, _, h => by cases h
theorem dps_of (s : ∀ a o, F a = some o → H a = some o) : ∀ (ds : List Dat) (vs : List V), Rps K F vs ds → PyData.canLayAll0 (toPys ds) = true → DpAll K H vs (toPys ds)
  | [], _, r, _ => by cases r; exact .nil
  | d :: ds, _, r, h => by
    cases r with
    | cons a b =>
      have h : ((toPy d).canLay0 && PyData.canLayAll0 (toPys ds)) = true := h
      have h := Bool.and_eq_true_iff.mp h
      exact .cons (dp_of s d _ a h.1) (dps_of s ds _ b h.2)
end
theorem dp_view (s : ∀ a o, F a = some o → H a = some o) {d : Dat} {v : V} (r : Rv K F H v d) (h : (toPy d).canLay0 = true) : Dp K H v (toPy d) := by
  cases d with
  | non => rw [rv_non r]; exact .non
  | bl b => rw [rv_bl r]; exact .bl b
  | int i => rw [rv_int r]; exact .int i
  | str x => rw [rv_str r]; exact .str x
  | tup ds => obtain ⟨a, vs, e, s1, r1⟩ := rv_tup r; rw [e]; exact .tup s1.2 (dps_of s ds _ r1 h)
  | lst ds => obtain ⟨a, vs, e, s1, r1⟩ := rv_lst r; rw [e]; exact .lst (.inl (.inl s1)) (dps_of s ds _ r1 h)
  | _ => cases h
end
def oEq (neg : Bool) : O2 := fun x y => if SeqAt.shaped (toPy x) = true ∧ SeqAt.shaped (toPy y) = true then some (.bl (xor neg (PyData.eqv (toPy x) (toPy y)))) else match x, y with
  | .lst xs, .lst ys => if xs.length = ys.length then none else some (.bl neg)
  | _, _ => none
/-- lists of other lengths -/
def rEqN (neg : Bool) : R2 := fun x y H Q => ∃ a b xs ys, x = .ref a ∧ y = .ref b ∧ H a = some (.lst xs) ∧ H b = some (.lst ys) ∧ xs.length ≠ ys.length ∧ Q (.bl neg) H
theorem op_eqN {X : Cx} (hu : X.A.units + 64 < cLine) : OpR X (compareOp .Eq) (rEqN false) := by
  intro pins s σ H x y v u Q I rx ry h
  obtain ⟨a, b, xs, ys, rfl, rfl, ha, hb, hp, q⟩ := h
  cases (show v = Value.ref a from rx)
  cases (show u = Value.ref b from ry)
  obtain ⟨us, r1, p1, _⟩ := I.list (.inl (.inl ha))
  obtain ⟨ws, r2, p2, _⟩ := I.list (.inl (.inl hb))
  have hsz : (us.toArray.size != ws.toArray.size) = true := by
    rw [List.size_toArray, List.size_toArray, ← r1.length, ← r2.length]
    simpa using hp
  exact SeqAt.eq_list_lengthsAt p1.isList p2.isList hsz (by omega) ⟨.bl false, H, I, rfl, q⟩
theorem op_neN {X : Cx} (hu : X.A.units + 64 < cLine) : OpR X (compareOp .NotEq) (rEqN true) := by
  intro pins s σ H x y v u Q I rx ry h
  obtain ⟨a, b, xs, ys, rfl, rfl, ha, hb, hp, q⟩ := h
  cases (show v = Value.ref a from rx)
  cases (show u = Value.ref b from ry)
  obtain ⟨us, r1, p1, _⟩ := I.list (.inl (.inl ha))
  obtain ⟨ws, r2, p2, _⟩ := I.list (.inl (.inl hb))
  have hsz : (us.toArray.size != ws.toArray.size) = true := by
    rw [List.size_toArray, List.size_toArray, ← r1.length, ← r2.length]
    simpa using hp
  exact SeqAt.RcNeAt.lists_lengths p1.isList p2.isList hsz (by omega) _ _ _ _ ⟨.bl true, H, I, rfl, q⟩
def rEq2 (K : PySem.W.Frag) : R2 := fun x y H Q => rEqD K x y H Q ∨ rEqN false x y H Q
def rNe2 (K : PySem.W.Frag) : R2 := fun x y H Q => rNeD K x y H Q ∨ rEqN true x y H Q
theorem op_eq2 {X : Cx} (hu : X.A.units + 64 < cLine) : OpR X (compareOp .Eq) (rEq2 X.K) := (op_eqD hu).or (op_eqN hu)
theorem op_ne2 {X : Cx} (hu : X.A.units + 64 < cLine) : OpR X (compareOp .NotEq) (rNe2 X.K) := (op_neD hu).or (op_neN hu)
theorem og_eq {K : PySem.W.Frag} : OpG K (rEq2 K) (oEq false) := by
  intro F H v w x y d Q s rx ry e q
  unfold oEq at e
  split at e
  · rename_i h; cases e
    rw [Bool.false_xor] at q
    exact .inl ⟨_, _, dp_view s rx (SeqAt.canLay_of_shaped h.1), dp_view s ry (SeqAt.canLay_of_shaped h.2), h.1, h.2, q_bl q⟩
  · split at e
    · split at e
      · cases e
      · rename_i hn; cases e
        obtain ⟨a, vs, rfl, s1, r1⟩ := rv_lst rx
        obtain ⟨b, us, rfl, s2, r2⟩ := rv_lst ry
        exact .inr ⟨a, b, vs, us, rfl, rfl, s1, s2, by rw [r1.length, r2.length]; exact hn, q_bl q⟩
    · cases e
theorem og_ne {K : PySem.W.Frag} : OpG K (rNe2 K) (oEq true) := by
  intro F H v w x y d Q s rx ry e q
  unfold oEq at e
  split at e
  · rename_i h; cases e
    rw [Bool.true_xor] at q
    exact .inl ⟨_, _, dp_view s rx (SeqAt.canLay_of_shaped h.1), dp_view s ry (SeqAt.canLay_of_shaped h.2), h.1, h.2, q_bl q⟩
  · split at e
    · split at e
      · cases e
      · rename_i hn; cases e
        obtain ⟨a, vs, rfl, s1, r1⟩ := rv_lst rx
        obtain ⟨b, us, rfl, s2, r2⟩ := rv_lst ry
        exact .inr ⟨a, b, vs, us, rfl, rfl, s1, s2, by rw [r1.length, r2.length]; exact hn, q_bl q⟩
    · cases e

/-! ### in -/
def flatD : Dat → Option V
  | .non => some .non
  | .bl b => some (.bl b)
  | .int i => some (.int i)
  | .str x => some (.str x)
  | _ => none
def flatsD : List Dat → Option (List V)
  | [] => some []
  | d :: ds => match flatD d, flatsD ds with
    | some v, some vs => some (v :: vs)
    | _, _ => none
theorem flat_of {K : PySem.W.Frag} {F : Hp} {v w : V} {d : Dat} (r : Rp K F v d) (e : flatD d = some w) : v = w ∧ flatV v = true := by
  cases d with
  | non => cases e; cases r; exact ⟨rfl, rfl⟩
  | bl b => cases e; cases r; exact ⟨rfl, rfl⟩
  | int i => cases e; cases r; exact ⟨rfl, rfl⟩
  | str x => cases e; cases r; exact ⟨rfl, rfl⟩
  | _ => cases e
theorem flats_of {K : PySem.W.Frag} {F : Hp} {vs ws : List V} {ds : List Dat} (r : Rps K F vs ds) (e : flatsD ds = some ws) : vs = ws ∧ vs.all flatV = true := by
  induction ds generalizing vs ws with
  | nil => cases r; cases e; exact ⟨rfl, rfl⟩
  | cons d ds ih =>
    cases r with
    | cons a b =>
      cases h1 : flatD d with
      | none => simp [flatsD, h1] at e
      | some v =>
        cases h2 : flatsD ds with
        | none => simp [flatsD, h1, h2] at e
        | some us =>
          simp [flatsD, h1, h2] at e
          subst e
          obtain ⟨e1, f1⟩ := flat_of a h1
          obtain ⟨e2, f2⟩ := ih b h2
          rw [e1] at f1 ⊢
          rw [e2] at f2 ⊢
          exact ⟨rfl, by rw [List.all_cons, f1, f2]; rfl⟩
def inSeqD (neg : Bool) (x : Dat) (ys : List Dat) : Option Dat := match flatD x, flatsD ys with
  | some v, some vs => some (.bl (if neg then !inV v vs else inV v vs))
  | _, _ => none
def oIn (neg : Bool) : O2 := fun x y => match y with
  | .lst ys => inSeqD neg x ys
  | .tup ys => inSeqD neg x ys
  | .str z => (match x with
    | .str i => some (.bl (xor neg (!(Builtin.Str.occurrences z i 0 z.length 1).isEmpty)))
    | _ => none)
  | _ => none
def rInSt (neg : Bool) : R2 := fun x y H Q => ∃ i j, x = .str i ∧ y = .str j ∧ Q (.bl (xor neg (!(Builtin.Str.occurrences j i 0 j.length 1).isEmpty))) H
theorem op_inSt {X : Cx} : OpR X (compareOp .In) (rInSt false) := fun pins s σ H x y v u Q I rx ry ⟨i, j, e1, e2, q⟩ => op_in_str pins s σ H x y v u Q I rx ry ⟨i, j, e1, e2, by rwa [Bool.false_xor] at q⟩
theorem op_notInSt {X : Cx} : OpR X (compareOp .NotIn) (rInSt true) := fun pins s σ H x y v u Q I rx ry ⟨i, j, e1, e2, q⟩ => op_notin_str pins s σ H x y v u Q I rx ry ⟨i, j, e1, e2, by rwa [Bool.true_xor] at q⟩
def rInD2 (K : PySem.W.Frag) (neg : Bool) : R2 := fun x y H Q => rIn K neg x y H Q ∨ rInSt neg x y H Q
theorem op_inD2 {X : Cx} : OpR X (compareOp .In) (rInD2 X.K false) := op_in_seq.or op_inSt
theorem op_notInD2 {X : Cx} : OpR X (compareOp .NotIn) (rInD2 X.K true) := op_notIn_seq.or op_notInSt
theorem flatR {K : PySem.W.Frag} {F H : Hp} {v w : V} {d : Dat} (r : Rv K F H v d) (e : flatD d = some w) : v = w ∧ flatV v = true := by
  cases d with
  | non => cases e; rw [rv_non r]; exact ⟨rfl, rfl⟩
  | bl b => cases e; rw [rv_bl r]; exact ⟨rfl, rfl⟩
  | int i => cases e; rw [rv_int r]; exact ⟨rfl, rfl⟩
  | str x => cases e; rw [rv_str r]; exact ⟨rfl, rfl⟩
  | _ => cases e
theorem inSeq_ok {K : PySem.W.Frag} {F H : Hp} {neg : Bool} {v : V} {x d : Dat} {ys : List Dat} {vs : List V} {a : Addr} {Q : VK} (rx : Rv K F H v x) (sq : SqL K H a vs ∨ SqT K H a vs) (r : Rps K F vs ys) (e : inSeqD neg x ys = some d) (q : QOk K F H d Q) : rIn K neg v (.ref a) H Q := by
  unfold inSeqD at e
  cases h1 : flatD x with
  | none => rw [h1] at e; cases e
  | some u =>
    cases h2 : flatsD ys with
    | none => rw [h1, h2] at e; cases e
    | some us =>
      rw [h1, h2] at e; cases e
      obtain ⟨e1, f1⟩ := flatR rx h1
      obtain ⟨e2, f2⟩ := flats_of r h2
      subst e1 e2
      exact ⟨a, vs, rfl, sq, f1, f2, q_bl q⟩
theorem og_in {K : PySem.W.Frag} {neg : Bool} : OpG K (rInD2 K neg) (oIn neg) := by
  intro F H v w x y d Q s rx ry e q
  unfold oIn at e
  split at e
  · obtain ⟨a, vs, e1, s1, r1⟩ := rv_lst ry
    rw [e1]
    exact .inl (inSeq_ok rx (.inl (.inl (.inl s1))) r1 e q)
  · obtain ⟨a, vs, e1, s1, r1⟩ := rv_tup ry
    rw [e1]
    exact .inl (inSeq_ok rx (.inr s1.2) r1 e q)
  · split at e
    · cases e
      exact .inr ⟨_, _, rv_str rx, rv_str ry, q_bl q⟩
    · cases e
  · cases e
end DL

-- DL6
/-! DL6: built-ins by name, text methods, f-strings, displays, ranges, zips. -/
namespace DL
open PySem PySem.Spec PyProof.Rows L2

/-! ### calls by values -/
inductive Rvs (K : PySem.W.Frag) (F H : Hp) : List V → List Dat → Prop
  | nil : Rvs K F H [] []
  | cons {v : V} {vs : List V} {d : Dat} {ds : List Dat} : Rv K F H v d → Rvs K F H vs ds → Rvs K F H (v :: vs) (d :: ds)
def vws : List SV → Mu → Option (List Dat)
  | [], _ => some []
  | x :: xs, μ => match vw x μ, vws xs μ with
    | some d, some ds => some (d :: ds)
    | _, _ => none
section
variable {K : PySem.W.Frag} {R : Ent} {ρ : En} {μ : Mu} {ι : List Addr} {F H : Hp} {σ : L2.St}
theorem DI.views (I : DI K R ρ μ ι F σ H) {vs : List V} {xs : List SV} (r : Rsvs K F ι vs xs) : ∀ {ds : List Dat}, vws xs μ = some ds → Rvs K F H vs ds := by
  induction r with
  | nil => intro ds e; cases e; exact .nil
  | @cons v vs x xs a b ih =>
    intro ds e
    cases h1 : vw x μ with
    | none => simp [vws, h1] at e
    | some d =>
      cases h2 : vws xs μ with
      | none => simp [vws, h1, h2] at e
      | some es =>
        simp [vws, h1, h2] at e
        subst e
        exact .cons (I.view a h1) (ih h2)
end
abbrev FD := List Dat → Option Dat
def CallG (K : PySem.W.Frag) (r : List V → Hp → VK → Prop) (f : FD) : Prop :=
  ∀ (F H : Hp) (vs : List V) (ds : List Dat) (d : Dat) (Q : VK), (∀ a o, F a = some o → H a = some o) → Rvs K F H vs ds → f ds = some d → QOk K F H d Q → r vs H Q
def fCb (f : FD) (fa : AM) : EM := fun ρ μ => (fa ρ μ).bind fun xs μ1 => match vws xs μ1 with
  | some ds => ofO (f ds) μ1
  | none => .bad
theorem ofO_ok {α : Type} {B : String → Mu → Prop} {good : SV → Mu → Prop} {o : Option Dat} {μ : Mu} (q : Pst B good (ofO o μ)) : ∃ d, o = some d ∧ good (.d d) μ := by
  cases o with
  | none => exact q.elim
  | some d => exact ⟨d, rfl, q⟩
section
variable {X : Cx} {R : Ent} {W : WX} {r : List V → Hp → VK → Prop} {f : FD} {fa : AM} {e : Expr} {es : List Expr} {x : Str} {id T : String} {p pos : Pos}
theorem cb_ok {K : PySem.W.Frag} {mg : MG} (hg : CallG K r f) {σ : L2.St} {H : Hp} {Q : VK} (h : tD K mg R W (fCb f fa) σ H Q) : tCB r (tDA K mg R W fa) σ H Q := by
  obtain ⟨ρ, μ, ι, F, I, q⟩ := h
  refine ⟨ρ, μ, ι, F, I, q.bind.imp fun xs μ1 q1 ι1 F1 H1 vs I1 g1 r1 => ?_⟩
  cases e1 : vws xs μ1 with
  | none => rw [e1] at q1; exact q1.elim
  | some ds =>
    rw [e1] at q1
    obtain ⟨d, e2, q2⟩ := ofO_ok (α := Nat) q1
    refine hg F1 H1 vs ds d Q I1.sub (I1.views r1 e1) e2 fun v' H' F' gh rp => ?_
    obtain ⟨J, gw⟩ := I1.gh gh
    exact q2 ι1 F' H' v' J (g1.trans gw) rp
theorem de_cb (hc : CallR X (.builtin id) r) (hG : CallG X.K r f) (hm : X.mg x = none) (ha : PA X (e :: es) (tDA X.K X.mg R W fa)) (hv : bootBuiltins x = some (.builtin id)) (hg : Gl X x := by rfl) (hn : x ≠ "__name__" := by decide) (hdb : (x == ("__debug__" : Str)) = false := by decide)
    (he : starEach (e :: es) X.env = (false, eval e X.env) :: starEach es X.env := by rfl) (hpl : (backTo pos (starEach es X.env)).any (·.1) = false := by rfl) : PE X (.Call (.Name x p) (e :: es) [] pos) (tD X.K X.mg R W (fCb f fa)) :=
  pe_imp (pe_callB hc hg hm hv ha hn hdb he hpl) fun σ H Q h => cb_ok hG h
theorem de_ct (hc : CallR X (.type T) r) (hG : CallG X.K r f) (hm : X.mg x = none) (ha : PA X (e :: es) (tDA X.K X.mg R W fa)) (hv : bootBuiltins x = some (.type T)) (hg : Gl X x := by rfl) (hn : x ≠ "__name__" := by decide) (hdb : (x == ("__debug__" : Str)) = false := by decide)
    (he : starEach (e :: es) X.env = (false, eval e X.env) :: starEach es X.env := by rfl) (hpl : (backTo pos (starEach es X.env)).any (·.1) = false := by rfl) : PE X (.Call (.Name x p) (e :: es) [] pos) (tD X.K X.mg R W (fCb f fa)) :=
  pe_imp (pe_callTy hc hg hm hv ha hn hdb he hpl) fun σ H Q h => cb_ok hG h
end
section
variable {K : PySem.W.Frag} {F H : Hp} {vs : List V}
theorem rvs1 {d : Dat} (r : Rvs K F H vs [d]) : ∃ v, vs = [v] ∧ Rv K F H v d := by
  cases r with
  | cons a b => cases b; exact ⟨_, rfl, a⟩
theorem rvs2 {d e : Dat} (r : Rvs K F H vs [d, e]) : ∃ v w, vs = [v, w] ∧ Rv K F H v d ∧ Rv K F H w e := by
  cases r with
  | cons a b =>
    cases b with
    | cons b c => cases c; exact ⟨_, _, rfl, a, b⟩
end

/-! ### len -/
def lenD : FD := fun ds => match ds with
  | [.str y] => if y.length ≤ sizeLine then some (.int y.length) else none
  | [.lst xs] => some (.int xs.length)
  | [.tup xs] => some (.int xs.length)
  | [.scr xs] => some (.int xs.length)
  | _ => none
theorem cg_len {K : PySem.W.Frag} : CallG K (fun xs H Q => ∃ x n, xs = [x] ∧ LenV K x H n ∧ Q (.int n) H) lenD := by
  intro F H vs ds d Q s r e q
  unfold lenD at e
  split at e
  · split at e
    · cases e
      rename_i y h
      obtain ⟨v, rfl, rv⟩ := rvs1 r
      rw [rv_str rv]
      exact ⟨_, y.length, rfl, ⟨h, rfl⟩, q_int q⟩
    · cases e
  · cases e
    rename_i xs
    obtain ⟨v, rfl, rv⟩ := rvs1 r
    obtain ⟨a, us, e1, s1, r1⟩ := rv_lst rv
    rw [e1]
    exact ⟨_, xs.length, rfl, .inl ⟨us, .inl (.inl s1), r1.length.symm⟩, q_int q⟩
  · cases e
    rename_i xs
    obtain ⟨v, rfl, rv⟩ := rvs1 r
    obtain ⟨a, us, e1, s1, r1⟩ := rv_tup rv
    rw [e1]
    exact ⟨_, xs.length, rfl, .inr ⟨us, s1.2, r1.length.symm⟩, q_int q⟩
  · cases e
    rename_i xs
    obtain ⟨v, rfl, rv⟩ := rvs1 r
    obtain ⟨a, e1, _, s1⟩ := (show ∃ a, v = .ref a ∧ SqL K F a _ ∧ SqL K H a _ from rv)
    rw [e1]
    exact ⟨_, xs.length, rfl, .inl ⟨_, s1, by rw [List.length_map]⟩, q_int q⟩
  · cases e

/-! ### abs, int, str, max, min -/
def absD : FD := fun ds => match ds with
  | [.int i] => some (.int (if i < 0 then -i else i))
  | _ => none
theorem cg_abs {K : PySem.W.Frag} : CallG K (fun xs H Q => ∃ i, xs = [.int i] ∧ Q (.int (if i < 0 then -i else i)) H) absD := by
  intro F H vs ds d Q s r e q
  unfold absD at e
  split at e
  · cases e
    obtain ⟨v, rfl, rv⟩ := rvs1 r
    rw [rv_int rv]
    exact ⟨_, rfl, q_int q⟩
  · cases e
def intD : FD := fun ds => match ds with
  | [.int i] => some (.int i)
  | [.bl k] => some (.int (if k then 1 else 0))
  | [.str a] => if a.length ≤ 640 then (PySem.intText? a).map Dat.int else none
  | _ => none
def rIntD : List V → Hp → VK → Prop := fun xs H Q => ((∃ i, xs = [.int i] ∧ Q (.int i) H) ∨ ∃ k, xs = [.bl k] ∧ Q (.int (if k then 1 else 0)) H) ∨ ∃ a n, xs = [.str a] ∧ PySem.intText? a = some n ∧ a.length ≤ 640 ∧ Q (.int n) H
theorem CallR.or' {X : Cx} {f : Value} {r r' : List V → Hp → VK → Prop} (h : CallR X f r) (h' : CallR X f r') : CallR X f (fun xs H Q => r xs H Q ∨ r' xs H Q) := by
  intro pins s σ H xs us Q I rx q
  rcases q with q | q
  · exact h pins s σ H xs us Q I rx q
  · exact h' pins s σ H xs us Q I rx q
theorem call_intD {X : Cx} : CallR X (.type "int") rIntD := CallR.or' call_int1 call_int_str
theorem cg_int {K : PySem.W.Frag} : CallG K rIntD intD := by
  intro F H vs ds d Q s r e q
  unfold intD at e
  split at e
  · cases e
    obtain ⟨v, rfl, rv⟩ := rvs1 r
    rw [rv_int rv]
    exact .inl (.inl ⟨_, rfl, q_int q⟩)
  · cases e
    obtain ⟨v, rfl, rv⟩ := rvs1 r
    rw [rv_bl rv]
    exact .inl (.inr ⟨_, rfl, q_int q⟩)
  · split at e
    · rename_i a h
      cases h2 : PySem.intText? a with
      | none => rw [h2] at e; cases e
      | some n =>
        rw [h2] at e; cases e
        obtain ⟨v, rfl, rv⟩ := rvs1 r
        rw [rv_str rv]
        exact .inr ⟨a, n, rfl, h2, h, q_int q⟩
    · cases e
  · cases e
def strD : FD := fun ds => match ds with
  | [.int i] => if i.natAbs.log2 < 1920 then some (.str (Str.ofString (toString i))) else none
  | [.str a] => some (.str a)
  | _ => none
def rStrD : List V → Hp → VK → Prop := fun xs H Q => (∃ i, xs = [.int i] ∧ i.natAbs.log2 < 1920 ∧ Q (.str (toString i)) H) ∨ ∃ a, xs = [.str a] ∧ Q (.str a) H
theorem call_strD {X : Cx} : CallR X (.type "str") rStrD := CallR.or' call_str_int SkE.call_str_str
theorem cg_str {K : PySem.W.Frag} : CallG K rStrD strD := by
  intro F H vs ds d Q s r e q
  unfold strD at e
  split at e
  · split at e
    · cases e
      rename_i i h
      obtain ⟨v, rfl, rv⟩ := rvs1 r
      rw [rv_int rv]
      exact .inl ⟨_, rfl, h, q_str q⟩
    · cases e
  · cases e
    obtain ⟨v, rfl, rv⟩ := rvs1 r
    rw [rv_str rv]
    exact .inr ⟨_, rfl, q_str q⟩
  · cases e
def maxD : FD := fun ds => match ds with
  | [.int i, .int j] => some (.int (if j > i then j else i))
  | _ => none
theorem cg_max2 {K : PySem.W.Frag} : CallG K (fun xs H Q => ∃ i j, xs = [.int i, .int j] ∧ Q (.int (if j > i then j else i)) H) maxD := by
  intro F H vs ds d Q s r e q
  unfold maxD at e
  split at e
  · cases e
    obtain ⟨v, w, rfl, rv, rw'⟩ := rvs2 r
    rw [rv_int rv, rv_int rw']
    exact ⟨_, _, rfl, q_int q⟩
  · cases e
def minD : FD := fun ds => match ds with
  | [.int i, .int j] => some (.int (if j < i then j else i))
  | _ => none
theorem cg_min2 {K : PySem.W.Frag} : CallG K (fun xs H Q => ∃ i j, xs = [.int i, .int j] ∧ Q (.int (if j < i then j else i)) H) minD := by
  intro F H vs ds d Q s r e q
  unfold minD at e
  split at e
  · cases e
    obtain ⟨v, w, rfl, rv, rw'⟩ := rvs2 r
    rw [rv_int rv, rv_int rw']
    exact ⟨_, _, rfl, q_int q⟩
  · cases e

/-! ### all, any, sum of lists -/
def blsD : List Dat → Option (List Bool)
  | [] => some []
  | .bl b :: r => (blsD r).map (b :: ·)
  | _ => none
theorem blsD_eq : ∀ {ds : List Dat} {bs : List Bool}, blsD ds = some bs → ds = bs.map Dat.bl
  | [], _, e => by cases e; rfl
  | .bl b :: r, bs, e => by
    cases h : blsD r with
    | none => simp [blsD, h] at e
    | some cs => simp [blsD, h] at e; subst e; rw [blsD_eq h]; rfl
  | .non :: r, bs, e => by cases e
  | .int _ :: r, bs, e => by cases e
  | .str _ :: r, bs, e => by cases e
  | .tup _ :: r, bs, e => by cases e
  | .lst _ :: r, bs, e => by cases e
  | .dct _ :: r, bs, e => by cases e
  | .ins _ _ :: r, bs, e => by cases e
  | .ob _ :: r, bs, e => by cases e
  | .scr _ :: r, bs, e => by cases e
def intsD : List Dat → Option (List Int)
  | [] => some []
  | .int b :: r => (intsD r).map (b :: ·)
  | _ => none
theorem intsD_eq : ∀ {ds : List Dat} {bs : List Int}, intsD ds = some bs → ds = bs.map Dat.int
  | [], _, e => by cases e; rfl
  | .int b :: r, bs, e => by
    cases h : intsD r with
    | none => simp [intsD, h] at e
    | some cs => simp [intsD, h] at e; subst e; rw [intsD_eq h]; rfl
  | .non :: r, bs, e => by cases e
  | .bl _ :: r, bs, e => by cases e
  | .str _ :: r, bs, e => by cases e
  | .tup _ :: r, bs, e => by cases e
  | .lst _ :: r, bs, e => by cases e
  | .dct _ :: r, bs, e => by cases e
  | .ins _ _ :: r, bs, e => by cases e
  | .ob _ :: r, bs, e => by cases e
  | .scr _ :: r, bs, e => by cases e
def strsD : List Dat → Option (List Str)
  | [] => some []
  | .str b :: r => (strsD r).map (b :: ·)
  | _ => none
theorem strsD_eq : ∀ {ds : List Dat} {bs : List Str}, strsD ds = some bs → ds = bs.map Dat.str
  | [], _, e => by cases e; rfl
  | .str b :: r, bs, e => by
    cases h : strsD r with
    | none => simp [strsD, h] at e
    | some cs => simp [strsD, h] at e; subst e; rw [strsD_eq h]; rfl
  | .non :: r, bs, e => by cases e
  | .bl _ :: r, bs, e => by cases e
  | .int _ :: r, bs, e => by cases e
  | .tup _ :: r, bs, e => by cases e
  | .lst _ :: r, bs, e => by cases e
  | .dct _ :: r, bs, e => by cases e
  | .ins _ _ :: r, bs, e => by cases e
  | .ob _ :: r, bs, e => by cases e
  | .scr _ :: r, bs, e => by cases e
theorem blsD_map (bs : List Bool) : blsD (bs.map Dat.bl) = some bs := by
  induction bs with
  | nil => rfl
  | cons b bs ih => simp [blsD, ih]
theorem intsD_map (bs : List Int) : intsD (bs.map Dat.int) = some bs := by
  induction bs with
  | nil => rfl
  | cons b bs ih => simp [intsD, ih]
theorem strsD_map (bs : List Str) : strsD (bs.map Dat.str) = some bs := by
  induction bs with
  | nil => rfl
  | cons b bs ih => simp [strsD, ih]
def allD : FD := fun ds => match ds with
  | [.lst xs] => (blsD xs).map fun bs => .bl (bs.all id)
  | _ => none
def anyD : FD := fun ds => match ds with
  | [.lst xs] => (blsD xs).map fun bs => .bl (bs.any id)
  | _ => none
def sumD : FD := fun ds => match ds with
  | [.lst xs] => (intsD xs).map fun bs => .int bs.sum
  | _ => none
theorem cg_all {K : PySem.W.Frag} : CallG K (rAll K) allD := by
  intro F H vs ds d Q s r e q
  unfold allD at e
  split at e
  · rename_i xs
    cases h : blsD xs with
    | none => rw [h] at e; cases e
    | some bs =>
      rw [h] at e; cases e
      rw [blsD_eq h] at r
      obtain ⟨v, rfl, rv⟩ := rvs1 r
      obtain ⟨a, us, rfl, s1, r1⟩ := rv_lst rv
      have e1 := Rps.bls r1
      subst e1
      exact ⟨a, bs, rfl, .inl (.inl s1), q_bl q⟩
  · cases e
theorem cg_any {K : PySem.W.Frag} : CallG K (rAny K) anyD := by
  intro F H vs ds d Q s r e q
  unfold anyD at e
  split at e
  · rename_i xs
    cases h : blsD xs with
    | none => rw [h] at e; cases e
    | some bs =>
      rw [h] at e; cases e
      rw [blsD_eq h] at r
      obtain ⟨v, rfl, rv⟩ := rvs1 r
      obtain ⟨a, us, rfl, s1, r1⟩ := rv_lst rv
      have e1 := Rps.bls r1
      subst e1
      exact ⟨a, bs, rfl, .inl (.inl s1), q_bl q⟩
  · cases e
theorem cg_sum {K : PySem.W.Frag} : CallG K (rSum K) sumD := by
  intro F H vs ds d Q s r e q
  unfold sumD at e
  split at e
  · rename_i xs
    cases h : intsD xs with
    | none => rw [h] at e; cases e
    | some bs =>
      rw [h] at e; cases e
      rw [intsD_eq h] at r
      obtain ⟨v, rfl, rv⟩ := rvs1 r
      obtain ⟨a, us, rfl, s1, r1⟩ := rv_lst rv
      have e1 := Rps.ints r1
      subst e1
      exact ⟨a, bs, rfl, .inl (.inl s1), q_int q⟩
  · cases e

/-! ### list(..), tuple(..) -/
def keyDs (kvs : List (Key × Dat)) : List Dat := kvs.map fun kv => keyD kv.1
def listD : FD := fun ds => match ds with
  | [.lst xs] => some (.lst xs)
  | [.tup xs] => some (.lst xs)
  | [.dct kvs] => some (.lst (keyDs kvs))
  | _ => none
def rListD2 (K : PySem.W.Frag) : List V → Hp → VK → Prop := fun xs H Q => (∃ p ys, xs = [.ref p] ∧ (SqL K H p ys ∨ SqT K H p ys) ∧ ∀ l, H l = none → Q (.ref l) (upd H l (.lst ys))) ∨
  ∃ (a : Addr) (kvs : List (Key × V)), xs = [.ref a] ∧ Rd H a (.dK kvs) ∧ ∀ p, H p = none → Q (.ref p) (upd H p (.lst (kvs.map fun kv => kV kv.1)))
theorem call_listD2 {X : Cx} (hc : X.calm = true) : CallR X (.type "list") (rListD2 X.K) := CallR.or' call_list_of (call_listD hc)
theorem rp_key {K : PySem.W.Frag} {F : Hp} (k : Key) : Rp K F (kV k) (keyD k) := by
  cases k with
  | inl i => exact .int i
  | inr x => exact .str x
theorem rps_keys {K : PySem.W.Frag} {F F' : Hp} {vs : List (Key × V)} {ds : List (Key × Dat)} (r : Rkv K F vs ds) : Rps K F' (vs.map fun kv => kV kv.1) (keyDs ds) := by
  induction ds generalizing vs with
  | nil => cases r; exact .nil
  | cons p ds ih =>
    cases r with
    | cons a b => exact .cons (rp_key _) (ih b)
theorem cg_list {K : PySem.W.Frag} : CallG K (rListD2 K) listD := by
  intro F H vs ds d Q s r e q
  unfold listD at e
  split at e
  · cases e
    obtain ⟨v, rfl, rv⟩ := rvs1 r
    obtain ⟨a, us, rfl, s1, r1⟩ := rv_lst rv
    exact .inl ⟨a, us, rfl, .inl (.inl (.inl s1)), fun p hp => q_lst s r1 q hp⟩
  · cases e
    obtain ⟨v, rfl, rv⟩ := rvs1 r
    obtain ⟨a, us, rfl, s1, r1⟩ := rv_tup rv
    exact .inl ⟨a, us, rfl, .inr s1.2, fun p hp => q_lst s r1 q hp⟩
  · cases e
    obtain ⟨v, rfl, rv⟩ := rvs1 r
    obtain ⟨a, us, rfl, s1, r1⟩ := rv_dct rv
    exact .inr ⟨a, us, rfl, s1, fun p hp => q_lst s (rps_keys r1) q hp⟩
  · cases e
def tupleD : FD := fun ds => match ds with
  | [.lst xs] => some (.tup xs)
  | [.tup xs] => some (.tup xs)
  | _ => none
theorem cg_tuple {K : PySem.W.Frag} : CallG K (fun xs H Q => ∃ p ys, xs = [.ref p] ∧ ((SqL K H p ys ∧ ∀ l, H l = none → Q (.ref l) (upd H l (.tup ys))) ∨ (SqT K H p ys ∧ Q (.ref p) H))) tupleD := by
  intro F H vs ds d Q s r e q
  unfold tupleD at e
  split at e
  · cases e
    obtain ⟨v, rfl, rv⟩ := rvs1 r
    obtain ⟨a, us, rfl, s1, r1⟩ := rv_lst rv
    exact ⟨a, us, rfl, .inl ⟨.inl (.inl s1), fun p hp => q_tup s r1 q hp⟩⟩
  · cases e
    obtain ⟨v, rfl, rv⟩ := rvs1 r
    obtain ⟨a, us, rfl, s1, r1⟩ := rv_tup rv
    exact ⟨a, us, rfl, .inr ⟨s1.2, q_old (.tup s1.1 r1) q⟩⟩
  · cases e

/-! ### sorted texts -/
def insS (x : Str) : List Str → List Str
  | [] => [x]
  | y :: ys => if ltCps y.cps.toList x.cps.toList = true then y :: insS x ys else x :: y :: ys
def sortS : List Str → List Str
  | [] => []
  | x :: xs => insS x (sortS xs)
theorem lt_irr (a : Str) : ltCps a.cps.toList a.cps.toList = false := by
  rw [ltCps_eq]
  exact decide_eq_false (List.lt_irrefl _)
theorem lt_tr {a b c : Str} (h : ltCps a.cps.toList b.cps.toList = true) (g : ltCps b.cps.toList c.cps.toList = true) : ltCps a.cps.toList c.cps.toList = true := by
  rw [ltCps_eq] at h g ⊢
  exact decide_eq_true (List.lt_trans (of_decide_eq_true h) (of_decide_eq_true g))
theorem str_ext {a b : Str} (h : a.cps.toList = b.cps.toList) : a = b := by
  cases a with
  | mk x =>
    cases b with
    | mk y => exact congrArg Str.mk (Array.toList_inj.mp h)
theorem lt_tot {a b : Str} (h : ltCps a.cps.toList b.cps.toList = false) (g : ltCps b.cps.toList a.cps.toList = false) : a = b := by
  rw [ltCps_eq] at h g
  have h1 := of_decide_eq_false h
  have g1 := of_decide_eq_false g
  exact str_ext (List.le_antisymm (List.not_lt.mp g1) (List.not_lt.mp h1))
theorem insS_perm (x : Str) : ∀ xs : List Str, (insS x xs).Perm (x :: xs)
  | [] => .refl _
  | y :: ys => by
    unfold insS
    by_cases h : ltCps y.cps.toList x.cps.toList = true
    · rw [if_pos h]
      exact ((insS_perm x ys).cons y).trans (.swap x y ys)
    · rw [if_neg h]
theorem sortS_perm : ∀ xs : List Str, (sortS xs).Perm xs
  | [] => .refl _
  | x :: xs => (insS_perm x (sortS xs)).trans ((sortS_perm xs).cons x)
abbrev leS (a b : Str) : Prop := ltCps b.cps.toList a.cps.toList = false
theorem leS_tr {a b c : Str} (h : leS a b) (g : leS b c) : leS a c := by
  cases q : ltCps c.cps.toList a.cps.toList with
  | false => exact q
  | true =>
    exfalso
    cases q2 : ltCps a.cps.toList b.cps.toList with
    | true =>
      have := lt_tr q q2
      rw [g] at this; cases this
    | false =>
      have e := lt_tot q2 h
      subst e
      rw [g] at q; cases q
theorem insS_sorted (x : Str) : ∀ xs : List Str, xs.Pairwise leS → (insS x xs).Pairwise leS
  | [], _ => by simp [insS]
  | y :: ys, h => by
    have h' := List.pairwise_cons.mp h
    unfold insS
    by_cases c : ltCps y.cps.toList x.cps.toList = true
    · rw [if_pos c]
      refine List.pairwise_cons.mpr ⟨fun z hz => ?_, insS_sorted x ys h'.2⟩
      rcases List.mem_cons.mp ((insS_perm x ys).mem_iff.mp hz) with e | e
      · subst e
        cases q : ltCps z.cps.toList y.cps.toList with
        | false => exact q
        | true =>
          have := lt_tr c q
          rw [lt_irr] at this; cases this
      · exact h'.1 z e
    · rw [if_neg c]
      have c' : leS x y := by
        cases q : ltCps y.cps.toList x.cps.toList with
        | false => exact q
        | true => exact absurd q c
      refine List.pairwise_cons.mpr ⟨fun z hz => ?_, h⟩
      rcases List.mem_cons.mp hz with e | e
      · rw [e]; exact c'
      · exact leS_tr c' (h'.1 z e)
theorem sortS_sorted : ∀ xs : List Str, (sortS xs).Pairwise leS
  | [] => .nil
  | x :: xs => insS_sorted x _ (sortS_sorted xs)
theorem perm_sorted {xs ys : List Str} (p : xs.Perm ys) (h : xs.Pairwise leS) (g : ys.Pairwise leS) : xs = ys :=
  List.Perm.eq_of_pairwise (le := leS) (fun a b _ _ h1 h2 => lt_tot h2 h1) h g p
theorem rising_pw : ∀ (xs : List Str) (p : Str), risingS p xs = true → (p :: xs).Pairwise leS
  | [], p, _ => by simp
  | x :: xs, p, h => by
    have h : (!ltCps x.cps.toList p.cps.toList && risingS x xs) = true := h
    have h := Bool.and_eq_true_iff.mp h
    have ih := rising_pw xs x h.2
    have c : leS p x := by
      have z := h.1
      cases q : ltCps x.cps.toList p.cps.toList with
      | false => exact q
      | true => rw [q] at z; cases z
    refine List.pairwise_cons.mpr ⟨fun z hz => ?_, ih⟩
    rcases List.mem_cons.mp hz with e | e
    · rw [e]; exact c
    · exact leS_tr c ((List.pairwise_cons.mp ih).1 z e)
theorem sorted_pw : ∀ {xs : List Str}, sortedS xs = true → xs.Pairwise leS
  | [], _ => .nil
  | x :: xs, h => rising_pw xs x h
theorem sorted_is {xs ys : List Str} (p : ys.Perm xs) (h : sortedS ys = true) : ys = sortS xs := perm_sorted (p.trans (sortS_perm xs).symm) (sorted_pw h) (sortS_sorted xs)
def keySs : List (Key × Dat) → Option (List Str)
  | [] => some []
  | (.inr x, _) :: r => (keySs r).map (x :: ·)
  | (.inl _, _) :: _ => none
theorem keySs_eq : ∀ {kvs : List (Key × Dat)} {xs : List Str}, keySs kvs = some xs → kvs.map (·.1) = xs.map Sum.inr
  | [], _, e => by cases e; rfl
  | (.inr x, _) :: r, xs, e => by
    cases h : keySs r with
    | none => simp [keySs, h] at e
    | some ys => simp [keySs, h] at e; subst e; rw [List.map_cons, List.map_cons, keySs_eq h]
  | (.inl _, _) :: _, _, e => by cases e
def sortedD : FD := fun ds => match ds with
  | [.lst xs] => (strsD xs).bind fun ss => if ss.length < 64 then some (.lst ((sortS ss).map Dat.str)) else none
  | [.dct kvs] => (keySs kvs).bind fun ss => if ss.length < 64 then some (.lst ((sortS ss).map Dat.str)) else none
  | _ => none
def rSortD (K : PySem.W.Frag) : List V → Hp → VK → Prop := fun xs H Q => rSortedS K xs H Q ∨ ∃ (a : Addr) (kvs : List (Key × V)) (ks : List Str), xs = [.ref a] ∧ Rd H a (.dK kvs) ∧ kvs.map (·.1) = ks.map Sum.inr ∧ ks.length < 64 ∧
    ∀ ys p, ys.Perm ks → sortedS ys = true → H p = none → Q (.ref p) (upd H p (.lst (ys.map V.str)))
theorem call_sortD {X : Cx} (hc : X.calm = true) : CallR X (.builtin "sorted") (rSortD X.K) := CallR.or' cr_sortedS (call_sortedD hc)
theorem cg_sorted {K : PySem.W.Frag} : CallG K (rSortD K) sortedD := by
  intro F H vs ds d Q s r e q
  unfold sortedD at e
  split at e
  · rename_i xs
    cases h : strsD xs with
    | none => rw [h] at e; cases e
    | some ss =>
      rw [h] at e
      have e : (if ss.length < 64 then some (Dat.lst ((sortS ss).map Dat.str)) else none) = some d := e
      split at e
      · rename_i h64; cases e
        rw [strsD_eq h] at r
        obtain ⟨v, rfl, rv⟩ := rvs1 r
        obtain ⟨a, us, rfl, s1, r1⟩ := rv_lst rv
        have e1 := Rps.strs r1
        subst e1
        refine .inl ⟨a, ss, rfl, .inl (.inl s1), h64, fun ys p hp hs hn => ?_⟩
        rw [sorted_is hp hs]
        exact q_lst s (Rps.of_strs _) q hn
      · cases e
  · rename_i kvs
    cases h : keySs kvs with
    | none => rw [h] at e; cases e
    | some ss =>
      rw [h] at e
      have e : (if ss.length < 64 then some (Dat.lst ((sortS ss).map Dat.str)) else none) = some d := e
      split at e
      · rename_i h64; cases e
        obtain ⟨v, rfl, rv⟩ := rvs1 r
        obtain ⟨a, us, rfl, s1, r1⟩ := rv_dct rv
        refine .inr ⟨a, us, ss, rfl, s1, by rw [r1.keys, keySs_eq h], h64, fun ys p hp hs hn => ?_⟩
        rw [sorted_is hp hs]
        exact q_lst s (Rps.of_strs _) q hn
      · cases e
  · cases e

/-! ### isinstance -/
/-- the value's type, as isinstance looks at it -/
structure ClsD (K : PySem.W.Frag) (C : Addr) : Prop where
  cl : Cls K C
  ha : PySem.W.findIn K (.ref C) "__class__" = some (some (.builtin "object.__class__"))
  hn : PySem.W.specialIn K (.builtin "object.__class__") "__get__" = some (some (.builtin "getset_descriptor.__get__"))
  htk : PySem.W.takesIn K (.builtin "object.__class__") = some true
  hm : PySem.W.mroIn K C (.type "object") = some true
def tyD : Dat → Option Value
  | .non => some (.type "NoneType")
  | .bl _ => some (.type "bool")
  | .int _ => some (.type "int")
  | .str _ => some (.type "str")
  | .tup _ => some (.type "tuple")
  | .lst _ => some (.type "list")
  | .dct _ => some (.type "dict")
  | .ins C _ => some (.ref C)
  | .ob _ => none
  | .scr _ => none
theorem tyX_of {K : PySem.W.Frag} {F H : Hp} {v : V} {d : Dat} {t : Value} (r : Rv K F H v d) (e : tyD d = some t) (hc : ∀ C fs, d = .ins C fs → ClsD K C) : TyX K H v t := by
  cases d with
  | non => cases e; rw [rv_non r]; exact .base .non
  | bl b => cases e; rw [rv_bl r]; exact .base (.bl b)
  | int i => cases e; rw [rv_int r]; exact .base (.int i)
  | str x => cases e; rw [rv_str r]; exact .base (.str x)
  | tup ds =>
    cases e
    obtain ⟨a, vs, rfl, ⟨_, s1⟩, r1⟩ := rv_tup r
    rcases s1 with (s1 | ⟨o, s1⟩) | ⟨o, its, n, h1, h2, _⟩
    · exact .base (.tup s1)
    · exact .fTuple s1
    · exact .kTuple h1 h2
  | lst ds =>
    cases e
    obtain ⟨a, vs, rfl, s1, r1⟩ := rv_lst r
    exact .base (.lst s1)
  | dct ds =>
    cases e
    obtain ⟨a, vs, rfl, s1, r1⟩ := rv_dct r
    rcases s1 with s1 | ⟨o, s1⟩
    · exact .base (.dK s1)
    · exact .fDict s1
  | ins C ds =>
    cases e
    obtain ⟨a, dx, fs, rfl, s1, r1⟩ := rv_ins r
    have c := hc C ds rfl
    exact .base (.ins s1.2 c.cl c.ha c.hn c.htk c.hm)
  | ob w => cases e
  | scr ns => cases e
/-- isinstance(x, c): f is the table of the answers -/
def isiD (f : Dat → Option Bool) (c : V) : FD := fun ds => match ds with
  | [x, .ob _] => (f x).map Dat.bl
  | _ => none
structure IsiOk (K : PySem.W.Frag) (u : Value) (f : Dat → Option Bool) : Prop where
  h : ∀ d b, f d = some b → ∃ t, tyD d = some t ∧ PySem.W.kitOne K t u = some b
  c : ∀ C fs b, f (.ins C fs) = some b → ClsD K C
def rIsiD (K : PySem.W.Frag) (c : V) : List V → Hp → VK → Prop := fun xs H Q => ∃ (x : V) (t u : Value) (b : Bool), xs = [x, c] ∧ ClsV c u ∧ TyX K H x t ∧ PySem.W.kitOne K t u = some b ∧ Q (.bl b) H
theorem call_isiD {X : Cx} {c : V} : CallR X (.builtin "isinstance") (rIsiD X.K c) := fun pins s σ H xs us Q I r ⟨x, t, u, b, e, k, ty, o, q⟩ => call_isi pins s σ H xs us Q I r ⟨x, c, t, u, b, e, k, ty, o, q⟩
theorem cg_isi {K : PySem.W.Frag} {c : V} {u : Value} {f : Dat → Option Bool} (ok : IsiOk K u f) (hc : ClsV c u) {F H : Hp} {vs : List V} {x y d : Dat} {Q : VK} (s : ∀ a o, F a = some o → H a = some o) {v : V} (rv : Rv K F H v x) {b : Bool} (e : f x = some b) (q : QOk K F H (.bl b) Q) : rIsiD K c [v, c] H Q := by
  obtain ⟨t, h1, h2⟩ := ok.h x b e
  exact ⟨v, t, u, b, rfl, hc, tyX_of rv h1 fun C fs z => ok.c C fs b (z ▸ e), h2, q_bl q⟩
def fIsi (f : Dat → Option Bool) (fa : EM) : EM := fun ρ μ => (fa ρ μ).bind fun x μ1 => match vw x μ1 with
  | some d => ofO ((f d).map Dat.bl) μ1
  | none => .bad
section
variable {X : Cx} {R : Ent} {W : WX}
theorem de_isi {c : V} {u : Value} {f : Dat → Option Bool} {fa : EM} {a b : Expr} {p pos : Pos} (ok : IsiOk X.K u f) (hc : ClsV c u) (hm : X.mg "isinstance" = none) (ha : PE X a (tD X.K X.mg R W fa)) (hb : PE X b (tC c)) (hg : Gl X "isinstance" := by rfl)
    (h1 : starEach [a, b] X.env = (false, eval a X.env) :: starEach [b] X.env := by rfl) (h2 : starEach [b] X.env = (false, eval b X.env) :: starEach [] X.env := by rfl) (hpl : (backTo pos (starEach [b] X.env)).any (·.1) = false := by rfl) :
    PE X (.Call (.Name "isinstance" p) [a, b] [] pos) (tD X.K X.mg R W (fIsi f fa)) := by
  refine pe_imp (pe_callB (call_isiD (c := c)) hg hm (by rfl) (pa_cons ha (pa_cons hb pa_nil h2) h1) (by decide) (by decide) h1 hpl) fun σ H Q ⟨ρ, μ, ι, F, I, q⟩ => ⟨ρ, μ, ι, F, I, q.bind.imp fun x μ1 q1 ι1 F1 H1 v I1 g1 r1 => ?_⟩
  cases e1 : vw x μ1 with
  | none => rw [e1] at q1; exact q1.elim
  | some d =>
    rw [e1] at q1
    obtain ⟨d', e2, q2⟩ := ofO_ok (α := Nat) q1
    cases e3 : f d with
    | none => rw [e3] at e2; cases e2
    | some b =>
      rw [e3] at e2; cases e2
      refine cg_isi (vs := []) (y := d) (d := d) ok hc I1.sub (I1.view r1 e1) e3 fun v' H' F' gh rp => ?_
      obtain ⟨J, gw⟩ := I1.gh gh
      exact q2 ι1 F' H' v' J (g1.trans gw) rp
end
/-- a built-in class -/
def isiT (b : String) : Dat → Option Bool
  | .ob _ => none
  | .scr _ => none
  | .ins _ _ => none
  | d => match tyD d with
    | some (.type a) => kitB a b
    | _ => none
theorem isiT_ok {K : PySem.W.Frag} {b : String} : IsiOk K (.type b) (isiT b) := by
  refine ⟨fun d r e => ?_, fun C fs r e => nomatch e⟩
  cases d with
  | non => exact ⟨_, rfl, kit_ty e⟩
  | bl b => exact ⟨_, rfl, kit_ty e⟩
  | int i => exact ⟨_, rfl, kit_ty e⟩
  | str x => exact ⟨_, rfl, kit_ty e⟩
  | tup ds => exact ⟨_, rfl, kit_ty e⟩
  | lst ds => exact ⟨_, rfl, kit_ty e⟩
  | dct ds => exact ⟨_, rfl, kit_ty e⟩
  | ins C ds => cases e
  | ob w => cases e
  | scr ns => cases e
end DL

-- DL7
/-! DL7: text methods, f-strings, displays, ranges, zips. -/
namespace DL
open PySem PySem.Spec PyProof.Rows L2 RZ

/-! ### a text's method of one argument -/
def MG1 (K : PySem.W.Frag) (r : V → List V → Hp → VK → Prop) (f : Str → Dat → Option Dat) : Prop :=
  ∀ (F H : Hp) (a : Str) (w : V) (y d : Dat) (Q : VK), (∀ a o, F a = some o → H a = some o) → Rv K F H w y → f a y = some d → QOk K F H d Q → r (.str a) [w] H Q
def fM1 (f : Str → Dat → Option Dat) (fo fe : EM) : EM := fun ρ μ => (fo ρ μ).bind fun x μ1 => match x with
  | .d (.str a) => (fe ρ μ1).bind fun y μ2 => (match vw y μ2 with
    | some d => ofO (f a d) μ2
    | none => .bad)
  | _ => .bad
section
variable {X : Cx} {R : Ent} {W : WX} {K : PySem.W.Frag} {mg : MG} {r : V → List V → Hp → VK → Prop} {f : Str → Dat → Option Dat} {fo fe : EM}
theorem m1_ok (hg : MG1 K r f) {σ : L2.St} {H : Hp} {Q : VK} (h : tD K mg R W (fM1 f fo fe) σ H Q) : tM1 r (tD K mg R W fo) (tD K mg R W fe) σ H Q := by
  obtain ⟨ρ, μ, ι, F, I, q⟩ := h
  refine ⟨ρ, μ, ι, F, I, q.bind.imp fun x μ1 q1 ι1 F1 H1 v I1 g1 r1 => ?_⟩
  cases x with
  | r k => exact (show False from q1).elim
  | d x =>
    cases x with
    | str a =>
      cases r1
      refine ⟨⟨a, rfl⟩, ρ, μ1, ι1, F1, I1, (Pst.bind q1).imp fun y μ2 q2 ι2 F2 H2 w I2 g2 r2 => ?_⟩
      cases e1 : vw y μ2 with
      | none => rw [e1] at q2; exact q2.elim
      | some d =>
        rw [e1] at q2
        obtain ⟨z, e2, q3⟩ := ofO_ok (α := Nat) q2
        refine hg F2 H2 a w d z Q I2.sub (I2.view r2 e1) e2 fun v' H' F' gh rp => ?_
        obtain ⟨J, gw⟩ := I2.gh gh
        exact q3 ι2 F' H' v' J ((g1.trans g2).trans gw) rp
    | _ => exact (show False from q1).elim
theorem de_m1 {o e : Expr} {id : String} {name : Str} {apos pos : Pos} (slot : Slot "str" name id) (ty : typeOf (.builtin id) = pure (.type "method_descriptor")) (rule : MtR X id r) (hg : MG1 X.K r f) (ho : PE X o (tD X.K X.mg R W fo)) (he : PE X e (tD X.K X.mg R W fe))
    (hs : starEach [e] X.env = [(false, eval e X.env)] := by rfl) (hbase : attributeBase o name X.env (eval o X.env) = eval o X.env := by rfl) (hline : (apos.endLine == pos.line) = true := by rfl) :
    PE X (.Call (.Attribute o name apos) [e] [] pos) (tD X.K X.mg R W (fM1 f fo fe)) := pe_imp (pe_m1 slot ty rule ho he hs hbase hline) fun σ H Q h => m1_ok hg h
end
def splitD (a : Str) (y : Dat) : Option Dat := match y with
  | .str b => if (b.length == 0) = false ∧ a.length + 2 ≤ sizeLine then some (.lst ((Txt.split a b).map Dat.str)) else none
  | _ => none
def partD (a : Str) (y : Dat) : Option Dat := match y with
  | .str b => if (b.length == 0) = false ∧ a.length ≤ sizeLine then some (.tup [.str (Txt.partition a b).1, .str (Txt.partition a b).2.1, .str (Txt.partition a b).2.2]) else none
  | _ => none
def startsD (a : Str) (y : Dat) : Option Dat := match y with
  | .str b => some (.bl (Txt.startswith a b))
  | _ => none
def joinD (a : Str) (y : Dat) : Option Dat := match y with
  | .lst xs => (strsD xs).bind fun ys => if (ys.map (·.length)).sum + ys.length * a.length ≤ 16777216 then some (.str (Txt.join a ys)) else none
  | .tup xs => (strsD xs).bind fun ys => if (ys.map (·.length)).sum + ys.length * a.length ≤ 16777216 then some (.str (Txt.join a ys)) else none
  | _ => none
section
variable {K : PySem.W.Frag}
theorem mg_split : MG1 K (fun x xs H Q => ∃ a b, x = .str a ∧ xs = [.str b] ∧ (b.length == 0) = false ∧ a.length + 2 ≤ sizeLine ∧ rNewStrs (Txt.split a b) H Q) splitD := by
  intro F H a w y d Q s rw' e q
  unfold splitD at e
  split at e
  · split at e
    · rename_i h; cases e
      rw [rv_str rw']
      exact ⟨a, _, rfl, rfl, h.1, h.2, fun p hp => q_lst s (Rps.of_strs _) q hp⟩
    · cases e
  · cases e
theorem mg_part : MG1 K (fun x xs H Q => ∃ a b, x = .str a ∧ xs = [.str b] ∧ (b.length == 0) = false ∧ a.length ≤ sizeLine ∧
    ∀ p, H p = none → Q (.ref p) (upd H p (.tup [.str (Txt.partition a b).1, .str (Txt.partition a b).2.1, .str (Txt.partition a b).2.2]))) partD := by
  intro F H a w y d Q s rw' e q
  unfold partD at e
  split at e
  · split at e
    · rename_i h; cases e
      rw [rv_str rw']
      exact ⟨a, _, rfl, rfl, h.1, h.2, fun p hp => q_tup s (.cons (.str _) (.cons (.str _) (.cons (.str _) .nil))) q hp⟩
    · cases e
  · cases e
theorem mg_starts : MG1 K (fun x xs H Q => ∃ a b, x = .str a ∧ xs = [.str b] ∧ Q (.bl (Txt.startswith a b)) H) startsD := by
  intro F H a w y d Q s rw' e q
  unfold startsD at e
  split at e
  · cases e
    rw [rv_str rw']
    exact ⟨a, _, rfl, rfl, q_bl q⟩
  · cases e
theorem mg_join : MG1 K (fun x xs H Q => ∃ a p, ∃ ys : List Str, x = .str a ∧ xs = [.ref p] ∧ (SqL K H p (ys.map V.str) ∨ SqT K H p (ys.map V.str)) ∧
      (ys.map (·.length)).sum + ys.length * a.length ≤ 16777216 ∧ Q (.str (Txt.join a ys)) H) joinD := by
  intro F H a w y d Q s rw' e q
  unfold joinD at e
  split at e
  · rename_i xs
    cases h : strsD xs with
    | none => rw [h] at e; cases e
    | some ss =>
      rw [h] at e
      have e : (if (ss.map (·.length)).sum + ss.length * a.length ≤ 16777216 then some (Dat.str (Txt.join a ss)) else none) = some d := e
      split at e
      · rename_i hz; cases e
        rw [strsD_eq h] at rw'
        obtain ⟨p, us, rfl, s1, r1⟩ := rv_lst rw'
        have e1 := Rps.strs r1
        subst e1
        exact ⟨a, p, ss, rfl, rfl, .inl (.inl (.inl s1)), hz, q_str q⟩
      · cases e
  · rename_i xs
    cases h : strsD xs with
    | none => rw [h] at e; cases e
    | some ss =>
      rw [h] at e
      have e : (if (ss.map (·.length)).sum + ss.length * a.length ≤ 16777216 then some (Dat.str (Txt.join a ss)) else none) = some d := e
      split at e
      · rename_i hz; cases e
        rw [strsD_eq h] at rw'
        obtain ⟨p, us, rfl, s1, r1⟩ := rv_tup rw'
        have e1 := Rps.strs r1
        subst e1
        exact ⟨a, p, ss, rfl, rfl, .inr s1.2, hz, q_str q⟩
      · cases e
  · cases e
end
section
variable {X : Cx} {R : Ent} {W : WX} {o e : Expr} {fo fe : EM} {apos pos : Pos}
theorem de_split (ho : PE X o (tD X.K X.mg R W fo)) (he : PE X e (tD X.K X.mg R W fe)) (hs : starEach [e] X.env = [(false, eval e X.env)] := by rfl) (hbase : attributeBase o "split" X.env (eval o X.env) = eval o X.env := by rfl) (hline : (apos.endLine == pos.line) = true := by rfl) :
    PE X (.Call (.Attribute o "split" apos) [e] [] pos) (tD X.K X.mg R W (fM1 splitD fo fe)) := de_m1 F.slot_str_split F.type_str_split mt_split mg_split ho he hs hbase hline
theorem de_part (ho : PE X o (tD X.K X.mg R W fo)) (he : PE X e (tD X.K X.mg R W fe)) (hs : starEach [e] X.env = [(false, eval e X.env)] := by rfl) (hbase : attributeBase o "partition" X.env (eval o X.env) = eval o X.env := by rfl) (hline : (apos.endLine == pos.line) = true := by rfl) :
    PE X (.Call (.Attribute o "partition" apos) [e] [] pos) (tD X.K X.mg R W (fM1 partD fo fe)) := de_m1 F.slot_str_partition F.type_str_partition mt_partition mg_part ho he hs hbase hline
theorem de_starts (ho : PE X o (tD X.K X.mg R W fo)) (he : PE X e (tD X.K X.mg R W fe)) (hs : starEach [e] X.env = [(false, eval e X.env)] := by rfl) (hbase : attributeBase o "startswith" X.env (eval o X.env) = eval o X.env := by rfl) (hline : (apos.endLine == pos.line) = true := by rfl) :
    PE X (.Call (.Attribute o "startswith" apos) [e] [] pos) (tD X.K X.mg R W (fM1 startsD fo fe)) := de_m1 F.slot_str_startswith F.type_str_startswith mt_startswith mg_starts ho he hs hbase hline
theorem de_join (ho : PE X o (tD X.K X.mg R W fo)) (he : PE X e (tD X.K X.mg R W fe)) (hs : starEach [e] X.env = [(false, eval e X.env)] := by rfl) (hbase : attributeBase o "join" X.env (eval o X.env) = eval o X.env := by rfl) (hline : (apos.endLine == pos.line) = true := by rfl) :
    PE X (.Call (.Attribute o "join" apos) [e] [] pos) (tD X.K X.mg R W (fM1 joinD fo fe)) := de_m1 F.slot_str_join F.type_str_join mt_join mg_join ho he hs hbase hline
end

/-! ### f-strings -/
def fmtD (x : Dat) : Option Dat := match x with
  | .str y => if y.length ≤ sizeLine then some (.str y) else none
  | .int i => if i.natAbs.log2 < 1920 then some (.str (Str.ofString (toString i))) else none
  | _ => none
def fFmt (f : EM) : EM := fun ρ μ => (f ρ μ).bind fun x μ1 => match x with
  | .d x => ofO (fmtD x) μ1
  | _ => .bad
def joinGo : List EM → Str → En → Mu → Res Str
  | [], acc, _, μ => .ok acc μ
  | f :: fs, acc, ρ, μ => (f ρ μ).bind fun x μ1 => match x with
    | .d (.str y) => if (acc ++ y).length ≤ sizeLine then joinGo fs (acc ++ y) ρ μ1 else .bad
    | _ => .bad
def fJoined (fs : List EM) : EM := fun ρ μ => (joinGo fs Str.empty ρ μ).bind fun x μ1 => .ok (.d (.str x)) μ1
inductive DJ (X : Cx) (R : Ent) (W : WX) : List Expr → List EM → Prop where
  | nil : DJ X R W [] []
  | cons {e : Expr} {f : EM} {es : List Expr} {fs : List EM} (h : PE X e (tD X.K X.mg R W f)) (r : DJ X R W es fs) : DJ X R W (e :: es) (f :: fs)
section
variable {X : Cx} {R : Ent} {W : WX}
theorem de_fmt {e : Expr} {f : EM} {pos : Pos} (h : PE X e (tD X.K X.mg R W f)) : PE X (.FormattedValue e (-1) none pos) (tD X.K X.mg R W (fFmt f)) := by
  refine pe_imp (pe_fmt h) fun σ H Q ⟨ρ, μ, ι, F, I, q⟩ => ⟨ρ, μ, ι, F, I, q.bind.imp fun x μ1 q1 ι1 F1 H1 v I1 g1 r1 => ?_⟩
  cases x with
  | r k => exact (show False from q1).elim
  | d x =>
    obtain ⟨d, e1, q2⟩ := ofO_ok (α := Nat) q1
    unfold fmtD at e1
    split at e1
    · split at e1
      · rename_i y hz; cases e1; cases r1
        exact .inl ⟨y, rfl, hz, q2 ι1 F1 H1 _ I1 g1 (.str y)⟩
      · cases e1
    · split at e1
      · rename_i i hz; cases e1; cases r1
        exact .inr ⟨i, rfl, hz, q2 ι1 F1 H1 _ I1 g1 (.str _)⟩
      · cases e1
    · cases e1
theorem DJ.pj {es : List Expr} {fs : List EM} (h : DJ X R W es fs) : PJ X es (fs.map fun f => tD X.K X.mg R W f) := by
  induction h with
  | nil => exact .nil
  | cons h _ ih => exact .cons h ih
theorem joinGo_ok {K : PySem.W.Frag} {mg : MG} {σ : L2.St} : ∀ (fs : List EM) (acc : Str) (ρ : En) (μ : Mu) (ι : List Addr) (F : Hp) (H : Hp) (Q : Str → Hp → Prop), DI K R ρ μ ι F σ H →
    Pst (Bx K mg R W ρ σ) (fun x μ' => ∀ ι' F' H', DI K R ρ μ' ι' F' σ H' → Gw ι F ι' F' → Q x H') (joinGo fs acc ρ μ) → tJs (fs.map fun f => tD K mg R W f) acc σ H Q
  | [], acc, ρ, μ, ι, F, H, Q, I, q => q ι F H I Gw.refl
  | f :: fs, acc, ρ, μ, ι, F, H, Q, I, q => by
    refine ⟨ρ, μ, ι, F, I, (Pst.bind q).imp fun x μ1 q1 ι1 F1 H1 v I1 g1 r1 => ?_⟩
    cases x with
    | r k => exact (show False from q1).elim
    | d x =>
      cases x with
      | str y =>
        cases r1
        have q1 : Pst (Bx K mg R W ρ σ) (fun x μ' => ∀ ι' F' H', DI K R ρ μ' ι' F' σ H' → Gw ι F ι' F' → Q x H') (if (acc ++ y).length ≤ sizeLine then joinGo fs (acc ++ y) ρ μ1 else .bad) := q1
        by_cases hz : (acc ++ y).length ≤ sizeLine
        · rw [if_pos hz] at q1
          exact ⟨y, rfl, hz, joinGo_ok fs (acc ++ y) ρ μ1 ι1 F1 H1 Q I1 (q1.imp fun x μ2 q2 ι2 F2 H2 I2 g2 => q2 ι2 F2 H2 I2 (g1.trans g2))⟩
        · rw [if_neg hz] at q1; exact q1.elim
      | _ => exact (show False from q1).elim
theorem de_joined {v1 v2 : Expr} {rest : List Expr} {f1 f2 : EM} {fs : List EM} {pos : Pos} (h : DJ X R W (v1 :: v2 :: rest) (f1 :: f2 :: fs)) : PE X (.JoinedStr (v1 :: v2 :: rest) pos) (tD X.K X.mg R W (fJoined (f1 :: f2 :: fs))) :=
  pe_imp (pe_joined h.pj) fun σ H Q ⟨ρ, μ, ι, F, I, q⟩ => joinGo_ok _ _ ρ μ ι F H _ I (q.bind.imp fun x μ1 q1 ι1 F1 H1 I1 g1 => q1 ι1 F1 H1 _ I1 g1 (.str x))
theorem de_joined1 {e : Expr} {f : EM} {pos : Pos} (h : PE X e (tD X.K X.mg R W f)) : PE X (.JoinedStr [e] pos) (tD X.K X.mg R W f) := pe_joined1 h

/-! ### displays -/
def datsOf : List SV → Option (List Dat)
  | [] => some []
  | .d d :: r => (datsOf r).map (d :: ·)
  | .r _ :: _ => none
theorem datsOf_ok {K : PySem.W.Frag} {F : Hp} {ι : List Addr} {vs : List V} {xs : List SV} (r : Rsvs K F ι vs xs) : ∀ {ds : List Dat}, datsOf xs = some ds → Rps K F vs ds := by
  induction r with
  | nil => intro ds e; cases e; exact .nil
  | @cons v vs x xs a b ih =>
    intro ds e
    cases x with
    | r k => cases e
    | d x =>
      cases h : datsOf xs with
      | none => simp [datsOf, h] at e
      | some es =>
        simp [datsOf, h] at e
        subst e
        exact .cons a (ih h)
def fTup (fa : AM) : EM := fun ρ μ => (fa ρ μ).bind fun xs μ1 => match datsOf xs with
  | some ds => if ds.length ≤ sizeLine then .ok (.d (.tup ds)) μ1 else .bad
  | none => .bad
def fLst (fa : AM) : EM := fun ρ μ => (fa ρ μ).bind fun xs μ1 => match datsOf xs with
  | some ds => if ds.length ≤ sizeLine then .ok (.d (.lst ds)) μ1 else .bad
  | none => .bad
/-- a list that will change -/
def fLstL (fa : AM) : EM := fun ρ μ => (fa ρ μ).bind fun xs μ1 => match datsOf xs with
  | some ds => if ds.length ≤ sizeLine then .ok (.r μ1.length) (μ1 ++ [.lst ds]) else .bad
  | none => .bad
def fDctL : EM := fun _ μ => .ok (.r μ.length) (μ ++ [.dct []])
theorem de_tup {es : List Expr} {x1} {fa : AM} {pos : Pos} (h : PA X es (tDA X.K X.mg R W fa)) : PE X (.Tuple es x1 pos) (tD X.K X.mg R W (fTup fa)) := by
  refine pe_imp (pe_tup h) fun σ H Q ⟨ρ, μ, ι, F, I, q⟩ => ⟨ρ, μ, ι, F, I, q.bind.imp fun xs μ1 q1 ι1 F1 H1 vs I1 g1 r1 => ?_⟩
  cases e : datsOf xs with
  | none => rw [e] at q1; exact q1.elim
  | some ds =>
    rw [e] at q1
    have q1 : Pst _ _ (if ds.length ≤ sizeLine then Res.ok (SV.d (.tup ds)) μ1 else .bad) := q1
    have rr := datsOf_ok r1 e
    by_cases hz : ds.length ≤ sizeLine
    · rw [if_pos hz] at q1
      refine ⟨by rw [rr.length]; exact hz, fun p hp => ?_⟩
      obtain ⟨J, gw⟩ := I1.alloc hp (.tup vs) rfl
      exact q1 ι1 _ _ _ J (g1.trans gw) (.tup (.inl (.inl upd_same)) (rr.mono gw.le))
    · rw [if_neg hz] at q1; exact q1.elim
theorem de_lst {es : List Expr} {fa : AM} {pos : Pos} (h : PA X es (tDA X.K X.mg R W fa)) : PE X (.List es pos) (tD X.K X.mg R W (fLst fa)) := by
  refine pe_imp (pe_lst h) fun σ H Q ⟨ρ, μ, ι, F, I, q⟩ => ⟨ρ, μ, ι, F, I, q.bind.imp fun xs μ1 q1 ι1 F1 H1 vs I1 g1 r1 => ?_⟩
  cases e : datsOf xs with
  | none => rw [e] at q1; exact q1.elim
  | some ds =>
    rw [e] at q1
    have q1 : Pst _ _ (if ds.length ≤ sizeLine then Res.ok (SV.d (.lst ds)) μ1 else .bad) := q1
    have rr := datsOf_ok r1 e
    by_cases hz : ds.length ≤ sizeLine
    · rw [if_pos hz] at q1
      refine ⟨by rw [rr.length]; exact hz, fun p hp => ?_⟩
      obtain ⟨J, gw⟩ := I1.alloc hp (.lst vs) rfl
      exact q1 ι1 _ _ _ J (g1.trans gw) (.lst upd_same (rr.mono gw.le))
    · rw [if_neg hz] at q1; exact q1.elim
theorem get_last {α : Type} (l : List α) (x : α) : (l ++ [x])[l.length]? = some x := by simp
theorem de_lstL {es : List Expr} {fa : AM} {pos : Pos} (h : PA X es (tDA X.K X.mg R W fa)) : PE X (.List es pos) (tD X.K X.mg R W (fLstL fa)) := by
  refine pe_imp (pe_lst h) fun σ H Q ⟨ρ, μ, ι, F, I, q⟩ => ⟨ρ, μ, ι, F, I, q.bind.imp fun xs μ1 q1 ι1 F1 H1 vs I1 g1 r1 => ?_⟩
  cases e : datsOf xs with
  | none => rw [e] at q1; exact q1.elim
  | some ds =>
    rw [e] at q1
    have q1 : Pst _ _ (if ds.length ≤ sizeLine then Res.ok (SV.r μ1.length) (μ1 ++ [.lst ds]) else .bad) := q1
    have rr := datsOf_ok r1 e
    by_cases hz : ds.length ≤ sizeLine
    · rw [if_pos hz] at q1
      refine ⟨by rw [rr.length]; exact hz, fun p hp => ?_⟩
      obtain ⟨J, gw⟩ := I1.new (x := .lst ds) hp (.lst vs) ⟨(I1.fresh hp).2.1, vs, upd_same, rr⟩
      exact q1 _ _ _ _ J (g1.trans gw) ⟨p, by rw [← I1.len]; exact get_last _ _, rfl⟩
    · rw [if_neg hz] at q1; exact q1.elim
theorem de_dctL {pos : Pos} : PE X (.Dict [] [] pos) (tD X.K X.mg R W fDctL) := by
  refine pe_imp pe_dnewK fun σ H Q ⟨ρ, μ, ι, F, I, q⟩ => fun p hp => ?_
  obtain ⟨J, gw⟩ := I.new (x := .dct []) hp (.dK []) ⟨(I.fresh hp).2.1, [], upd_same, .nil⟩
  exact q _ _ _ _ J gw ⟨p, by rw [← I.len]; exact get_last _ _, rfl⟩

/-! ### ranges -/
def rngD (lo : Int) (n : Nat) : List Dat := (List.range n).map fun i : Nat => Dat.int (lo + (i : Nat))
theorem itr_ok {K : PySem.W.Frag} {lo : Int} {n : Nat} {ι0 : List Addr} {F0 : Hp} : ItOk K (Itr lo n) ι0 F0 (rngD lo n) := by
  intro R ρ μ ι F σ H I g i
  refine ⟨fun d e => ?_, fun hi => (by simpa [rngD] using hi : n ≤ i)⟩
  unfold rngD at e
  rw [List.getElem?_map] at e
  by_cases hi : i < n
  · rw [List.getElem?_range hi] at e
    cases e
    refine ⟨hi, fun x H' ⟨eH, ex⟩ => ?_⟩
    subst eH ex
    exact ⟨F, I, Gw.refl, fun _ _ q => q, .int _⟩
  · rw [List.getElem?_eq_none (by simp; omega)] at e
    cases e
def iRg1 (fa : EM) : IM := fun ρ μ => (fa ρ μ).bind fun x μ1 => match x with
  | .d (.int j) => if -(2 ^ 62) ≤ j ∧ j < 2 ^ 62 then .ok (rngD 0 j.toNat) μ1 else .bad
  | _ => .bad
def iRg2 (fa fb : EM) : IM := fun ρ μ => (fa ρ μ).bind fun x μ1 => (fb ρ μ1).bind fun y μ2 => match x, y with
  | .d (.int i), .d (.int j) => if -(2 ^ 62) ≤ i ∧ i < 2 ^ 62 ∧ -(2 ^ 62) ≤ j ∧ j < 2 ^ 62 then .ok (rngD i (j - i).toNat) μ2 else .bad
  | _, _ => .bad
theorem di_rg1 {tg a : Expr} {fa : EM} {p pos : Pos} (hm : X.mg "range" = none) (ha : PE X a (tD X.K X.mg R W fa)) (hg : Gl X "range" := by rfl) (h1 : starEach [a] X.env = (false, eval a X.env) :: starEach [] X.env := by rfl) (hs : starEach [a] X.env = [(false, eval a X.env)] := by rfl) :
    PI X tg (.Call (.Name "range" p) [a] [] pos) (tDI X.K X.mg R W (iRg1 fa)) := by
  refine ⟨fun pins s σ H Q I ⟨ρ, μ, ι, F, J, q⟩ => (pi_range1 hg hm (pa_cons ha pa_nil h1) hs).run pins s σ H Q I ⟨ρ, μ, ι, F, J, q.bind.imp fun x μ1 q1 ι1 F1 H1 v I1 g1 r1 => ?_⟩⟩
  cases x with
  | r k => exact (show False from q1).elim
  | d x =>
    cases x with
    | int j =>
      cases r1
      have q1 : Pst _ _ (if -(2 ^ 62) ≤ j ∧ j < 2 ^ 62 then Res.ok (rngD 0 j.toNat) μ1 else .bad) := q1
      by_cases h : -(2 ^ 62) ≤ j ∧ j < 2 ^ 62
      · rw [if_pos h] at q1
        exact ⟨j, rfl, h.1, h.2, q1 ι1 F1 H1 _ I1 g1 itr_ok⟩
      · rw [if_neg h] at q1; exact q1.elim
    | _ => exact (show False from q1).elim
theorem di_rg2 {tg a b : Expr} {fa fb : EM} {p pos : Pos} (hm : X.mg "range" = none) (ha : PE X a (tD X.K X.mg R W fa)) (hb : PE X b (tD X.K X.mg R W fb)) (hg : Gl X "range" := by rfl) (h0 : starEach [a, b] X.env = (false, eval a X.env) :: starEach [b] X.env := by rfl) (h1 : starEach [b] X.env = (false, eval b X.env) :: starEach [] X.env := by rfl)
    (hs : starEach [a, b] X.env = [(false, eval a X.env), (false, eval b X.env)] := by rfl) (hs2 : starEach [b] X.env = [(false, eval b X.env)] := by rfl) :
    PI X tg (.Call (.Name "range" p) [a, b] [] pos) (tDI X.K X.mg R W (iRg2 fa fb)) := by
  refine ⟨fun pins s σ H Q I ⟨ρ, μ, ι, F, J, q⟩ => (pi_range2 hg hm (pa_cons ha (pa_cons hb pa_nil h1) h0) hs hs2).run pins s σ H Q I ⟨ρ, μ, ι, F, J, q.bind.imp fun x μ1 q1 ι1 F1 H1 v I1 g1 r1 => ⟨ρ, μ1, ι1, F1, I1, q1.bind.imp fun y μ2 q2 ι2 F2 H2 w I2 g2 r2 => ?_⟩⟩⟩
  cases x with
  | r k => exact (show False from q2).elim
  | d x =>
    cases x with
    | int i =>
      cases y with
      | r k => exact (show False from q2).elim
      | d y =>
        cases y with
        | int j =>
          cases r1; cases r2
          have q2 : Pst _ _ (if -(2 ^ 62) ≤ i ∧ i < 2 ^ 62 ∧ -(2 ^ 62) ≤ j ∧ j < 2 ^ 62 then Res.ok (rngD i (j - i).toNat) μ2 else .bad) := q2
          by_cases h : -(2 ^ 62) ≤ i ∧ i < 2 ^ 62 ∧ -(2 ^ 62) ≤ j ∧ j < 2 ^ 62
          · rw [if_pos h] at q2
            exact ⟨i, j, rfl, h, q2 ι2 F2 H2 _ I2 (g1.trans g2) itr_ok⟩
          · rw [if_neg h] at q2; exact q2.elim
        | _ => exact (show False from q2).elim
    | _ => exact (show False from q2).elim

/-! ### zips -/
def zipD : List Dat → List Dat → List Dat
  | x :: xs, y :: ys => .tup [x, y] :: zipD xs ys
  | _, _ => []
theorem zipD_get : ∀ {xs ys : List Dat} {i : Nat} {d : Dat}, (zipD xs ys)[i]? = some d → ∃ x y, xs[i]? = some x ∧ ys[i]? = some y ∧ d = .tup [x, y]
  | [], _, i, d, e => by simp [zipD] at e
  | _ :: _, [], i, d, e => by simp [zipD] at e
  | x :: xs, y :: ys, 0, d, e => by
    simp [zipD] at e
    exact ⟨x, y, rfl, rfl, e.symm⟩
  | x :: xs, y :: ys, i + 1, d, e => by
    obtain ⟨a, b, h1, h2, h3⟩ := zipD_get (xs := xs) (ys := ys) (i := i) (d := d) (by simpa [zipD] using e)
    exact ⟨a, b, by simpa using h1, by simpa using h2, h3⟩
theorem zipD_len : ∀ (xs ys : List Dat), (zipD xs ys).length = min xs.length ys.length
  | [], _ => by simp [zipD]
  | _ :: _, [] => by simp [zipD]
  | x :: xs, y :: ys => by simp [zipD, zipD_len xs ys]
section
variable {K : PySem.W.Frag} {ι0 : List Addr} {F0 : Hp} {a b : Addr} {vs ws : List V} {xs ys : List Dat}
theorem zip_yl {R : Ent} {ρ : En} {μ : Mu} {ι : List Addr} {F H : Hp} {σ : L2.St} {T : Addr} {v w : V} {x y : Dat} (I : DI K R ρ μ ι F σ H) (hT : H T = none) (rv : Rp K F v x) (rw' : Rp K F w y) :
    ∃ F', DI K R ρ μ ι F' σ (upd H T (.tup [v, w])) ∧ Gw ι F ι F' ∧ (∀ a o, H a = some o → (upd H T (.tup [v, w])) a = some o) ∧ Rp K F' (.ref T) (.tup [x, y]) := by
  obtain ⟨J, g⟩ := I.alloc hT (.tup [v, w]) rfl
  exact ⟨_, J, g, fun a o e => by rw [upd_ne (ne_of_none e hT)]; exact e, .tup (.inl (.inl upd_same)) (.cons (rv.mono g.le) (.cons (rw'.mono g.le) .nil))⟩
theorem itz_ok (ha : F0 a = some (.lst vs)) (hb : F0 b = some (.lst ws)) (r1 : Rps K F0 vs xs) (r2 : Rps K F0 ws ys) : ItOk K (Itz K a b) ι0 F0 (zipD xs ys) := by
  intro R ρ μ ι F σ H I g i
  have h1 : SqL K H a vs := .inl (.inl (I.sub _ _ (g.le.h _ _ ha)))
  have h2 : SqL K H b ws := .inl (.inl (I.sub _ _ (g.le.h _ _ hb)))
  refine ⟨fun d e => ?_, fun hi => ⟨vs, ws, h1, h2, ?_⟩⟩
  · obtain ⟨x, y, e1, e2, rfl⟩ := zipD_get e
    obtain ⟨v, q1, rv⟩ := r1.get e1
    obtain ⟨w, q2, rw'⟩ := r2.get e2
    refine ⟨⟨vs, ws, v, w, h1, h2, q1, q2⟩, fun z H' ⟨T, v', w', ez, hT, eH, f1, f2⟩ => ?_⟩
    have z1 := f1 vs h1
    have z2 := f2 ws h2
    rw [q1] at z1; cases z1
    rw [q2] at z2; cases z2
    subst ez eH
    exact zip_yl I hT (rv.mono g.le) (rw'.mono g.le)
  · rw [zipD_len] at hi
    rw [r1.length, r2.length]
    omega
theorem itzT_ok (ha : SqT K F0 a vs) (hb : SqT K F0 b ws) (r1 : Rps K F0 vs xs) (r2 : Rps K F0 ws ys) : ItOk K (ItzT K a b) ι0 F0 (zipD xs ys) := by
  intro R ρ μ ι F σ H I g i
  have h1 : SqT K H a vs := (SqT.le g.le ha).imp (rd_sub I.sub) id
  have h2 : SqT K H b ws := (SqT.le g.le hb).imp (rd_sub I.sub) id
  refine ⟨fun d e => ?_, fun hi => ⟨vs, ws, h1, h2, ?_⟩⟩
  · obtain ⟨x, y, e1, e2, rfl⟩ := zipD_get e
    obtain ⟨v, q1, rv⟩ := r1.get e1
    obtain ⟨w, q2, rw'⟩ := r2.get e2
    refine ⟨⟨vs, ws, v, w, h1, h2, q1, q2⟩, fun z H' ⟨T, v', w', ez, hT, eH, f1, f2⟩ => ?_⟩
    have z1 := f1 vs h1
    have z2 := f2 ws h2
    rw [q1] at z1; cases z1
    rw [q2] at z2; cases z2
    subst ez eH
    exact zip_yl I hT (rv.mono g.le) (rw'.mono g.le)
  · rw [zipD_len] at hi
    rw [r1.length, r2.length]
    omega
end
def iZip (fa fb : EM) : IM := fun ρ μ => (fa ρ μ).bind fun x μ1 => (fb ρ μ1).bind fun y μ2 => match x, y with
  | .d (.lst xs), .d (.lst ys) => .ok (zipD xs ys) μ2
  | .d (.tup xs), .d (.tup ys) => .ok (zipD xs ys) μ2
  | _, _ => .bad
theorem di_zip {e e2 : Expr} {fa fb : EM} {p pos tpos : Pos} {elts : List Expr} {kk : Nat} (hm : X.mg "zip" = none) (ha : PE X e (tD X.K X.mg R W fa)) (hb : PE X e2 (tD X.K X.mg R W fb)) (hg : Gl X "zip" := by rfl)
    (hs : starEach [e, e2] X.env = (false, eval e X.env) :: starEach [e2] X.env := by rfl) (h1 : starEach [e2] X.env = (false, eval e2 X.env) :: starEach [] X.env := by rfl) (hpl : (backTo pos (starEach [e2] X.env)).any (·.1) = false := by rfl) :
    PI X (.Tuple elts kk tpos) (.Call (.Name "zip" p) [e, e2] [] pos) (tDI X.K X.mg R W (iZip fa fb)) := by
  refine ⟨fun pins s σ H Q I ⟨ρ, μ, ι, F, J, q⟩ => (pi_zipA hg hm (pa_cons ha (pa_cons hb pa_nil h1) hs) hs hpl).run pins s σ H Q I ⟨ρ, μ, ι, F, J, q.bind.imp fun x μ1 q1 ι1 F1 H1 v I1 g1 r1 => ⟨ρ, μ1, ι1, F1, I1, q1.bind.imp fun y μ2 q2 ι2 F2 H2 w I2 g2 r2 => ?_⟩⟩⟩
  have r1 := r1.mono g2
  cases x with
  | r k => exact (show False from q2).elim
  | d x =>
    cases y with
    | r k => cases x <;> exact (show False from q2).elim
    | d y =>
      cases x with
      | lst xs =>
        cases y with
        | lst ys =>
          cases r1 with
          | lst s1 r1 =>
            cases r2 with
            | lst s2 r2 => exact ⟨_, _, _, _, rfl, .inl ⟨.inl (.inl (I2.sub _ _ s1)), .inl (.inl (I2.sub _ _ s2)), q2 ι2 F2 H2 _ I2 (g1.trans g2) (itz_ok s1 s2 r1 r2)⟩⟩
        | _ => exact (show False from q2).elim
      | tup xs =>
        cases y with
        | tup ys =>
          cases r1 with
          | tup s1 r1 =>
            cases r2 with
            | tup s2 r2 => exact ⟨_, _, _, _, rfl, .inr ⟨s1.imp (rd_sub I2.sub) id, s2.imp (rd_sub I2.sub) id, q2 ι2 F2 H2 _ I2 (g1.trans g2) (itzT_ok s1 s2 r1 r2)⟩⟩
        | _ => exact (show False from q2).elim
      | _ => cases y <;> exact (show False from q2).elim
end
end DL

-- DL8
/-! DL8: list comprehensions. -/
namespace DL
open PySem PySem.Spec PyProof.Rows L2

def wipeE (sl : List (Option SV)) : List Nat → List (Option SV)
  | [] => sl
  | v :: vs => (wipeE sl vs).set v none
theorem wipe_get {σ : L2.St} {i : Nat} {x : V} : ∀ {vs : List Nat}, i ∉ vs → σ[i]? = some (some x) → (wipe σ vs)[i]? = some (some x)
  | [], _, h => h
  | v :: vs, hn, h => by
    have h1 : v ≠ i := fun z => hn (by rw [z]; exact List.mem_cons_self)
    have h2 : i ∉ vs := fun z => hn (List.mem_cons_of_mem _ z)
    show ((wipe σ vs).set v none)[i]? = _
    rw [List.getElem?_set_ne h1]
    exact wipe_get h2 h
theorem wipeE_some {σ : List (Option SV)} {i : Nat} {x : SV} : ∀ {vs : List Nat}, (wipeE σ vs)[i]? = some (some x) → σ[i]? = some (some x) ∧ i ∉ vs
  | [], h => ⟨h, by simp⟩
  | v :: vs, h => by
    have h : ((wipeE σ vs).set v none)[i]? = some (some x) := h
    by_cases hi : v = i
    · subst hi
      by_cases hv : v < (wipeE σ vs).length
      · rw [List.getElem?_set_self hv] at h; cases h
      · rw [List.getElem?_eq_none (by simpa using hv)] at h; cases h
    · rw [List.getElem?_set_ne hi] at h
      obtain ⟨h1, h2⟩ := wipeE_some h
      exact ⟨h1, by simp only [List.mem_cons, not_or]; exact ⟨fun e => hi e.symm, h2⟩⟩
theorem wipe_wipe (σ : L2.St) (vs : List Nat) : wipe (wipe σ vs) vs = wipe σ vs := by
  have key : ∀ (vs ws : List Nat) (σ : L2.St), (∀ j ∈ vs, j ∈ ws) → wipe (wipe σ vs) ws = wipe σ ws := by
    intro vs
    induction vs with
    | nil => intro ws σ _; rfl
    | cons v vs ih =>
      intro ws σ h
      show wipe ((wipe σ vs).set v none) ws = _
      rw [wipe_set (h v List.mem_cons_self)]
      exact ih ws σ fun j hj => h j (List.mem_cons_of_mem _ hj)
  exact key vs vs σ fun j hj => hj

section
variable {K : PySem.W.Frag} {R : Ent} {ρ : En} {μ : Mu} {ι : List Addr} {F H : Hp} {σ : L2.St} {D : Addr}
/-- something of ours beside the data is changed -/
theorem DI.junk (I : DI K R ρ μ ι F σ H) (h0 : H D = none ∨ ∃ o0, H D = some o0 ∧ isD o0 = true) (h1 : F D = none) (h2 : D ∉ ι) (h3 : Nn (R.H D)) (o : HO) : DI K R ρ μ ι F σ (upd H D o) := by
  refine ⟨fun a u e => ?_, I.nn, I.sl, I.len, fun k a u e1 e2 => ?_, I.nd, ?_, I.F0, I.Fn, I.ι0, I.ft⟩
  · rw [upd_ne (ne_of_none e h1)]; exact I.sub a u e
  · have q : a ≠ D := fun z => h2 (by rw [← z]; exact List.mem_of_getElem? e1)
    exact (I.ob k a u e1 e2).le (Le.refl F) id fun u z => by rw [upd_ne q]; exact z
  · rcases h0 with h0 | ⟨o0, h0, d⟩
    · exact I.fr.new h0 o
    · exact I.fr.put h0 d (fun u e t => by have z := h3 u e; rw [t] at z; cases z) o
/-- .. becomes data -/
theorem DI.adopt (I : DI K R ρ μ ι F σ H) {o : HO} (ho : isT o = false) (h1 : F D = none) (h2 : D ∉ ι) (h3 : Nn (R.H D)) (hD : H D = some o) : DI K R ρ μ ι (upd F D o) σ H ∧ Gw ι F ι (upd F D o) := by
  have l : Le F (upd F D o) := Le.upd h1
  refine ⟨⟨fun a u e => ?_, I.nn, fun i x e => ?_, I.len, fun k a u e1 e2 => ?_, I.nd, I.fr, I.F0.trans l, fun a e => ?_, I.ι0, fun a u e => ?_⟩, l, fun _ _ e => e⟩
  · by_cases q : a = D
    · subst q; rw [upd_same] at e; cases e; exact hD
    · rw [upd_ne q] at e; exact I.sub a u e
  · obtain ⟨v, e1, r⟩ := I.sl i x e
    exact ⟨v, e1, r.mono ⟨l, fun _ _ e => e⟩⟩
  · have q : a ≠ D := fun z => h2 (by rw [← z]; exact List.mem_of_getElem? e1)
    exact (I.ob k a u e1 e2).le l (fun z => by rw [upd_ne q]; exact z) fun u z => z
  · by_cases q : a = D
    · subst q; exact .inr h3
    · rw [upd_ne q] at e; exact I.Fn a e
  · by_cases q : a = D
    · subst q; rw [upd_same] at e; cases e; exact ho
    · rw [upd_ne q] at e; exact I.ft a u e
/-- .. becomes a changing object -/
theorem DI.adoptL (I : DI K R ρ μ ι F σ H) {vs : List V} {ds : List Dat} (h1 : F D = none) (h2 : D ∉ ι) (h3 : Nn (R.H D)) (hD : H D = some (.lst vs)) (r : Rps K F vs ds) : DI K R ρ (μ ++ [.lst ds]) (ι ++ [D]) F σ H ∧ Gw ι F (ι ++ [D]) F := by
  have ad : ∀ (k : Nat) a, ι[k]? = some a → (ι ++ [D])[k]? = some a := fun k a e => by
    rw [List.getElem?_append_left (List.getElem?_eq_some_iff.mp e).1]
    exact e
  have g : Gw ι F (ι ++ [D]) F := ⟨Le.refl F, ad⟩
  refine ⟨⟨I.sub, I.nn, fun i x e => ?_, by simp [I.len], fun k a u e1 e2 => ?_, nodup_snoc I.nd h2, I.fr, I.F0, I.Fn, ?_, I.ft⟩, g⟩
  · obtain ⟨v, e1, r⟩ := I.sl i x e
    exact ⟨v, e1, r.mono g⟩
  · by_cases hk : k < ι.length
    · rw [List.getElem?_append_left hk] at e1
      rw [List.getElem?_append_left (by rw [← I.len]; exact hk)] at e2
      exact I.ob k a u e1 e2
    · rw [List.getElem?_append_right (by omega)] at e1
      rw [List.getElem?_append_right (by rw [← I.len]; omega)] at e2
      have hk0 : k - ι.length = 0 := by
        have := (List.getElem?_eq_some_iff.mp e1).1
        simp at this
        exact this
      rw [hk0] at e1
      rw [← I.len, hk0] at e2
      simp at e1 e2
      subst e1 e2
      exact ⟨h1, vs, hD, r⟩
  · obtain ⟨m, e, hm⟩ := I.ι0
    refine ⟨m ++ [D], by rw [e, List.append_assoc], fun a ha => ?_⟩
    rcases List.mem_append.mp ha with z | z
    · exact hm a z
    · have : a = D := by simpa using z
      rw [this]; exact h3
end

/-! ### what the block computes -/
def fYes : BM := fun _ μ => .ok true μ
def Res.nx {α : Type} : Res α → Res α
  | .ok a μ => .ok a μ
  | .ex _ _ => .bad
  | .bad => .bad
def Res.exT {α : Type} (n : Nat) : Res α → Res α
  | .ok a μ => .ok a μ
  | .ex x μ => .ex x (μ.take n)
  | .bad => .bad
def lcGo (g : GM) (tt : BM) (te : EM) (sl : List (Option SV)) (n : Nat) : List Dat → Mu → Res (List Dat)
  | [], μ => .ok [] μ
  | d :: ds, μ => match g (.d d) ⟨sl, n⟩ μ with
    | none => .bad
    | some ρ1 => (tt ρ1 μ).bind fun b μ1 => match b with
      | true => (te ρ1 μ1).bind fun x μ2 => (match asD ρ1 x μ2 with
        | none => .bad
        | some (y, μ3) => (lcGo g tt te sl n ds (μ3.take n)).bind fun ys μ4 => .ok (y :: ys) μ4)
      | false => lcGo g tt te sl n ds (μ1.take n)
/-- nothing is raised inside -/
def fLc (it : IM) (g : GM) (tt : BM) (te : EM) (vs : List Nat) : EM := fun ρ μ => (it ρ μ).bind fun xs μ1 => if xs.length ≤ sizeLine then (lcGo g tt te (wipeE ρ.sl vs) μ1.length xs μ1).nx.bind fun ys μ2 => .ok (.d (.lst ys)) μ2 else .bad
/-- .. and the list will change -/
def fLcL (it : IM) (g : GM) (tt : BM) (te : EM) (vs : List Nat) : EM := fun ρ μ => (it ρ μ).bind fun xs μ1 => if xs.length ≤ sizeLine then (lcGo g tt te (wipeE ρ.sl vs) μ1.length xs μ1).nx.bind fun ys μ2 => .ok (.r μ2.length) (μ2 ++ [.lst ys]) else .bad
/-- an exception may leave -/
def fLcX (it : IM) (g : GM) (tt : BM) (te : EM) (vs : List Nat) : EM := fun ρ μ => (it ρ μ).bind fun xs μ1 => if xs.length ≤ sizeLine then ((lcGo g tt te (wipeE ρ.sl vs) μ1.length xs μ1).exT μ1.length).bind fun ys μ2 => .ok (.d (.lst ys)) μ2 else .bad
theorem gn_n {g : GM} {K : PySem.W.Frag} {R : Ent} {n : Nat} {vs : List Nat} {X : Cx} {tg : Expr} (h : PG X tg (tDG K R n vs g)) : True := trivial
section
variable {K : PySem.W.Frag} {mg : MG} {R : Ent} {σ : L2.St} {N : Nat}
theorem lc_ok {J : It} {g : GM} {tt : BM} {te : EM} {vs : List Nat} {W' : WX} {B : String → Mu → Prop} {ρ : En} {ι1 : List Addr} {F1 H1 : Hp} {xs : List Dat} {μ1 : Mu} {D : Addr} {Q : VK} {Good : List Dat → Mu → Prop}
    (hl : σ.length = N) (I1 : DI K R ρ μ1 ι1 F1 σ H1) (ok : ItOk K J ι1 F1 xs) (hD : H1 D = none) (hz : xs.length ≤ sizeLine)
    (hB : ∀ nm μ', B nm μ' → ∀ F H cls, mg (Str.ofString nm) = some cls → DI K R ρ (μ'.take ι1.length) ι1 F σ H → ∀ σ2, W' cls none σ2 H)
    (hG : ∀ ys μ', Good ys μ' → ∀ F H us, DI K R ρ μ' ι1 F σ H → Gw ι1 F1 ι1 F → H D = some (.lst us) → F D = none → D ∉ ι1 → Nn (R.H D) → Rps K F us ys → Q (.ref D) H)
    (q : Pst B Good (lcGo g tt te (wipeE ρ.sl vs) ι1.length xs μ1)) :
    ∃ Wl : Nat → Nat → Hp → Prop, (∃ m, Wl 0 m (upd H1 D (.lst []))) ∧ ∀ i m H, Wl i m H →
      (J.stop i H ∧ Q (.ref D) H) ∨ (J.go i H ∧ ∃ Nx : Hp → Prop, (∀ H', Nx H' → ∃ m', m' < m ∧ Wl (i + 1) m' H') ∧ ∀ x H', J.yld i H x H' → (fun v σ H Q => ∃ R', R'.T = R.T ∧ tDG K R' N vs g v σ H Q) x (wipe σ vs) H' fun σ2 H2 => wipe σ2 vs = wipe σ vs ∧ (fun σ H Q => ∃ R', R'.T = R.T ∧ tDT K mg R' W' tt σ H Q) σ2 H2 fun b H3 =>
        if b = true then (fun σ H Q => ∃ R', R'.T = R.T ∧ tD K mg R' W' te σ H Q) σ2 H3 fun y H4 => ∃ acc, H4 D = some (.lst acc) ∧ acc.length < sizeLine ∧ Nx (upd H4 D (.lst (acc ++ [y]))) else Nx H3) := by
  obtain ⟨d1, d2, d3⟩ := I1.fresh hD
  let St : Nat → Hp → Prop := fun i H => ∃ (us : List V) (ds : List Dat) (μ : Mu) (F : Hp), DI K R ρ μ ι1 F σ H ∧ Gw ι1 F1 ι1 F ∧ H D = some (.lst us) ∧ F D = none ∧ Rps K F us ds ∧ ds.length ≤ i ∧
    Pst B (fun ys μ' => Good (ds ++ ys) μ') (lcGo g tt te (wipeE ρ.sl vs) ι1.length (xs.drop i) μ)
  refine ⟨fun i m H => m = xs.length - i ∧ i ≤ xs.length ∧ St i H, ⟨xs.length, by simp, Nat.zero_le _, [], [], μ1, F1, I1.junk (.inl hD) d2 d1 d3 _, Gw.refl, upd_same, d2, .nil, Nat.le_refl _, q⟩, ?_⟩
  rintro i m H ⟨rfl, hi, us, ds, μ, F, I, gw, hu, hF, r, hds, q⟩
  have len : μ.length = ι1.length := I.len.symm
  by_cases hlt : i < xs.length
  · -- a turn
    rw [List.drop_eq_getElem_cons hlt] at q
    have I0 : DI K ⟨H, F, ι1, R.T⟩ ⟨wipeE ρ.sl vs, ι1.length⟩ μ ι1 F (wipe σ vs) H := I.here.slots rfl fun j x e => by
      obtain ⟨e1, hn⟩ := wipeE_some e
      obtain ⟨v, e2, rv⟩ := I.sl j x e1
      exact ⟨v, wipe_get hn e2, rv⟩
    obtain ⟨k1, _⟩ := ok ⟨H, F, ι1, R.T⟩ ⟨wipeE ρ.sl vs, ι1.length⟩ μ ι1 F (wipe σ vs) H I0 gw i
    obtain ⟨go, yl⟩ := k1 xs[i] (List.getElem?_eq_getElem hlt)
    refine .inr ⟨go, fun H' => i + 1 ≤ xs.length ∧ St (i + 1) H', fun H' s => ⟨xs.length - (i + 1), by omega, rfl, s⟩, fun x H' hy => ?_⟩
    obtain ⟨F3, I3, g3, _, r3⟩ := yl x H' hy
    unfold lcGo at q
    cases e1 : g (.d xs[i]) ⟨wipeE ρ.sl vs, ι1.length⟩ μ with
    | none => rw [e1] at q; exact q.elim
    | some ρ1 =>
      rw [e1] at q
      -- back from the turn's own entry
      have back : ∀ {ρ' : En} {μ' : Mu} {ι' : List Addr} {F' : Hp} {σ' : L2.St} {H' : Hp}, DI K ⟨H, F, ι1, R.T⟩ ρ' μ' ι' F' σ' H' → DI K R ρ (μ'.take ι1.length) ι1 F' σ H' ∧ Gw ι1 F1 ι1 F' ∧ H' D = some (.lst us) ∧ F' D = none := fun {ρ' μ' ι' F' σ' H'} J => by
        obtain ⟨T, eT⟩ := J.trunc
        have nn : ρ'.n = ι1.length := J.nn
        rw [nn] at T eT
        have eT : ι'.take ι1.length = ι1 := eT
        rw [eT] at T
        refine ⟨I.after T, ⟨gw.le.trans J.F0, fun _ _ e => e⟩, J.fr.keep D _ hu d1 rfl, ?_⟩
        cases z : F' D with
        | none => rfl
        | some o =>
          rcases J.Fn D (by rw [z]; exact fun h => nomatch h) with h | h
          · exact absurd hF h
          · have h : Nn (H D) := h
            have z := h _ hu
            cases z
      refine ⟨⟨H, F, ι1, R.T⟩, rfl, ⟨wipeE ρ.sl vs, ι1.length⟩, μ, ι1, F3, .d xs[i], I3, by rw [wipe_length]; exact hl, r3, ρ1, e1, fun σ2 J2 hl2 hw2 => ⟨by rw [hw2 vs fun _ h => h, wipe_wipe], ⟨H, F, ι1, R.T⟩, rfl, ρ1, μ, ι1, F3, J2, ?_⟩⟩
      refine (Pst.bind q).imp2 (fun nm μ' hb ι' F' H' cls hc J => ?_) fun b μ4 q4 ι4 F4 H4 J4 g4 => ?_
      · exact hB nm μ' hb F' H' cls hc (back J).1 σ2
      · cases b with
        | false =>
          obtain ⟨T, gT, uT, fT⟩ := back J4
          exact ⟨hlt, us, ds, _, F4, T, gT, uT, fT, r.mono (J4.F0), Nat.le_succ_of_le hds, q4⟩
        | true =>
          refine ⟨⟨H, F, ι1, R.T⟩, rfl, ρ1, μ4, ι4, F4, J4, (Pst.bind q4).imp2 (fun nm μ' hb ι' F' H' cls hc J => hB nm μ' hb F' H' cls hc (back J).1 σ2) fun y μ5 q5 ι5 F5 H5 v J5 g5 r5 => ?_⟩
          cases e5 : asD ρ1 y μ5 with
          | none => rw [e5] at q5; exact q5.elim
          | some p =>
            obtain ⟨z, μ6⟩ := p
            rw [e5] at q5
            obtain ⟨F6, J6, g6, r6⟩ := J5.frz r5 e5
            obtain ⟨T, gT, uT, fT⟩ := back J6
            have ru : Rps K F6 us ds := r.mono J6.F0
            refine ⟨us, uT, by rw [r.length]; omega, hlt, us ++ [v], ds ++ [z], _, F6, T.junk (.inr ⟨_, uT, rfl⟩) fT d1 d3 _, gT, upd_same, fT, ru.append (.cons r6 .nil), by rw [List.length_append, List.length_singleton]; omega, ?_⟩
            exact (Pst.bind q5).imp fun ys μ7 q7 => by rw [List.append_assoc]; exact q7
  · have ei : i = xs.length := by omega
    subst ei
    rw [List.drop_length] at q
    have q : Good (ds ++ []) μ := q
    rw [List.append_nil] at q
    obtain ⟨_, k2⟩ := ok R ρ μ ι1 F σ H I gw xs.length
    exact .inl ⟨k2 (Nat.le_refl _), hG ds μ q F H us I gw hu hF d1 d3 r⟩
end
theorem pst_nx {α : Type} {B : String → Mu → Prop} {good : α → Mu → Prop} {r : Res α} (h : Pst B good r.nx) : Pst (fun _ _ => False) good r := by
  cases r with
  | ok a μ => exact h
  | ex x μ => exact h
  | bad => exact h
theorem pst_exT {α : Type} {B : String → Mu → Prop} {good : α → Mu → Prop} {r : Res α} {n : Nat} (h : Pst B good (r.exT n)) : Pst (fun nm μ => B nm (μ.take n)) good r := by
  cases r with
  | ok a μ => exact h
  | ex x μ => exact h
  | bad => exact h
def noW : WX := fun _ _ _ _ => False
section
variable {X : Cx} {R : Ent} {W : WX} {elt tg iter : Expr} {ifs : List Expr} {scope : Scope} {own : List (Str × Nat)} {pos : Pos} {it : IM} {g : GM} {tt : BM} {te : EM}
/-- the block's context -/
abbrev bk (X : Cx) (scope : Scope) (s : Shared) (H : Hp) (C : Addr) (cl : List (Str × Addr)) (fp : List Addr) : Cx := X.blk s H scope (compEnvC scope cl C X.env) fp
theorem pts_imp {ifs : List Expr} {t t' : TT} (h : PTs X ifs t) (i : ∀ σ H Q, t' σ H Q → t σ H Q) : PTs X ifs t' := ⟨fun pins s σ H Q I q => h.run pins s σ H Q I (i σ H Q q)⟩
theorem dts_nil : PTs X [] (tDT X.K X.mg R W fYes) := pts_imp pts_nil fun σ H Q ⟨ρ, μ, ι, F, I, q⟩ => q ι F H I Gw.refl
theorem dts_one {c : Expr} {f : BM} (h : PT X c (tDT X.K X.mg R W f)) : PTs X [c] (tDT X.K X.mg R W f) := pts_one h
theorem de_lc (hc : X.calm = true) (hN : X.N.Nodup) (hi : PI X tg iter (tDI X.K X.mg R W it)) (ok : BlkOk X.N X.env.scope scope own)
    (hg : ∀ (R' : Ent) (s : Shared) (H : Hp) (C : Addr) (cl : List (Str × Addr)) (fp : List Addr), R'.T = R.T → PG (bk X scope s H C cl fp) tg (tDG X.K R' X.N.length (own.map (·.2)) g))
    (ht : ∀ (R' : Ent) (s : Shared) (H : Hp) (C : Addr) (cl : List (Str × Addr)) (fp : List Addr), R'.T = R.T → PTs (bk X scope s H C cl fp) ifs (tDT X.K X.mg R' noW tt))
    (he : ∀ (R' : Ent) (s : Shared) (H : Hp) (C : Addr) (cl : List (Str × Addr)) (fp : List Addr), R'.T = R.T → PE (bk X scope s H C cl fp) elt (tD X.K X.mg R' noW te)) (hs : ∀ x, foldedSetIterable iter X.env x = pure x := by intro _; rfl) :
    PE X (.ListComp elt [⟨tg, iter, ifs, 0⟩] scope pos) (tD X.K X.mg R W (fLc it g tt te (own.map (·.2)))) := by
  refine ⟨fun pins s σ H Q I ⟨ρ, μ, ι, F, J, q⟩ => ?_⟩
  refine (pe_lc (g := fun v σ H Q => ∃ R', R'.T = R.T ∧ tDG X.K R' X.N.length (own.map (·.2)) g v σ H Q) (tt := fun σ H Q => ∃ R', R'.T = R.T ∧ tDT X.K X.mg R' noW tt σ H Q) (te := fun σ H Q => ∃ R', R'.T = R.T ∧ tD X.K X.mg R' noW te σ H Q) hc hN hi ok
    (fun s H C cl fp => ⟨fun pins s' σ H' v u Q I r ⟨R', hT, h⟩ => (hg R' s H C cl fp hT).run pins s' σ H' v u Q I r h⟩)
    (fun s H C cl fp => ⟨fun pins s' σ H' Q I ⟨R', hT, h⟩ => (ht R' s H C cl fp hT).run pins s' σ H' Q I h⟩)
    (fun s H C cl fp => ⟨fun pins s' σ H' Q I ⟨R', hT, h⟩ => (he R' s H C cl fp hT).run pins s' σ H' Q I h⟩) hs).run pins s σ H Q I ?_
  refine ⟨ρ, μ, ι, F, J, q.bind.imp fun xs μ1 q1 ι1 F1 H1 J' I1 g1 ok1 D hD => ?_⟩
  by_cases hz : xs.length ≤ sizeLine
  · rw [if_pos hz] at q1
    have q2 := pst_nx q1.bind
    rw [← I1.len] at q2
    refine lc_ok (W' := noW) I.len I1 ok1 hD hz (fun _ _ h => h.elim) (fun ys μ' hG F2 H2 us I2 g2 hu hF hn hR r => ?_) q2
    obtain ⟨A, gA⟩ := I2.adopt rfl hF hn hR hu
    exact hG ι1 _ H2 _ A ((g1.trans g2).trans gA) (.lst upd_same (r.mono gA.le))
  · rw [if_neg hz] at q1; exact q1.elim
theorem de_lcL (hc : X.calm = true) (hN : X.N.Nodup) (hi : PI X tg iter (tDI X.K X.mg R W it)) (ok : BlkOk X.N X.env.scope scope own)
    (hg : ∀ (R' : Ent) (s : Shared) (H : Hp) (C : Addr) (cl : List (Str × Addr)) (fp : List Addr), R'.T = R.T → PG (bk X scope s H C cl fp) tg (tDG X.K R' X.N.length (own.map (·.2)) g))
    (ht : ∀ (R' : Ent) (s : Shared) (H : Hp) (C : Addr) (cl : List (Str × Addr)) (fp : List Addr), R'.T = R.T → PTs (bk X scope s H C cl fp) ifs (tDT X.K X.mg R' noW tt))
    (he : ∀ (R' : Ent) (s : Shared) (H : Hp) (C : Addr) (cl : List (Str × Addr)) (fp : List Addr), R'.T = R.T → PE (bk X scope s H C cl fp) elt (tD X.K X.mg R' noW te)) (hs : ∀ x, foldedSetIterable iter X.env x = pure x := by intro _; rfl) :
    PE X (.ListComp elt [⟨tg, iter, ifs, 0⟩] scope pos) (tD X.K X.mg R W (fLcL it g tt te (own.map (·.2)))) := by
  refine ⟨fun pins s σ H Q I ⟨ρ, μ, ι, F, J, q⟩ => ?_⟩
  refine (pe_lc (g := fun v σ H Q => ∃ R', R'.T = R.T ∧ tDG X.K R' X.N.length (own.map (·.2)) g v σ H Q) (tt := fun σ H Q => ∃ R', R'.T = R.T ∧ tDT X.K X.mg R' noW tt σ H Q) (te := fun σ H Q => ∃ R', R'.T = R.T ∧ tD X.K X.mg R' noW te σ H Q) hc hN hi ok
    (fun s H C cl fp => ⟨fun pins s' σ H' v u Q I r ⟨R', hT, h⟩ => (hg R' s H C cl fp hT).run pins s' σ H' v u Q I r h⟩)
    (fun s H C cl fp => ⟨fun pins s' σ H' Q I ⟨R', hT, h⟩ => (ht R' s H C cl fp hT).run pins s' σ H' Q I h⟩)
    (fun s H C cl fp => ⟨fun pins s' σ H' Q I ⟨R', hT, h⟩ => (he R' s H C cl fp hT).run pins s' σ H' Q I h⟩) hs).run pins s σ H Q I ?_
  refine ⟨ρ, μ, ι, F, J, q.bind.imp fun xs μ1 q1 ι1 F1 H1 J' I1 g1 ok1 D hD => ?_⟩
  by_cases hz : xs.length ≤ sizeLine
  · rw [if_pos hz] at q1
    have q2 := pst_nx q1.bind
    rw [← I1.len] at q2
    refine lc_ok (W' := noW) I.len I1 ok1 hD hz (fun _ _ h => h.elim) (fun ys μ' hG F2 H2 us I2 g2 hu hF hn hR r => ?_) q2
    obtain ⟨A, gA⟩ := I2.adoptL hF hn hR hu r
    exact hG _ _ H2 _ A ((g1.trans g2).trans gA) ⟨D, by rw [← I2.len]; exact get_last _ _, rfl⟩
  · rw [if_neg hz] at q1; exact q1.elim
end
end DL

-- DL9
/-! DL9: an exception leaves a list comprehension of a def's body. -/
namespace DL
open PySem PySem.Spec PyProof.Rows L2

def compPostX (M : Model) (A : Around) (E : Value → Shared → Prop) (Q : Value → Shared → Prop) (acc : Value) (C : Addr) (fr : Option Addr) (r : Result) (s' : Shared) : Prop :=
  match r with
  | .ok _ => ∃ m, s'.heap.Ns C m ∧ ∀ h', Heap.SameBut C s'.heap h' → Q acc { s' with heap := h' }
  | .error x => ∃ m, s'.heap.Ns C m ∧ ∀ h', Heap.SameBut C s'.heap h' → ∀ cenv : Env, cenv.locals = C → cenv.frame = fr → wpAny M A (passOn "comprehension.variables-let-go" x cenv : Sem Value) (fun _ _ => False) E { s' with heap := h' }

section
variable {M : Model} {A : Around} {E : Value → Shared → Prop} {s : Shared} {env : Env}
theorem comp_freeX {e : Expr} {scope : Scope} {pos : Pos} {newAcc first : Sem Value} {g : Comprehension} {gs : List Comprehension} {cl : List (Str × Addr)} {Q : Value → Shared → Prop}
    (hcl : clausesOf e = g :: gs) (hs : ∀ x, foldedSetIterable g.iter env x = pure x) (hclos : closureFor scope env = pure cl)
    (hkind : scope.kind = .function) (hnames : ∀ x ∈ scope.names, x.2 = .local → scope.names.lookup x.1 = some .local)
    (h : wpAny M A first (fun x s₁ => wpAny M A (pyIter x) (fun it s₂ => wpAny M A newAcc (fun acc s₃ =>
      wpAny M A (newFunctionEnv scope env.globals cl [] env.qual none .none (some env)) (fun cenv s₄ =>
        codeAny M A (.compStart e 0 it acc { cenv with scope := relabel scope env }) (compPostX M A E Q acc cenv.locals cenv.frame) s₄) E s₃) E s₂) E s₁) E s) :
    wpAny M A (comprehension e scope env pos newAcc false first none) Q E s := by
  unfold comprehension
  rw [hclos, hcl]
  refine wpAny_bind (wpAny_mono h (fun x s₁ h₁ => wpAny_bind (wpAny_standAt (wpAny_bind (wpAny_of_eq (hs x) (wpAny_bind (wpAny_holding (wpAny_mono h₁ (fun it s₂ h₂ =>
    wpAny_standIf (wpAny_bind (wpAny_mono h₂ (fun acc s₃ h₃ => wpAny_bind (wpAny_pure (wpAny_bind (wpAny_mono h₃ (fun cenv s₄ h₄ => ?_) fun _ _ h' => h')))) fun _ _ h' => h')))
      fun _ _ h' => h'))))))) fun _ _ h' => h')
  dsimp only
  have hv : ∀ x ∈ (scope.names.filter fun x => (x.2 == .local || x.2 == .cell) && x.1 != (".0" : Str)).reverse, x.2 = .local →
      Env.kindOf { cenv with scope := relabel scope env } x.1 = some .local := fun x hx hl => lookup_relabel_local (hnames x (List.mem_filter.mp (List.mem_reverse.mp hx)).1 hl)
  refine wpAny_holding (wpAny_bind (wpAny_attempt (wpAny_holding (wpAny_run (codeAny_mono h₄ fun r s' hr => ?_)))))
  cases r with
  | ok f =>
    obtain ⟨m, hn, hr⟩ := hr
    exact wpAny_bind (wpAny_holding (wpAny_comp_letGo (cenv := { cenv with scope := relabel scope env }) hkind _ s' m hv hn fun h' m' _ hs' => wpAny_pure (hr h' hs')))
  | error x =>
    obtain ⟨m, hn, hr⟩ := hr
    exact wpAny_bind (wpAny_holding (wpAny_comp_letGo (cenv := { cenv with scope := relabel scope env }) hkind _ s' m hv hn fun h' m' _ hs' => wpAny_mono (hr h' hs' _ rfl rfl) (fun _ _ f => f.elim) fun _ _ y => y))
end

/-- what a call let out, still in flight -/
theorem call_air {X : Cx} {pins : List (Addr × Obj)} {σ : L2.St} {H : Hp} {s s' : Shared} {E : XK} {u : Value} (I : Inv X pins σ H s) (c : L2.CX X.prog X.w X.stack H s E u s') :
    ∃ (a : Addr) (B : Heap) (sI : Shared) (H' : Hp) (cls : Value) (d : Option Addr), u = .ref a ∧ Inv X pins σ H' sI ∧ (∀ b o, sI.heap.get? b = some o → b ∉ frs X.stack → B.get? b = some o) ∧ sI.heap.UpToSlots s'.heap ∧
      HandSPX.FlyingZ B X.stack a (Zc cls d) s'.heap ∧ H' a = none ∧ s'.os = sI.os ∧ AllBare s'.gens ∧ E cls d H' := by
  obtain ⟨a, B, H', cls, d, rfl, fl, hok, ub, na, os, ag, hE⟩ := c
  obtain ⟨G, g1, g2⟩ := restrict s'.heap fun b => (B.get? b).isSome || decide (b ∈ frs X.stack)
  have st : B.StaysIn s'.heap := fl.1
  have gB : ∀ b o, B.get? b = some o → G.get? b = some o := fun b o e => by
    rw [g1 b (by simp [e])]
    exact st b o e
  have gF : ∀ b, b ∈ frs X.stack → G.get? b = s'.heap.get? b := fun b hb => g1 b (by simp [hb])
  have og : ∀ b o, G.get? b = some o → s'.heap.get? b = some o ∧ ((B.get? b).isSome = true ∨ b ∈ frs X.stack) := fun b o e => by
    cases q : ((B.get? b).isSome || decide (b ∈ frs X.stack)) with
    | false => rw [g2 b q] at e; cases e
    | true =>
      rw [g1 b q] at e
      exact ⟨e, by simpa [Bool.or_eq_true] using q⟩
  refine ⟨a, B, { s with heap := G, gens := s'.gens, drawn := s'.drawn, toks := s'.toks }, H', cls, d, rfl, ?_, fun b o e hb => ?_, Heap.UpToSlots.of_keeps fun b o e => (og b o e).1, fl, na, os, ag, hE⟩
  · refine I.call (ch := []) ⟨fun b o e n hb _ => gB b o (ub.keep b o e n hb), fun b o e n hb _ => ?_, fun b o e n _ => ub.free b o e n, fun b o e _ => ?_, ub.tups, ub.frzs, ub.tbls⟩ (hok.kept gB) ag (fun _ z => nomatch z)
    · obtain ⟨sl, q⟩ := ub.slot b o e hb
      exact ⟨sl, by rw [gF b hb]; exact q⟩
    · by_cases hb : b ∈ frs X.stack
      · obtain ⟨sl, q⟩ := ub.slot b o e hb
        exact ⟨_, by rw [gF b hb]; exact q⟩
      · obtain ⟨o', q⟩ := ub.there b o e hb
        exact ⟨o', gB b o' q⟩
  · obtain ⟨e', h⟩ := og b o e
    rcases h with h | h
    · obtain ⟨o', q⟩ := Option.isSome_iff_exists.mp h
      have z := st b o' q
      rw [e'] at z; cases z
      exact q
    · exact absurd h hb
theorem funFrames_at {base B h h' : Heap} : ∀ {l : List Env}, h.FunFrames base l → (∀ b ∈ frs l, h'.get? b = h.get? b) → (∀ b ∈ frs l, B.get? b = none) → h'.FunFrames B l
  | [], _, _, _ => trivial
  | env :: l, hf, h1, h2 => by
    obtain ⟨k, ⟨L, o, e1, e2, e3, e4⟩, r⟩ := hf
    have m : L ∈ frs (env :: l) := List.mem_filterMap.mpr ⟨env, List.mem_cons_self, e1⟩
    refine ⟨k, ⟨L, o, e1, h2 L m, by rw [h1 L m]; exact e3, e4⟩, funFrames_at r (fun b hb => h1 b ?_) fun b hb => h2 b ?_⟩
    · obtain ⟨e, he, q⟩ := List.mem_filterMap.mp hb
      exact List.mem_filterMap.mpr ⟨e, List.mem_cons_of_mem _ he, q⟩
    · obtain ⟨e, he, q⟩ := List.mem_filterMap.mp hb
      exact List.mem_filterMap.mpr ⟨e, List.mem_cons_of_mem _ he, q⟩
section
variable {X : Cx} {pins : List (Addr × Obj)} {σ : L2.St} {W : WX}
theorem blk_raise {s3 sb s' : Shared} {H3 Hb : Hp} {scope : Scope} {cl : List (Str × Addr)} {fp : List Addr} {pb : List (Addr × Obj)} {σb : L2.St} {u acc : Value} {Qf : Value → Shared → Prop} (hs : X.stack = X.env :: X.outer) (hf : X.env.frame = some X.env.locals) (tk : Takes X W)
    (I3 : Inv X pins σ H3 s3) (f3 : ∀ b ∈ fp, FpOk X pins H3 b ∧ b < s3.heap.objs.size) (Ib : Inv (X.blk s3 H3 scope (compEnvC scope cl s3.heap.objs.size X.env) fp) pb σb Hb sb)
    (c : L2.CX X.prog X.w X.stack Hb sb (fun cls d H => W cls d σ H) u s') :
    notedBy (model X.prog X.w) X.A (compEnvC scope cl s3.heap.objs.size X.env) (fun e s'' => compPostX (model X.prog X.w) X.A X.xe Qf acc s3.heap.objs.size X.env.frame (.error e) s'') u s' := by
  generalize hC : s3.heap.objs.size = C at Ib ⊢
  obtain ⟨a, B, sI, H', cls, d, rfl, JI, nb, up, fl, na, os, ag, w⟩ := call_air Ib c
  have nb : ∀ b o, sI.heap.get? b = some o → b ∉ frs X.stack → B.get? b = some o := nb
  have fl : HandSPX.FlyingZ B X.stack a (Zc cls d) s'.heap := fl
  have hfr : X.A.frames = some (X.env :: X.outer) := by rw [I3.ok.frames, hs]
  have flc : HandSPX.FlyingZ B (X.env :: X.outer) a (Zc cls d) s'.heap := by rw [← hs]; exact fl
  show wpAny (model X.prog X.w) X.A (noteFrame (.ref a) X.env) _ _ s'
  refine HandSPX.looks_onZ Zc.steady hfr hf flc fun h1 held up1 => ?_
  rw [← hs] at held
  -- the block's namespace
  have nC : C ∉ frs X.stack := fun hb => by
    obtain ⟨_, o, e, _⟩ := I3.stack.mem hb
    exact absurd (Heap.lt_size e) (by rw [hC]; exact Nat.lt_irrefl _)
  obtain ⟨m, hn, _⟩ := JI.loc
  have hn : sI.heap.Ns C m := hn
  have HC : H' C = none := JI.free
  obtain ⟨oC, es, ep, eC, dC, kC, fC⟩ := hn
  have BC : B.get? C = some oC := nb C oC eC nC
  have h1C : h1.get? C = some oC := held.1 C oC BC
  refine ⟨m, ⟨oC, es, ep, h1C, dC, kC, fC⟩, fun h' sb2 cenv ec ef => ?_⟩
  -- without it
  obtain ⟨G, g1, g2⟩ := restrict sI.heap fun b => decide (b ≠ C)
  obtain ⟨B2, b1, b2⟩ := restrict B fun b => decide (b ≠ C)
  have gS : ∀ b o, G.get? b = some o → sI.heap.get? b = some o ∧ b ≠ C := fun b o e => by
    by_cases q : b = C
    · rw [g2 b (by simp [q])] at e; cases e
    · rw [g1 b (by simp [q])] at e; exact ⟨e, q⟩
  have bS : ∀ b o, B2.get? b = some o → B.get? b = some o ∧ b ≠ C := fun b o e => by
    by_cases q : b = C
    · rw [b2 b (by simp [q])] at e; cases e
    · rw [b1 b (by simp [q])] at e; exact ⟨e, q⟩
  have sG : ∀ b o, sI.heap.get? b = some o → b ≠ C → G.get? b = some o := fun b o e q => by rw [g1 b (by simp [q])]; exact e
  have sB : ∀ b o, B.get? b = some o → b ≠ C → B2.get? b = some o := fun b o e q => by rw [b1 b (by simp [q])]; exact e
  have frN : ∀ b ∈ frs X.stack, b ≠ C := fun b hb z => nC (z ▸ hb)
  have aC : a ≠ C := fun z => by
    have e := held.2.1
    rw [z, BC] at e; cases e
  obtain ⟨st1, ha1, ff1, oe, vs, T, oT, ts, he, hz, hd, hv1, hnT, hTe, hT, hdT, hv3⟩ := held
  have TC : T ≠ C := fun z => by rw [z, BC] at hnT; cases hnT
  have b2n : ∀ b, B.get? b = none → B2.get? b = none := fun b e => by
    cases q : B2.get? b with
    | none => rfl
    | some o =>
      have z := (bS b o q).1
      rw [e] at z; cases z
  have held2 : HandSPX.HeldZ B2 X.stack a (Zc cls d) X.env.locals h' := by
    refine ⟨fun b o e => ?_, b2n a ha1, funFrames_at ff1 (fun b hb => sb2.2 b (frN b hb)) fun b hb => ?_, oe, vs, T, oT, ts, (sb2.2 a aC).trans he, hz, hd, hv1, b2n T hnT, hTe, (sb2.2 T TC).trans hT, hdT, hv3⟩
    · obtain ⟨e1, q⟩ := bS b o e
      exact (sb2.2 b q).trans (st1 b o e1)
    · refine b2n b ?_
      exact (ff1.mem hb).1
  have J : Inv X pins σ H' { sI with heap := G } := by
    have u := JI.base
    have u : Un (frs X.stack) fp H3 H' s3.heap sI.heap := u
    refine I3.call' (s' := { sI with heap := G }) (ch := fp) JI.os ?_ (fun b o e => (JI.hok b o e).stay (fun c v hc r => ?_) (fun _ r => r) fun _ _ r => r) JI.bare fun b hb => ⟨(f3 b hb).1.2.2.2.1, (f3 b hb).1.2.1, (f3 b hb).1.2.2.2.2.1, (f3 b hb).1.2.2.2.2.2⟩
    · have lt : ∀ b o, s3.heap.get? b = some o → b ≠ C := fun b o e z => absurd (Heap.lt_size e) (by rw [hC, z]; exact Nat.lt_irrefl _)
      refine ⟨fun b o e n hb hx => sG b o (u.keep b o e n hb hx) (lt b o e), fun b o e n hb hx => ?_, u.free, fun b o e hx => ?_, u.tups, u.frzs, u.tbls⟩
      · obtain ⟨sl, q⟩ := u.slot b o e n hb hx
        exact ⟨sl, sG b _ q (lt b o e)⟩
      · obtain ⟨o', q⟩ := u.there b o e hx
        exact ⟨o', sG b o' q (lt b o e)⟩
    · refine sG c v r fun z => ?_
      rcases hc with hc | hc
      · rw [← hc, z, HC] at e; cases e
      · rw [z, HC] at hc; cases hc
  -- it is passed on
  unfold PySem.passOn
  refine wpAny_bind (wpAny_field ((sb2.2 a aC).trans he) hd hv1 ?_)
  rw [if_neg (show ¬ ((Value.ref T == Value.none) = true) from by simp)]
  rw [ef, hf]
  refine wpAny_bind (HandSPX.setFlight_onZ held2 fun h2 held3 up2 => ?_)
  refine wpAny_throw ?_
  refine tk _ _ ⟨a, B2, { sI with heap := G }, pins, σ, H', cls, d, rfl, J, fun b o e hb => ?_, fun b o e hnf => ?_, .inr (.inr held3), na, os, ag, w⟩
  · obtain ⟨e1, q⟩ := gS b o e
    exact sB b o (nb b o e1 hb) q
  · obtain ⟨e1, q⟩ := gS b o e
    obtain ⟨sl, e2⟩ := up b o e1 hnf
    obtain ⟨sl2, e3⟩ := up1 b _ e2 hnf
    obtain ⟨sl3, e4⟩ := up2 b _ ((sb2.2 b q).trans e3) hnf
    exact ⟨sl3, e4⟩

theorem lc_coreX {s : Shared} {H : Hp} {Q : VK} {elt tg iter : Expr} {ifs : List Expr} {scope : Scope} {own : List (Str × Nat)} {pos pos' : Pos} {wi : TI} {g : TG} {tt : L2.St → TT} {te : L2.St → TE} {Qf : Value → Shared → Prop}
    (hst : X.stack = X.env :: X.outer) (hf : X.env.frame = some X.env.locals) (tk : Takes X W) (hc : X.calm = true) (hN : X.N.Nodup) (I : Inv X pins σ H s) (hi : PI X tg iter wi) (ok : BlkOk X.N X.env.scope scope own)
    (hg : ∀ (s : Shared) (H : Hp) (C : Addr) (cl : List (Str × Addr)) (fp : List Addr), PG (X.blk s H scope (compEnvC scope cl C X.env) fp) tg g)
    (ht : ∀ (s : Shared) (H : Hp) (C : Addr) (cl : List (Str × Addr)) (fp : List Addr) (E : Value → Shared → Prop) (σ : L2.St), TkE ((X.blk s H scope (compEnvC scope cl C X.env) fp).wish E) (fun cls d _ H => W cls d σ H) → PTs ((X.blk s H scope (compEnvC scope cl C X.env) fp).wish E) ifs (tt σ))
    (he : ∀ (s : Shared) (H : Hp) (C : Addr) (cl : List (Str × Addr)) (fp : List Addr) (E : Value → Shared → Prop) (σ : L2.St), TkE ((X.blk s H scope (compEnvC scope cl C X.env) fp).wish E) (fun cls d _ H => W cls d σ H) → PE ((X.blk s H scope (compEnvC scope cl C X.env) fp).wish E) elt (te σ))
    (hs : ∀ x, foldedSetIterable iter X.env x = pure x)
    (h : tLc wi g (tt σ) (te σ) (own.map (·.2)) σ H Q)
    (hRR : ∀ D C s' m H', Inv X pins σ H' s' → Q (.ref D) H' → s'.heap.Ns C m → FpOk X pins H' C → compPostX (model X.prog X.w) X.A X.xe Qf (.ref D) C X.env.frame (.ok .next) s') :
    wpAny (model X.prog X.w) X.A (comprehension (.ListComp elt [⟨tg, iter, ifs, 0⟩] scope pos) scope X.env pos' (newList []) false (eval iter X.env) none) Qf X.xe s := by
  have hfree : ∀ y ∈ scope.names, y.2 = .free → ∃ c, X.env.cells.lookup y.1 = some c := fun y hy e => by
    rcases ok.free y hy e with k | k
    · exact I.ok.has _ (.inl k)
    · exact I.ok.has _ (.inr k)
  refine comp_freeX rfl hs (closure_ok hfree) ok.kind (fun y hy e => by rw [ok.uniq y hy, e])
    (thn (hi.run pins s σ H _ I h) fun xv s1 hx => thn hx fun itv s2 h2 => ?_)
  obtain ⟨it, fp, tn, J, H2, e, I2, T, st2, f2, q⟩ := h2
  subst e
  refine wpAny_newObj_type (newEnv_comp ?_) (by show 0 ≤ sizeLine; decide)
  generalize hD : s2.heap.objs.size = D
  have hDn : H2 D = none := I2.hok.fresh (Nat.le_of_eq hD)
  obtain ⟨Wl, ⟨m0, w0⟩, turn⟩ := q D hDn
  generalize hs3 : ({ s2 with heap := s2.heap.push { cls := .type "list", data := .seq ([] : List Value).toArray } } : Shared) = s3
  have I3 : Inv X pins σ (upd H2 D (.lst [])) s3 := by
    rw [← hs3]
    refine I2.laid (t' := s2.toks) (fun b o e => Heap.get?_push_of_some _ e) (Nat.le_of_eq hD) ⟨Nat.zero_le _, [], 0, .nil, ?_⟩
    rw [← hD]
    exact Heap.get?_push_size _ rfl
  have h3 : s3.heap = s2.heap.push { cls := .type "list", data := .seq ([] : List Value).toArray } := by rw [← hs3]
  have sz : ∀ b ∈ fp, b < s2.heap.objs.size := fun b hb => by
    obtain ⟨o, e, _⟩ := T.obj _ _ st2 b hb
    exact Heap.lt_size e
  have f3 : ∀ b ∈ fp, FpOk X pins (upd H2 D (.lst [])) b ∧ b < s3.heap.objs.size := fun b hb => by
    have hlt := sz b hb
    refine ⟨⟨?_, (f2 b hb).2⟩, by rw [h3, Heap.size_push]; exact Nat.lt_succ_of_lt hlt⟩
    rw [upd_ne (by rw [← hD]; exact Nat.ne_of_lt hlt)]
    exact (f2 b hb).1
  have st3 : tn 0 s3.heap := T.keep _ _ _ st2 fun b _ o e => by rw [h3]; exact Heap.get?_push_of_some _ e
  have I4 := block_start I3 ok hN f3
  have pg := hg s3 (upd H2 D (.lst [])) s3.heap.objs.size (cellsFrom (s3.heap.objs.size + 1) scope.names (cloFrom X.env.cells scope.names [])) fp
  have tkb : TkE ((X.blk s3 (upd H2 D (.lst [])) scope (compEnvC scope (cellsFrom (s3.heap.objs.size + 1) scope.names (cloFrom X.env.cells scope.names [])) s3.heap.objs.size X.env) fp).wish
      (notedBy (model X.prog X.w) X.A (compEnvC scope (cellsFrom (s3.heap.objs.size + 1) scope.names (cloFrom X.env.cells scope.names [])) s3.heap.objs.size X.env) fun e s'' => compPostX (model X.prog X.w) X.A X.xe Qf (.ref D) s3.heap.objs.size X.env.frame (.error e) s'')) (fun cls d _ H => W cls d σ H) :=
    fun σb pb Hb sb u s' Ib c => blk_raise hst hf tk I3 f3 Ib.unwish c
  have pt := ht s3 (upd H2 D (.lst [])) s3.heap.objs.size (cellsFrom (s3.heap.objs.size + 1) scope.names (cloFrom X.env.cells scope.names [])) fp _ σ tkb
  have pe := he s3 (upd H2 D (.lst [])) s3.heap.objs.size (cellsFrom (s3.heap.objs.size + 1) scope.names (cloFrom X.env.cells scope.names [])) fp _ σ tkb
  clear tkb
  show codeAny _ _ (.compStart (.ListComp elt [⟨tg, iter, ifs, 0⟩] scope pos) 0 (.ref it) (.ref D) (compEnvC scope (cellsFrom (s3.heap.objs.size + 1) scope.names (cloFrom X.env.cells scope.names [])) s3.heap.objs.size X.env)) (compPostX (model X.prog X.w) X.A X.xe Qf (.ref D) s3.heap.objs.size X.env.frame) { s3 with heap := pushCells (s3.heap.push { cls := .type "dict", data := .dict #[] }) scope.names }
  have nfp : ∀ b ∈ fp, (upd H2 D (.lst [])) b = none := fun b hb => (f3 b hb).1.1
  generalize hce : compEnvC scope (cellsFrom (s3.heap.objs.size + 1) scope.names (cloFrom X.env.cells scope.names [])) s3.heap.objs.size X.env = ce at I4 pg pt pe ⊢
  have cL : ce.locals = s3.heap.objs.size := by subst hce; rfl
  generalize hH3 : upd H2 D (.lst []) = H3 at I3 I4 pg pt pe w0 nfp f3
  generalize hs4 : ({ s3 with heap := pushCells (s3.heap.push { cls := .type "dict", data := .dict #[] }) scope.names } : Shared) = s4 at I4 ⊢
  have st4 : tn 0 s4.heap := T.keep _ _ _ st3 fun b _ o e => by rw [← hs4]; exact pushCells_keeps _ _ _ _ (Heap.get?_push_of_some _ e)
  have stat : ∀ {σ' : L2.St} {H' : Hp} {s' : Shared}, Inv (X.blk s3 H3 scope ce fp) [] σ' H' s' → (∀ b ∈ fp, H' b = none) → ∀ b ∈ fp, FpOk (X.blk s3 H3 scope ce fp) [] H' b := fun {σ' H' s'} I' hn b hb =>
    ⟨hn b hb, (I'.ok.exf b hb).1, I'.ok.exfs b hb, .inl hb, fun x c e => (I'.ok.exf b hb).2 x c e, fun p hp => absurd (show p ∈ ([] : List (Addr × Obj)) ++ [] from hp) (by simp)⟩
  have loop : codeAny (model X.prog X.w) X.A (.compLoop (.ListComp elt [⟨tg, iter, ifs, 0⟩] scope pos) 0 (.ref it) (.ref D) ce) (compPostX (model X.prog X.w) X.A X.xe Qf (.ref D) s3.heap.objs.size X.env.frame) s4 := by
    refine compLoop_any (fun n s' => ∃ i H', Inv (X.blk s3 H3 scope ce fp) [] (wipe σ (own.map (·.2))) H' s' ∧ tn i s'.heap ∧ (∀ b ∈ fp, H' b = none) ∧ Wl i n H') ?_ m0 ⟨0, H3, I4, st4, nfp, w0⟩
    rintro n s5 ⟨i, H5, I5, st5, n5, w5⟩
    rcases turn i n H5 w5 with ⟨stop, qq⟩ | ⟨go, Nx, hNx, step⟩
    · have td := T.done (X.blk s3 H3 scope ce fp) rfl rfl rfl hc i [] s5 _ H5 (fun _ _ => False) I5 (stat I5 n5) st5 stop
      refine thnF td fun r s6 ⟨hr, I6⟩ => ?_
      subst hr
      have I7 : Inv X pins σ H5 s6 := I3.call' (ch := fp) I6.os I6.base I6.hok I6.bare fun b hb => ⟨(f3 b hb).1.2.2.2.1, (f3 b hb).1.2.1, (f3 b hb).1.2.2.2.2.1, (f3 b hb).1.2.2.2.2.2⟩
      have nC : H5 s3.heap.objs.size = none := by
        have z : H5 ce.locals = none := I6.free
        rw [cL] at z
        exact z
      obtain ⟨m, hn, _⟩ := I6.loc
      have hn : s6.heap.Ns ce.locals m := hn
      rw [cL] at hn
      exact hRR D s3.heap.objs.size s6 m H5 I7 qq hn (I3.fpOk (Nat.le_refl _) nC)
    · have ti := T.item (X.blk s3 H3 scope ce fp) rfl rfl rfl hc i [] s5 _ H5 (fun _ _ => False) I5 (stat I5 n5) st5 go
      refine thnF ti fun r s6 ⟨u, hr, h6⟩ => ?_
      subst hr
      refine thnF h6 fun _ s7 ⟨x, H7, I7, r7, y7, st7, n7⟩ => ?_
      have I7' := I7.pinned (stat I7 n7) (T.obj _ _ st7)
      refine thnF (pg.run _ s7 _ H7 x u _ I7' r7 (step x H7 y7)) fun _ s8 ⟨σ8, H8, I8, hw8, q8⟩ => ?_
      refine thn (pt.run _ s8 σ8 H8 _ (I8.wish _) q8) fun b s9 ⟨H9, I9, q9⟩ => ?_
      have I9 := I9.unwish
      have fin : ∀ {s' : Shared} {H' : Hp}, Inv (X.blk s3 H3 scope ce fp) ([] ++ pinsAt fp s7.heap) σ8 H' s' → Nx H' → ∃ m, m < n ∧ ∃ i H', Inv (X.blk s3 H3 scope ce fp) [] (wipe σ (own.map (·.2))) H' s' ∧ tn i s'.heap ∧ (∀ b ∈ fp, H' b = none) ∧ Wl i m H' := fun {s' H'} I' nx => by
        obtain ⟨m', hm, w'⟩ := hNx H' nx
        have pin' : ∀ b ∈ fp, ∀ o, s7.heap.get? b = some o → s'.heap.get? b = some o ∧ H' b = none := fun b hb o e =>
          let z := I'.pin (b, o) (List.mem_append_right _ (List.mem_append_right _ (mem_pinsAt hb e)))
          ⟨z.1, z.2.1⟩
        have hl : (wipe σ (own.map (·.2))).length = σ8.length := by rw [← hw8, wipe_length]
        refine ⟨m', hm, i + 1, H', (I'.unpinned (pins := [])).weak hl (fun j v e => ?_), T.keep _ _ _ st7 fun b hb o e => (pin' b hb o e).1, fun b hb => ?_, w'⟩
        · rw [← hw8] at e
          exact (wipe_some e).1
        · obtain ⟨o, e, _⟩ := T.obj _ _ st7 b hb
          exact (pin' b hb o e).2
      cases b with
      | false =>
        simp only [Bool.false_eq_true, if_false] at q9 ⊢
        exact fin I9 q9
      | true =>
        simp only [if_true] at q9 ⊢
        refine thn (pe.run _ s9 σ8 H9 _ (I9.wish _) q9) fun z s10 ⟨yv, H10, I10, r10, acc, hD10, hz10, nx⟩ => ?_
        exact app_ok (X := X.blk s3 H3 scope ce fp) I10.unwish hD10 hz10 r10 fun s11 I11 => fin I11 nx
  exact codeAny_compStart_list loop (T.self X.A 0 _ _ _ st4 loop)
end
section
variable {X : Cx} {R : Ent} {W : WX} {elt tg iter : Expr} {ifs : List Expr} {scope : Scope} {own : List (Str × Nat)} {pos : Pos} {it : IM} {g : GM} {tt : BM} {te : EM}
theorem de_lcX (hst : X.stack = X.env :: X.outer) (hf : X.env.frame = some X.env.locals) (tk : Takes X W) (hc : X.calm = true) (hN : X.N.Nodup) (hi : PI X tg iter (tDI X.K X.mg R W it)) (ok : BlkOk X.N X.env.scope scope own)
    (hg : ∀ (R' : Ent) (s : Shared) (H : Hp) (C : Addr) (cl : List (Str × Addr)) (fp : List Addr), R'.T = R.T → PG (bk X scope s H C cl fp) tg (tDG X.K R' X.N.length (own.map (·.2)) g))
    (ht : ∀ (R' : Ent) (W : WX) (s : Shared) (H : Hp) (C : Addr) (cl : List (Str × Addr)) (fp : List Addr) (E : Value → Shared → Prop), R'.T = R.T → TkE ((bk X scope s H C cl fp).wish E) W → PTs ((bk X scope s H C cl fp).wish E) ifs (tDT X.K X.mg R' W tt))
    (he : ∀ (R' : Ent) (W : WX) (s : Shared) (H : Hp) (C : Addr) (cl : List (Str × Addr)) (fp : List Addr) (E : Value → Shared → Prop), R'.T = R.T → TkE ((bk X scope s H C cl fp).wish E) W → PE ((bk X scope s H C cl fp).wish E) elt (tD X.K X.mg R' W te)) (hs : ∀ x, foldedSetIterable iter X.env x = pure x := by intro _; rfl) :
    PE X (.ListComp elt [⟨tg, iter, ifs, 0⟩] scope pos) (tD X.K X.mg R W (fLcX it g tt te (own.map (·.2)))) := by
  refine ⟨fun pins s σ H Q I ⟨ρ, μ, ι, F, J, q⟩ => ?_⟩
  rw [eval_ListComp]
  refine lc_coreX (pos' := _) (g := fun v σ H Q => ∃ R', R'.T = R.T ∧ tDG X.K R' X.N.length (own.map (·.2)) g v σ H Q) (tt := fun σ0 σ H Q => ∃ R', R'.T = R.T ∧ tDT X.K X.mg R' (fun cls d _ H => W cls d σ0 H) tt σ H Q) (te := fun σ0 σ H Q => ∃ R', R'.T = R.T ∧ tD X.K X.mg R' (fun cls d _ H => W cls d σ0 H) te σ H Q) hst hf tk hc hN I hi ok
    (fun s H C cl fp => ⟨fun pins s' σ H' v u Q I r ⟨R', hT, h⟩ => (hg R' s H C cl fp hT).run pins s' σ H' v u Q I r h⟩)
    (fun s H C cl fp E σ0 k => ⟨fun pins s' σ H' Q I ⟨R', hT, h⟩ => (ht R' _ s H C cl fp E hT k).run pins s' σ H' Q I h⟩)
    (fun s H C cl fp E σ0 k => ⟨fun pins s' σ H' Q I ⟨R', hT, h⟩ => (he R' _ s H C cl fp E hT k).run pins s' σ H' Q I h⟩) hs (Q := Q) ?_ fun D C s' m H' I' q hn f => ⟨m, hn, fun h'' sb => ?_⟩
  · refine ⟨ρ, μ, ι, F, J, q.bind.imp fun xs μ1 q1 ι1 F1 H1 J' I1 g1 ok1 D hD => ?_⟩
    by_cases hz : xs.length ≤ sizeLine
    · rw [if_pos hz] at q1
      have q2 := pst_exT q1.bind
      rw [← I1.len] at q2
      refine lc_ok (W' := fun cls d _ H => W cls d σ H) I.len I1 ok1 hD hz (fun nm μ' hb F H cls hcl J2 σ2 => hb ι1 F H cls hcl J2) (fun ys μ' hG F2 H2 us I2 g2 hu hF hn hR r => ?_) q2
      obtain ⟨A, gA⟩ := I2.adopt rfl hF hn hR hu
      exact hG ι1 _ H2 _ A ((g1.trans g2).trans gA) (.lst upd_same (r.mono gA.le))
    · rw [if_neg hz] at q1; exact q1.elim
  · obtain ⟨f0, f1, f2, f3, f4, f5⟩ := f
    exact ⟨.ref D, H', I'.turned (t' := s'.toks) (fun b o hb e => (sb.2 b hb).trans e) f0 f1 f3 f4 f5, rfl, q⟩
end
end DL

-- DL10
/-! DL10: changing lists and dicts, instances, methods, raise, try. -/
namespace DL
open PySem PySem.Spec PyProof.Rows L2

/-! ### l.append(e), l.pop(), l.pop(i) -/
def isLst (x : SV) (μ : Mu) : Option Nat := match x with
  | .r k => (match μ[k]? with
    | some (.lst _) => some k
    | _ => none)
  | _ => none
theorem isLst_ok {K : PySem.W.Frag} {R : Ent} {ρ : En} {μ : Mu} {ι : List Addr} {F H : Hp} {σ : L2.St} (I : DI K R ρ μ ι F σ H) {v : V} {x : SV} (r : Rsv K F ι v x) {k : Nat} (e : isLst x μ = some k) :
    ∃ a xs vs, v = .ref a ∧ ι[k]? = some a ∧ μ[k]? = some (.lst xs) ∧ F a = none ∧ H a = some (.lst vs) ∧ Rps K F vs xs := by
  cases x with
  | d y => cases e
  | r j =>
    obtain ⟨a, ha, rfl⟩ := r
    have e : (match μ[j]? with
      | some (Ob.lst _) => some j
      | _ => none) = some k := e
    cases h : μ[j]? with
    | none => rw [h] at e; cases e
    | some o =>
      rw [h] at e
      cases o with
      | lst xs =>
        cases e
        obtain ⟨f, vs, e1, rr⟩ := I.ob _ a _ ha h
        exact ⟨a, xs, vs, rfl, ha, h, f, e1, rr⟩
      | _ => cases e
def fAppend (fo fe : EM) : EM := fun ρ μ => (fo ρ μ).bind fun x μ1 => match isLst x μ1 with
  | none => .bad
  | some k => (fe ρ μ1).bind fun y μ2 => match asD ρ y μ2 with
    | none => .bad
    | some (d, μ3) => (match μ3[k]? with
      | some (.lst xs) => if xs.length < sizeLine then .ok (.d .non) (μ3.set k (.lst (xs ++ [d]))) else .bad
      | _ => .bad)
def fPop0 (fo : EM) : EM := fun ρ μ => (fo ρ μ).bind fun x μ1 => match isLst x μ1 with
  | none => .bad
  | some k => (match μ1[k]? with
    | some (.lst xs) => (match xs[xs.length - 1]? with
      | some d => .ok (.d d) (μ1.set k (.lst xs.dropLast))
      | none => .bad)
    | _ => .bad)
def fPop1 (fo fe : EM) : EM := fun ρ μ => (fo ρ μ).bind fun x μ1 => match isLst x μ1 with
  | none => .bad
  | some k => (fe ρ μ1).bind fun y μ2 => match y with
    | .d (.int i) => (match μ2[k]? with
      | some (.lst xs) => (match ixN xs.length i with
        | some j => (match xs[j]? with
          | some d => if xs.length ≤ sizeLine then .ok (.d d) (μ2.set k (.lst (xs.eraseIdx j))) else .bad
          | none => .bad)
        | none => .bad)
      | _ => .bad)
    | _ => .bad
theorem Rps.dropLast {K : PySem.W.Frag} {F : Hp} {vs : List V} {ds : List Dat} (r : Rps K F vs ds) : Rps K F vs.dropLast ds.dropLast := by
  rw [List.dropLast_eq_take, List.dropLast_eq_take, r.length]
  exact r.take _
section
variable {X : Cx} {R : Ent} {W : WX} {o e : Expr} {fo fe : EM} {apos cpos : Pos} {n : Nat}
theorem lst_at {K : PySem.W.Frag} {ρ : En} {μ : Mu} {ι : List Addr} {F H : Hp} {σ : L2.St} (I : DI K R ρ μ ι F σ H) {k : Nat} {a : Addr} {xs : List Dat} (ha : ι[k]? = some a) (h : μ[k]? = some (.lst xs)) : F a = none ∧ ∃ vs, H a = some (.lst vs) ∧ Rps K F vs xs := I.ob k a _ ha h
theorem de_append (ho : PE X o (tD X.K X.mg R W fo)) (he : PE X e (tD X.K X.mg R W fe)) (hs1 : starEach [e] X.env = (false, eval e X.env) :: starEach [] X.env := by rfl)
    (hbase : attributeBase o "append" X.env (eval o X.env) = eval o X.env := by rfl)
    (hfew : ((backTo cpos (starEach [e] X.env)).all (fun x => !x.1) && (backToKw cpos (keywordEach [] X.env)).all (fun x => x.1.isSome)
      && decide ([e].length + ([] : List Keyword).length + (if ([] : List Keyword).isEmpty then 0 else 1) < 30)) = true := by rfl)
    (hline : (apos.endLine == cpos.line) = true := by rfl) (hplain : (backTo cpos (starEach [] X.env)).any (·.1) = false := by rfl) :
    PE X (.Call (.Attribute o "append" apos) [e] [] cpos) (tD X.K X.mg R W (fAppend fo fe)) := by
  refine pe_imp (pe_bm F.plainAttrs_list F.slot_list_append F.type_list_append mt_append ho (pa_cons he pa_nil hs1) hbase hfew hline hs1 hplain) fun σ H Q ⟨ρ, μ, ι, F, I, q⟩ => ⟨ρ, μ, ι, F, I, q.bind.imp fun x μ1 q1 ι1 F1 H1 v I1 g1 r1 => ?_⟩
  cases e1 : isLst x μ1 with
  | none => rw [e1] at q1; exact q1.elim
  | some k =>
    rw [e1] at q1
    obtain ⟨a, xs, vs, rfl, ha, hx, hF, hH, rr⟩ := isLst_ok I1 r1 e1
    refine ⟨.inl ⟨rfl, vs, .inl (.inl hH)⟩, ρ, μ1, ι1, F1, I1, (Pst.bind q1).imp fun y μ2 q2 ι2 F2 H2 w I2 g2 r2 => ?_⟩
    cases e2 : asD ρ y μ2 with
    | none => rw [e2] at q2; exact q2.elim
    | some p =>
      obtain ⟨d, μ3⟩ := p
      rw [e2] at q2
      obtain ⟨F3, I3, g3, r3⟩ := I2.frz r2 e2
      have ha3 : ι2[k]? = some a := g2.ad k a ha
      cases e3 : μ3[k]? with
      | none => 
        have q2 : Pst _ _ (match μ3[k]? with
          | some (Ob.lst xs) => if xs.length < sizeLine then Res.ok (SV.d .non) (μ3.set k (.lst (xs ++ [d]))) else .bad
          | _ => .bad) := q2
        rw [e3] at q2; exact q2.elim
      | some ob =>
        have q2 : Pst _ _ (match μ3[k]? with
          | some (Ob.lst xs) => if xs.length < sizeLine then Res.ok (SV.d .non) (μ3.set k (.lst (xs ++ [d]))) else .bad
          | _ => .bad) := q2
        rw [e3] at q2
        cases ob with
        | lst ys =>
          obtain ⟨f3, us, h3, rr3⟩ := lst_at I3 ha3 e3
          have q2 : Pst _ _ (if ys.length < sizeLine then Res.ok (SV.d .non) (μ3.set k (.lst (ys ++ [d]))) else .bad) := q2
          by_cases hz : ys.length < sizeLine
          · rw [if_pos hz] at q2
            refine ⟨a, us, w, rfl, rfl, h3, by rw [rr3.length]; exact hz, ?_⟩
            exact q2 ι2 F3 _ .non (I3.put ha3 e3 f3 h3 rfl _ ⟨f3, _, upd_same, rr3.append (.cons r3 .nil)⟩) ((g1.trans g2).trans g3) .non
          · rw [if_neg hz] at q2; exact q2.elim
        | _ => exact (show False from q2).elim
theorem de_pop0 (ho : PE X o (tD X.K X.mg R W fo)) (hbase : attributeBase o "pop" X.env (eval o X.env) = eval o X.env := by rfl) (hline : (apos.endLine == cpos.line) = true := by rfl) : PE X (.Call (.Attribute o "pop" apos) [] [] cpos) (tD X.K X.mg R W (fPop0 fo)) := by
  refine pe_imp (pe_bm0 F.plainAttrs_list F.slot_list_pop F.type_list_pop mt_pop ho hbase hline) fun σ H Q ⟨ρ, μ, ι, F, I, q⟩ => ⟨ρ, μ, ι, F, I, q.bind.imp fun x μ1 q1 ι1 F1 H1 v I1 g1 r1 => ?_⟩
  cases e1 : isLst x μ1 with
  | none => rw [e1] at q1; exact q1.elim
  | some k =>
    rw [e1] at q1
    obtain ⟨a, xs, vs, rfl, ha, hx, hF, hH, rr⟩ := isLst_ok I1 r1 e1
    have q1 : Pst _ _ (match μ1[k]? with
      | some (Ob.lst xs) => (match xs[xs.length - 1]? with
        | some d => Res.ok (SV.d d) (μ1.set k (.lst xs.dropLast))
        | none => .bad)
      | _ => .bad) := q1
    rw [hx] at q1
    have q1 : Pst _ _ (match xs[xs.length - 1]? with
      | some d => Res.ok (SV.d d) (μ1.set k (.lst xs.dropLast))
      | none => .bad) := q1
    cases e2 : xs[xs.length - 1]? with
    | none => rw [e2] at q1; exact q1.elim
    | some d =>
      rw [e2] at q1
      obtain ⟨y, h2, ry⟩ := rr.get e2
      refine ⟨.inl ⟨rfl, vs, .inl (.inl hH)⟩, a, vs, y, rfl, rfl, hH, by rw [rr.length]; exact h2, ?_⟩
      exact q1 ι1 F1 _ y (I1.put ha hx hF hH rfl _ ⟨hF, _, upd_same, rr.dropLast⟩) g1 ry
theorem de_pop1 (ho : PE X o (tD X.K X.mg R W fo)) (he : PE X e (tD X.K X.mg R W fe)) (hs1 : starEach [e] X.env = (false, eval e X.env) :: starEach [] X.env := by rfl)
    (hbase : attributeBase o "pop" X.env (eval o X.env) = eval o X.env := by rfl)
    (hfew : ((backTo cpos (starEach [e] X.env)).all (fun x => !x.1) && (backToKw cpos (keywordEach [] X.env)).all (fun x => x.1.isSome)
      && decide ([e].length + ([] : List Keyword).length + (if ([] : List Keyword).isEmpty then 0 else 1) < 30)) = true := by rfl)
    (hline : (apos.endLine == cpos.line) = true := by rfl) (hplain : (backTo cpos (starEach [] X.env)).any (·.1) = false := by rfl) :
    PE X (.Call (.Attribute o "pop" apos) [e] [] cpos) (tD X.K X.mg R W (fPop1 fo fe)) := by
  refine pe_imp (pe_bm F.plainAttrs_list F.slot_list_pop F.type_list_pop mt_popAt ho (pa_cons he pa_nil hs1) hbase hfew hline hs1 hplain) fun σ H Q ⟨ρ, μ, ι, F, I, q⟩ => ⟨ρ, μ, ι, F, I, q.bind.imp fun x μ1 q1 ι1 F1 H1 v I1 g1 r1 => ?_⟩
  cases e1 : isLst x μ1 with
  | none => rw [e1] at q1; exact q1.elim
  | some k =>
    rw [e1] at q1
    obtain ⟨a, xs, vs, rfl, ha, hx, hF, hH, rr⟩ := isLst_ok I1 r1 e1
    refine ⟨.inl ⟨rfl, vs, .inl (.inl hH)⟩, ρ, μ1, ι1, F1, I1, (Pst.bind q1).imp fun y μ2 q2 ι2 F2 H2 w I2 g2 r2 => ?_⟩
    have ha2 : ι2[k]? = some a := g2.ad k a ha
    cases y with
    | r j => exact (show False from q2).elim
    | d y =>
      cases y with
      | int i =>
        cases r2
        have q2 : Pst _ _ (match μ2[k]? with
          | some (Ob.lst xs) => (match ixN xs.length i with
            | some j => (match xs[j]? with
              | some d => if xs.length ≤ sizeLine then Res.ok (SV.d d) (μ2.set k (.lst (xs.eraseIdx j))) else .bad
              | none => .bad)
            | none => .bad)
          | _ => .bad) := q2
        cases e3 : μ2[k]? with
        | none => rw [e3] at q2; exact q2.elim
        | some ob =>
          rw [e3] at q2
          cases ob with
          | lst ys =>
            obtain ⟨f3, us, h3, rr3⟩ := lst_at I2 ha2 e3
            have q2 : Pst _ _ (match ixN ys.length i with
              | some j => (match ys[j]? with
                | some d => if ys.length ≤ sizeLine then Res.ok (SV.d d) (μ2.set k (.lst (ys.eraseIdx j))) else .bad
                | none => .bad)
              | none => .bad) := q2
            cases e4 : ixN ys.length i with
            | none => rw [e4] at q2; exact q2.elim
            | some j =>
              rw [e4] at q2
              have q2 : Pst _ _ (match ys[j]? with
                | some d => if ys.length ≤ sizeLine then Res.ok (SV.d d) (μ2.set k (.lst (ys.eraseIdx j))) else .bad
                | none => .bad) := q2
              cases e5 : ys[j]? with
              | none => rw [e5] at q2; exact q2.elim
              | some d =>
                rw [e5] at q2
                obtain ⟨z, h6, rz⟩ := rr3.get e5
                obtain ⟨s1, s2, s3, s4⟩ := ixN_seq e4
                have q2 : Pst _ _ (if ys.length ≤ sizeLine then Res.ok (SV.d d) (μ2.set k (.lst (ys.eraseIdx j))) else .bad) := q2
                by_cases hz : ys.length ≤ sizeLine
                · rw [if_pos hz] at q2
                  have line := line63
                  refine ⟨a, us, i, j, z, rfl, rfl, h3, by omega, by omega, by rw [rr3.length]; exact s1, h6, ?_⟩
                  exact q2 ι2 F2 _ z (I2.put ha2 e3 f3 h3 rfl _ ⟨f3, _, upd_same, rr3.eraseIdx j⟩) (g1.trans g2) rz
                · rw [if_neg hz] at q2; exact q2.elim
          | _ => exact (show False from q2).elim
      | _ => exact (show False from q2).elim
end
end DL

-- DL11
/-! DL11: stores, attributes, own methods, new instances, raise, try. -/
namespace DL
open PySem PySem.Spec PyProof.Rows L2

/-! ### o[i] = e -/
def PSetD (K : PySem.W.Frag) : TSet := fun o i v H Q => rSetL o i v H Q ∨ rSetD o i v H Q
theorem set_D {X : Cx} (hu : X.A.units + 1 < cLine) : PSet X (PSetD X.K) := fun pins s σ H o i v ov iv u Q I ro ri rv q => q.elim (set_list pins s σ H o i v ov iv u Q I ro ri rv) (set_dict hu pins s σ H o i v ov iv u Q I ro ri rv)
def storeD (o : Ob) (i v : Dat) : Option Ob := match o with
  | .lst xs => (match i with
    | .int j => (ixN xs.length j).map fun k => .lst (xs.set k v)
    | _ => none)
  | .dct kvs => if kvs.length < sizeLine then (datKey i).map fun k => .dct (putD kvs k v) else none
  | _ => none
def sStore (fo fi fe : EM) : SM := sE fe fun v ρ μ1 => match asD ρ v μ1 with
  | none => .bad
  | some (d, μ2) => sE fo (fun x ρ μ3 => match x with
    | .r k => sE fi (fun y ρ μ4 => match vw y μ4, μ4[k]? with
      | some i, some o => (match storeD o i d with
        | some o' => .nx ρ (μ4.set k o')
        | none => .bad)
      | _, _ => .bad) ρ μ3
    | _ => .bad) ρ μ2
section
variable {X : Cx} {R : Ent} {W : WX} {n : Nat} {o i e : Expr} {fo fi fe : EM}
theorem store_ok {K : PySem.W.Frag} {ρ : En} {μ : Mu} {ι : List Addr} {F H : Hp} {σ : L2.St} (I : DI K R ρ μ ι F σ H) {k : Nat} {a : Addr} {ob ob' : Ob} {y w : V} {dy dw : Dat} (ha : ι[k]? = some a) (hk : μ[k]? = some ob) (ry : Rv K F H y dy) (rw' : Rp K F w dw)
    (e : storeD ob dy dw = some ob') {Q : Hp → Prop} (q : ∀ H', DI K R ρ (μ.set k ob') ι F σ H' → Q H') : PSetD K (.ref a) y w H Q := by
  unfold storeD at e
  split at e
  · rename_i xs
    split at e
    · rename_i j
      obtain ⟨f, vs, e1, rr⟩ := I.ob k a _ ha hk
      cases h : ixN xs.length j with
      | none => rw [h] at e; cases e
      | some m =>
        rw [h] at e; cases e
        rw [rv_int ry]
        exact .inl ⟨a, vs, j, m, rfl, rfl, e1, by rw [rr.length]; exact h, q _ (I.put ha hk f e1 rfl _ ⟨f, _, upd_same, rr.set m rw'⟩)⟩
    · cases e
  · rename_i kvs
    split at e
    · rename_i hz
      obtain ⟨f, vs, e1, rr⟩ := I.ob k a _ ha hk
      cases h : datKey dy with
      | none => rw [h] at e; cases e
      | some m =>
        rw [h] at e; cases e
        rw [key_of h ry]
        exact .inr ⟨a, _, rfl, .inl ⟨vs, m, e1, rfl, by rw [rr.length]; exact hz, rfl⟩, q _ (I.put ha hk f e1 rfl _ ⟨f, _, upd_same, rr.put m rw'⟩)⟩
    · cases e
  · cases e
theorem ds_store {pos pos' : Pos} (hu : X.A.units + 1 < cLine) (ho : PE X o (tD X.K X.mg R W fo)) (hi : PE X i (tD X.K X.mg R W fi)) (he : PE X e (tD X.K X.mg R W fe))
    (hb : ∀ v, assign (.Subscript o i pos') X.env v = (do
      let ov ← holding [v] (eval o X.env)
      let iv ← holding [v, ov] (eval i X.env)
      standAt pos'
      holding [v, ov, iv] (setItem ov iv v)
      release [v, ov, iv] []) := by intro _; rfl)
    (hs : swapsWithSole [.Subscript o i pos'] e pos.line X.env = pure false := by rfl) (hw : swappedStores [.Subscript o i pos'] e X.env = pure none := by rfl) (h1 : (assignEach [.Subscript o i pos'] X.env).map (·.2) = [assign (.Subscript o i pos') X.env] := by rfl) :
    PS X (.Assign [.Subscript o i pos'] e pos) (tDS X.K X.mg R W n (sStore fo fi fe)) := by
  refine ps_imp (ps_asg he (pg_sub ho hi (set_D hu) hb) hs hw h1) fun D σ H ⟨ρ, μ, ι, F, I, hl, q⟩ => ⟨ρ, μ, ι, F, I, (sE_ok hl q).imp fun v μ1 q1 ι1 F1 H1 u I1 g1 r1 => ?_⟩
  cases e1 : asD ρ v μ1 with
  | none => rw [e1] at q1; exact q1.elim
  | some p =>
    obtain ⟨d, μ2⟩ := p
    rw [e1] at q1
    obtain ⟨F2, I2, g2, r2⟩ := I1.frz r1 e1
    refine ⟨ρ, μ2, ι1, F2, I2, (sE_ok hl q1).imp fun x μ3 q3 ι3 F3 H3 w I3 g3 r3 => ?_⟩
    cases x with
    | d x => exact q3.elim
    | r k =>
      obtain ⟨a, ha, rfl⟩ := r3
      refine ⟨ρ, μ3, ι3, F3, I3, (sE_ok hl q3).imp fun y μ4 q4 ι4 F4 H4 z I4 g4 r4 => ?_⟩
      cases e4 : vw y μ4 with
      | none => rw [e4] at q4; exact q4.elim
      | some dy =>
        cases e5 : μ4[k]? with
        | none => rw [e4, e5] at q4; exact q4.elim
        | some ob =>
          rw [e4, e5] at q4
          cases e6 : storeD ob dy d with
          | none =>
            have q4 : PsS X.K X.mg R W n D ι F (match storeD ob dy d with
              | some o' => .nx ρ (μ4.set k o')
              | none => .bad) := q4
            rw [e6] at q4; exact q4.elim
          | some ob' =>
            have q4 : PsS X.K X.mg R W n D ι F (match storeD ob dy d with
              | some o' => .nx ρ (μ4.set k o')
              | none => .bad) := q4
            rw [e6] at q4
            exact store_ok I4 (g4.ad k a ha) e5 (I4.view r4 e4) (r2.mono (g3.trans g4).le) e6 fun H' J => q4 ι4 F4 σ H' J (((g1.trans g2).trans g3).trans g4) hl

/-! ### attributes -/
/-- e.f of an own instance of one of the classes at cs -/
def fFld (cs : List Addr) (f : Str) (fe : EM) : EM := fun ρ μ => (fe ρ μ).bind fun x μ1 => match x with
  | .d (.ins C ds) => if C ∈ cs then ofO (ds.lookup f) μ1 else .bad
  | _ => .bad
theorem de_fld {cs : List Addr} {f : Str} {pos : Pos} (hcs : ∀ C ∈ cs, Cls X.K C ∧ NoAttr X.K C f) (he : PE X e (tD X.K X.mg R W fe)) (hb : attributeBase e f X.env (eval e X.env) = eval e X.env := by rfl) : PE X (.Attribute e f pos) (tD X.K X.mg R W (fFld cs f fe)) := by
  refine pe_imp (pe_fld he hb) fun σ H Q ⟨ρ, μ, ι, F, I, q⟩ => ⟨ρ, μ, ι, F, I, q.bind.imp fun x μ1 q1 ι1 F1 H1 v I1 g1 r1 => ?_⟩
  cases x with
  | r k => exact (show False from q1).elim
  | d x =>
    cases x with
    | ins C ds =>
      have q1 : Pst _ _ (if C ∈ cs then ofO (ds.lookup f) μ1 else .bad) := q1
      by_cases hC : C ∈ cs
      · rw [if_pos hC] at q1
        obtain ⟨d, e1, q2⟩ := ofO_ok (α := Nat) q1
        cases r1 with
        | ins s r =>
          obtain ⟨y, h1, ry⟩ := r.lookup e1
          exact ⟨_, C, _, _, y, rfl, I1.sub _ _ s, (hcs C hC).1, (hcs C hC).2, h1, q2 ι1 F1 H1 y I1 g1 ry⟩
      · rw [if_neg hC] at q1; exact q1.elim
    | _ => exact (show False from q1).elim
/-- self.f = e, the instance not yet data -/
def putFD (f : Str) (v : Dat) : List (Str × Dat) → List (Str × Dat)
  | [] => [(f, v)]
  | (g, w) :: r => if g = f then (g, v) :: r else (g, w) :: putFD f v r
theorem Rfs.put {K : PySem.W.Frag} {F : Hp} {f : Str} {v : V} {d : Dat} (rv : Rp K F v d) : ∀ {fs : List (Str × V)} {ds : List (Str × Dat)}, Rfs K F fs ds → Rfs K F (putF f v fs) (putFD f d ds)
  | _, [], h => by cases h; exact .cons rv .nil
  | _, (g, w) :: ds, h => by
    cases h with
    | @cons x y fs d' ds' a b =>
      unfold putF putFD
      by_cases q : g = f
      · rw [if_pos q, if_pos q]; exact .cons rv b
      · rw [if_neg q, if_neg q]; exact .cons a (Rfs.put rv b)
theorem Rfs.length {K : PySem.W.Frag} {F : Hp} {fs : List (Str × V)} {ds : List (Str × Dat)} (h : Rfs K F fs ds) : fs.length = ds.length := by
  induction ds generalizing fs with
  | nil => cases h; rfl
  | cons d ds ih =>
    cases h with
    | cons a b => rw [List.length_cons, List.length_cons, ih b]
def sFldD (cs : List Addr) (f : Str) (fo fe : EM) : SM := sE fe fun v ρ μ1 => match asD ρ v μ1 with
  | none => .bad
  | some (d, μ2) => sE fo (fun x ρ μ3 => match x with
    | .r k => (match μ3[k]? with
      | some (.ins C fs) => if C ∈ cs ∧ fs.length < 1000 then .nx ρ (μ3.set k (.ins C (putFD f d fs))) else .bad
      | _ => .bad)
    | _ => .bad) ρ μ2
theorem ds_fld {cs : List Addr} {f : Str} {pos pos' : Pos} (hcs : ∀ C ∈ cs, Cls X.K C ∧ NoAttr X.K C f) (ho : PE X o (tD X.K X.mg R W fo)) (he : PE X e (tD X.K X.mg R W fe)) (hs : swapsWith e (some (.Attribute o f pos')) pos.line X.env = pure false := by rfl) :
    PS X (.Assign [.Attribute o f pos'] e pos) (tDS X.K X.mg R W n (sFldD cs f fo fe)) := by
  refine ps_imp (ps_fld ho he hs) fun D σ H ⟨ρ, μ, ι, F, I, hl, q⟩ => ⟨ρ, μ, ι, F, I, (sE_ok hl q).imp fun v μ1 q1 ι1 F1 H1 u I1 g1 r1 => ?_⟩
  cases e1 : asD ρ v μ1 with
  | none => rw [e1] at q1; exact q1.elim
  | some p =>
    obtain ⟨d, μ2⟩ := p
    rw [e1] at q1
    obtain ⟨F2, I2, g2, r2⟩ := I1.frz r1 e1
    refine ⟨ρ, μ2, ι1, F2, I2, (sE_ok hl q1).imp fun x μ3 q3 ι3 F3 H3 w I3 g3 r3 => ?_⟩
    cases x with
    | d x => exact q3.elim
    | r k =>
      obtain ⟨a, ha, rfl⟩ := r3
      cases e5 : μ3[k]? with
      | none => 
        have q3 : PsS X.K X.mg R W n D ι F (match μ3[k]? with
          | some (.ins C fs) => if C ∈ cs ∧ fs.length < 1000 then .nx ρ (μ3.set k (.ins C (putFD f d fs))) else .bad
          | _ => .bad) := q3
        rw [e5] at q3; exact q3.elim
      | some ob =>
        have q3 : PsS X.K X.mg R W n D ι F (match μ3[k]? with
          | some (.ins C fs) => if C ∈ cs ∧ fs.length < 1000 then .nx ρ (μ3.set k (.ins C (putFD f d fs))) else .bad
          | _ => .bad) := q3
        rw [e5] at q3
        cases ob with
        | ins C fs =>
          have q3 : PsS X.K X.mg R W n D ι F (if C ∈ cs ∧ fs.length < 1000 then .nx ρ (μ3.set k (.ins C (putFD f d fs))) else .bad) := q3
          by_cases hC : C ∈ cs ∧ fs.length < 1000
          · rw [if_pos hC] at q3
            obtain ⟨fF, dx, vs, e6, rr⟩ := I3.ob k a _ ha e5
            refine ⟨a, C, dx, vs, rfl, e6, (hcs C hC.1).1, (hcs C hC.1).2, by rw [rr.length]; exact hC.2, ?_⟩
            exact q3 ι3 F3 σ _ (I3.put ha e5 fF e6 rfl _ ⟨fF, dx, _, upd_same, Rfs.put (r2.mono g3.le) rr⟩) ((g1.trans g2).trans g3) hl
          · rw [if_neg hC] at q3; exact q3.elim
        | _ => exact q3.elim
end

/-! ### own methods -/
def tMethS (C : Addr) (m : Str) (sp : Sp) (E : L2.St → XK) (ta : TE) (t : TA) : TE := fun σ H Q => ta σ H fun x H1 => ∃ a dx fs, x = .ref a ∧ H1 a = some (.ins C dx fs) ∧ fs.lookup m = none ∧ t σ H1 fun vs H2 => sp (x :: vs) H2 Q (E σ)
section
variable {X : Cx} {k : Nat} {f C : Addr} {fd : FuncData} {ps : List Str} {sp : Sp} {E : L2.St → XK} {m : Str} {pos apos : Pos} {e o : Expr} {es : List Expr} {ta : TE} {t : TA}
theorem pe_methE {pl : Sem Bool} (he : PE X o ta) (c : Cls X.K C) (hm : Meth X.K C m f) (F : FnOk X.prog X.w X.K X.mg X.base (L2.CX X.prog X.w) k f fd ps sp) (hr : Room k X.A) (hb : Binds X.K fd ps []) (hx : ∀ σ, PassesAt (L2.CX X.prog X.w) X σ (E σ)) (ha : PA X (e :: es) t)
    (hst : starEach (e :: es) X.env = (false, eval e X.env) :: starEach es X.env := by rfl) (hpl : (backTo pos (starEach es X.env)).any (·.1) = false := by rfl)
    (ht : eval (.Call (.Attribute o m apos) (e :: es) [] pos) X.env = (do
      let ov ← eval o X.env
      standAt apos.atName
      let (f, first) ← holding [ov] (getMethod ov m pl)
      callWith pos f first (backTo pos (starEach (e :: es) X.env)) (backToKw pos (keywordEach [] X.env))) := by rfl) :
    PE X (.Call (.Attribute o m apos) (e :: es) [] pos) (tMethS C m sp E ta t) := by
  refine ⟨fun pins s σ H Q I h => ?_⟩
  refine PySem.W.methodCall_KW (pl := pl) (thn (he.run pins s σ H _ I h) fun u s1 ⟨x, H1, I1, rx, a, dx, fs, ex, ea, l, q⟩ => ?_) ht
  subst ex
  obtain rfl : u = Value.ref a := rx
  refine getmeth_ok I1 ea c hm l ?_
  refine PySem.W.callWith_K (first := [.ref a]) (h₀ := X.base) I.ok.mod.kin hm.kp (thn (ha.run pos pins s1 σ H1 _ I1 q) fun us s2 ⟨vs, H2, I2, r, q2⟩ => ⟨I2.kIn, ?_⟩) hst hpl
  exact run_fnS (us := .ref a :: us) (vs := .ref a :: vs) F hr hb (hx σ) I2 (.cons rfl r) q2
theorem pe_methE0 {pl : Sem Bool} (he : PE X o ta) (c : Cls X.K C) (hm : Meth X.K C m f) (F : FnOk X.prog X.w X.K X.mg X.base (L2.CX X.prog X.w) k f fd ps sp) (hr : Room k X.A) (hb : Binds X.K fd ps []) (hx : ∀ σ, PassesAt (L2.CX X.prog X.w) X σ (E σ))
    (ht : eval (.Call (.Attribute o m apos) [] [] pos) X.env = (do
      let ov ← eval o X.env
      standAt apos.atName
      let (f, first) ← holding [ov] (getMethod ov m pl)
      callWith pos f first (backTo pos (starEach [] X.env)) (backToKw pos (keywordEach [] X.env))) := by rfl) :
    PE X (.Call (.Attribute o m apos) [] [] pos) (tMethS C m sp E ta tNil) := by
  refine ⟨fun pins s σ H Q I h => ?_⟩
  refine PySem.W.methodCall_KW (pl := pl) (thn (he.run pins s σ H _ I h) fun u s1 ⟨x, H1, I1, rx, a, dx, fs, ex, ea, l, q⟩ => ?_) ht
  subst ex
  obtain rfl : u = Value.ref a := rx
  refine getmeth_ok I1 ea c hm l ?_
  exact PySem.W.callWith_K0 (first := [.ref a]) I1.kIn hm.kp (run_fnS (us := [.ref a]) (vs := [.ref a]) F hr hb (hx σ) I1 (.cons rfl .nil) q)
end
abbrev Alts := List (Addr × FnM)
/-- o.m(..): the class of the instance says which def; n: its parameters -/
def fMeth (alts : Alts) (m : Str) (n : Nat) (fo : EM) (fa : AM) : EM := fun ρ μ => (fo ρ μ).bind fun x μ1 => match x with
  | .d (.ins C ds) => (match alts.lookup C, ds.lookup m with
    | some Fn, none => (fa ρ μ1).bind fun xs μ2 => if (SV.d (.ins C ds) :: xs).length = n then Fn (.d (.ins C ds) :: xs) μ2 else .bad
    | _, _ => .bad)
  | _ => .bad
section
variable {X : Cx} {R : Ent} {W : WX} {e : Expr} {fo : EM} {fa : AM} {m : Str} {n : Nat}
theorem de_meth {alts : Alts} {T : List (Addr × Str)} (hT : R.T = T) (hne : alts.isEmpty = false) (h : ∀ C Fn, (C, Fn) ∈ alts → PE X e (tMethS C m (spD X.K X.mg T n Fn) (WE W) (tD X.K X.mg R W fo) (tDA X.K X.mg R W fa))) : PE X e (tD X.K X.mg R W (fMeth alts m n fo fa)) := by
  subst hT
  refine ⟨fun pins s σ H Q I ⟨ρ, μ, ι, F, J, q⟩ => ?_⟩
  unfold fMeth at q
  have mem : ∀ {alts : Alts} {C : Addr} {Fn : FnM}, alts.lookup C = some Fn → (C, Fn) ∈ alts := fun {alts C Fn} h => by
    induction alts with
    | nil => simp at h
    | cons p alts ih =>
      obtain ⟨a, b⟩ := p
      rw [List.lookup_cons] at h
      cases z : C == a with
      | true =>
        rw [z] at h; cases h
        rw [beq_iff_eq.mp z]
        exact List.mem_cons_self
      | false =>
        rw [z] at h
        exact List.mem_cons_of_mem _ (ih h)
  -- which class
  have q0 := q.bind
  cases e1 : fo ρ μ with
  | bad => rw [e1] at q0; exact q0.elim
  | ex nm μ1 =>
    -- the object itself raises
    cases alts with
    | nil => cases hne
    | cons p alts =>
      refine (h p.1 p.2 List.mem_cons_self).run pins s σ H Q I ⟨ρ, μ, ι, F, J, ?_⟩
      rw [e1] at q0 ⊢
      exact q0
  | ok x μ1 =>
    rw [e1] at q0
    cases x with
    | r k => exact (show False from q0).elim
    | d x =>
      cases x with
      | ins C ds =>
        have q0 : Pst _ _ (match alts.lookup C, ds.lookup m with
          | some Fn, none => (fa ρ μ1).bind fun xs μ2 => if (SV.d (.ins C ds) :: xs).length = n then Fn (.d (.ins C ds) :: xs) μ2 else .bad
          | _, _ => .bad) := q0
        cases e2 : alts.lookup C with
        | none => rw [e2] at q0; exact q0.elim
        | some Fn =>
          cases e3 : ds.lookup m with
          | some z => rw [e2, e3] at q0; exact q0.elim
          | none =>
            rw [e2, e3] at q0
            refine (h C Fn (mem e2)).run pins s σ H Q I ⟨ρ, μ, ι, F, J, ?_⟩
            rw [e1]
            intro ι1 F1 H1 v I1 g1 r1
            have r1' := r1
            cases r1 with
            | @ins a C dx fs ds s r =>
              refine ⟨a, dx, fs, rfl, I1.sub _ _ s, r.lookup_none e3, ρ, μ1, ι1, F1, I1, (Pst.bind q0).imp fun xs μ2 q2 ι2 F2 H2 vs I2 g2 r2 => ?_⟩
              exact sp_in I2 (.cons (Rsv.mono (x := .d (.ins C ds)) r1' g2) r2) (q2.imp fun x μ' q3 ι' F' H' v J g3 r3 => q3 ι' F' H' v J ((g1.trans g2).trans g3) r3)
      | _ => exact (show False from q0).elim
end

/-! ### new instances -/
section
variable {X : Cx} {k : Nat} {f C : Addr} {fd : FuncData} {ps : List Str} {sp : Sp} {E : L2.St → XK} {x : Str} {p pos : Pos} {e : Expr} {es : List Expr} {t : TA}
def tMakeS (C : Addr) (sp : Sp) (E : L2.St → XK) (t : TA) : TE := fun σ H Q => t σ H fun vs H1 => ∀ x dx, H1 x = none → H1 dx = none → dx ≠ x →
  sp (.ref x :: vs) (upd (upd H1 dx (.own x)) x (.ins C dx [])) (fun v H2 => v = .non ∧ Q (.ref x) H2) (E σ)
theorem run_makeE {pins : List (Addr × Obj)} {σ : L2.St} {H : Hp} {s : Shared} {Q : VK} {us : List Value} {vs : List V} (M : Mk X.K C f) (F : FnOk X.prog X.w X.K X.mg X.base (L2.CX X.prog X.w) k f fd ps sp) (hr : Room (k + 1) X.A) (hb : Binds X.K fd ps [])
    (hx : ∀ σ, PassesAt (L2.CX X.prog X.w) X σ (E σ)) (I : Inv X pins σ H s) (r : Vals vs us)
    (h : ∀ x dx, H x = none → H dx = none → dx ≠ x → sp (.ref x :: vs) (upd (upd H dx (.own x)) x (.ins C dx [])) (fun v H2 => v = .non ∧ Q (.ref x) H2) (E σ)) :
    wpAny (model X.prog X.w) X.A (call (.ref C) us) (EP X pins σ Q) X.xe s := by
  have hq := h (s.heap.objs.size + 1) s.heap.objs.size (I.hok.fresh (Nat.le_succ _)) (I.hok.fresh (Nat.le_refl _)) (Nat.ne_of_lt (Nat.lt_succ_self _))
  have I2 := Inv.made (C := C) I
  have r2 : Vals (V.ref (s.heap.objs.size + 1) :: vs) (Value.ref (s.heap.objs.size + 1) :: us) := .cons rfl r
  have hl : (Value.ref (s.heap.objs.size + 1) :: us).length = ps.length := by
    have e := r2.length
    rw [F.len _ _ _ _ hq] at e
    exact e.symm
  have hb2 := hb _ (Value.ref (s.heap.objs.size + 1) :: us) I2.kIn (by rw [List.append_nil]; exact hl)
  rw [List.append_nil] at hb2
  refine wpAny_call (make_map (f := f) I.kIn M.makes M.init (beq_iff_eq.mp M.fn) (codeAny_mono (F.run _ X.stack _ _ ⟨Value.ref (s.heap.objs.size + 1) :: us, []⟩ (Value.ref (s.heap.objs.size + 1) :: us) _ _ (E σ) (hr.make C us [])
    (I2.env0.make C us []) hb2 r2 hq) fun r s' hq' => ?_))
  cases r with
  | error e => exact hx σ pins _ _ e s' I2 hq'
  | ok fl =>
    cases fl with
    | ret u =>
      obtain ⟨v, H', I3, rv, ev, q3⟩ := I2.after hq'
      subst ev
      exact ⟨rv, ⟨V.ref (s.heap.objs.size + 1), H', I3, rfl, q3⟩⟩
    | next => exact False.elim hq'
    | brk => exact False.elim hq'
    | cont => exact False.elim hq'
theorem pe_makeE (M : Mk X.K C f) (F : FnOk X.prog X.w X.K X.mg X.base (L2.CX X.prog X.w) k f fd ps sp) (hr : Room (k + 1) X.A) (hm : X.mg x = some (.ref C)) (hb : Binds X.K fd ps []) (hx : ∀ σ, PassesAt (L2.CX X.prog X.w) X σ (E σ))
    (ha : PA X (e :: es) t) (hg : Gl X x := by rfl) (hdb : (x == ("__debug__" : Str)) = false := by decide) (he : starEach (e :: es) X.env = (false, eval e X.env) :: starEach es X.env := by rfl) (hpl : (backTo pos (starEach es X.env)).any (·.1) = false := by rfl) :
    PE X (.Call (.Name x p) (e :: es) [] pos) (tMakeS C sp E t) := by
  refine ⟨fun pins s σ H Q I h => ?_⟩
  refine wpAny_Call_Name_kw (ld_glob I hg hm ?_ hdb)
  refine PySem.W.callWith_K (h₀ := X.base) I.ok.mod.kin M.kp (thn (ha.run pos pins s σ H _ I h) fun us s1 ⟨vs, H1, I1, r, q⟩ => ⟨I1.kIn, ?_⟩) he hpl
  exact run_makeE M F hr hb hx I1 r q
end
/-- C(..), the instance as data -/
def fMake (C : Addr) (n : Nat) (Fn : FnM) (fa : AM) : EM := fun ρ μ => (fa ρ μ).bind fun xs μ1 => if xs.length + 1 = n then ((Fn (.r μ1.length :: xs) (μ1 ++ [.ins C []])).exT μ1.length).bind fun y μ2 => match y, μ2[μ1.length]? with
  | .d .non, some (.ins C' fs) => .ok (.d (.ins C' fs)) (μ2.take μ1.length)
  | _, _ => .bad else .bad
section
variable {X : Cx} {R : Ent} {W : WX} {k : Nat} {f C : Addr} {fd : FuncData} {ps : List Str} {Fn : FnM} {fa : AM} {x : Str} {p pos : Pos} {e : Expr} {es : List Expr}
/-- the objects from m on are forgotten -/
theorem DI.cut {K : PySem.W.Frag} {R : Ent} {ρ : En} {μ μ1 : Mu} {ι ι1 : List Addr} {F F1 H H1 : Hp} {σ σ1 : L2.St} (J : DI K R ρ μ ι F σ H) (I : DI K R ρ μ1 ι1 F1 σ1 H1) (g : Gw ι1 F1 ι F) (hsl : ∀ (i : Nat) x, ρ.sl[i]? = some (some x) → ∃ v, σ[i]? = some (some v) ∧ σ1[i]? = some (some v)) (h : ι.take ι1.length = ι1) : DI K R ρ (μ.take ι1.length) ι1 F σ H := by
  refine ⟨J.sub, J.nn, fun i x e => ?_, ?_, fun j a o h1 h2 => ?_, I.nd, J.fr, J.F0, J.Fn, I.ι0, J.ft⟩
  · obtain ⟨v, e1, e2⟩ := hsl i x e
    obtain ⟨v', e3, r⟩ := I.sl i x e
    rw [e2] at e3; cases e3
    exact ⟨v, e1, r.mono ⟨g.le, fun _ _ h => h⟩⟩
  · rw [List.length_take, ← J.len]
    have := congrArg List.length h
    rw [List.length_take] at this
    omega
  · rw [List.getElem?_take] at h2
    by_cases q : j < ι1.length
    · rw [if_pos q] at h2
      exact J.ob j a o (g.ad j a h1) h2
    · rw [if_neg q] at h2; cases h2
theorem de_make {n : Nat} {T : List (Addr × Str)} (hT : R.T = T) (M : Mk X.K C f) (Fo : FnOk X.prog X.w X.K X.mg X.base (L2.CX X.prog X.w) k f fd ps (spD X.K X.mg T n Fn)) (tk : TkE X W) (hr : Room (k + 1) X.A) (hm : X.mg x = some (.ref C)) (hb : Binds X.K fd ps [])
    (ha : PA X (e :: es) (tDA X.K X.mg R W fa)) (hg : Gl X x := by rfl) (hdb : (x == ("__debug__" : Str)) = false := by decide) (he : starEach (e :: es) X.env = (false, eval e X.env) :: starEach es X.env := by rfl) (hpl : (backTo pos (starEach es X.env)).any (·.1) = false := by rfl) :
    PE X (.Call (.Name x p) (e :: es) [] pos) (tD X.K X.mg R W (fMake C n Fn fa)) := by
  subst hT
  refine pe_imp (pe_makeE M Fo hr hm hb tk ha hg hdb he hpl) fun σ H Q ⟨ρ, μ, ι, F, I, q⟩ => ⟨ρ, μ, ι, F, I, q.bind.imp fun xs μ1 q1 ι1 F1 H1 vs I1 g1 r1 y dy hy hdy hne => ?_⟩
  by_cases hn : xs.length + 1 = n
  · rw [if_pos hn] at q1
    -- the new instance among the changing objects
    obtain ⟨n1, n2, n3⟩ := I1.fresh hdy
    have I2 := I1.junk (.inl hdy) n2 n1 n3 (.own y)
    have hy2 : (upd H1 dy (.own y)) y = none := by rw [upd_ne (Ne.symm hne)]; exact hy
    obtain ⟨I3, g3⟩ := I2.new (x := .ins C []) hy2 (.ins C dy []) ⟨(I2.fresh hy2).2.1, dy, [], upd_same, .nil⟩
    have last : (ι1 ++ [y])[μ1.length]? = some y := by rw [← I1.len]; exact get_last _ _
    refine ⟨by rw [List.length_cons, r1.length]; exact hn, μ1 ++ [.ins C []], ι1 ++ [y], F1, .r μ1.length :: xs, I3.enter, .cons ⟨y, last, rfl⟩ (r1.mono g3), ?_⟩
    have tk0 : ∀ {ρ' : En} {μ' : Mu} {ι' : List Addr} {F' : Hp} {σ' : L2.St} {H' : Hp}, DI X.K ⟨upd (upd H1 dy (.own y)) y (.ins C dy []), F1, ι1 ++ [y], R.T⟩ ρ' μ' ι' F' σ' H' → DI X.K R ρ μ' ι' F' σ H' ∧ Gw ι1 F1 ι' F' ∧ ι'.take ι1.length = ι1 := fun {ρ' μ' ι' F' σ' H'} J => by
      refine ⟨I3.after J, g3.trans J.gw, ?_⟩
      obtain ⟨m, em, _⟩ := J.ι0
      have em : ι' = (ι1 ++ [y]) ++ m := em
      rw [em, List.append_assoc]
      simp
    refine (Pst.bind q1 |> pst_exT).imp2 (fun nm μ' b ι' F' H' cls hc J => ?_) fun z μ2 q2 ι' F' H' v J r' => ?_
    · obtain ⟨A, gA, eA⟩ := tk0 J
      rw [← I1.len] at b
      exact b ι1 F' H' cls hc (A.cut I1 gA (fun i x e => by obtain ⟨v, e1, _⟩ := I1.sl i x e; exact ⟨v, e1, e1⟩) eA)
    · cases z with
      | r j => exact (show False from q2).elim
      | d z =>
        cases z with
        | non =>
          cases r'
          refine ⟨rfl, ?_⟩
          cases e4 : μ2[μ1.length]? with
          | none =>
            have q2 : Pst _ _ (match SV.d .non, μ2[μ1.length]? with
              | .d .non, some (.ins C' fs) => Res.ok (SV.d (.ins C' fs)) (μ2.take μ1.length)
              | _, _ => .bad) := q2
            rw [e4] at q2; exact q2.elim
          | some ob =>
            have q2 : Pst _ _ (match SV.d .non, μ2[μ1.length]? with
              | .d .non, some (.ins C' fs) => Res.ok (SV.d (.ins C' fs)) (μ2.take μ1.length)
              | _, _ => .bad) := q2
            rw [e4] at q2
            cases ob with
            | ins C' fs =>
              obtain ⟨A, gA, eA⟩ := tk0 J
              have at3 : ι'[μ1.length]? = some y := J.gw.ad _ _ last
              obtain ⟨fF, dx, us, e6, rr⟩ := A.ob _ y _ at3 e4
              obtain ⟨B, gB⟩ := A.gone (by rw [I1.nn, ← I1.len]; obtain ⟨m, em, _⟩ := I1.ι0; rw [em, List.length_append]; omega) at3 e4 fF e6 rfl
              have cutB := B.cut I1 (gA.trans gB) (fun i x e => by obtain ⟨v, e1, _⟩ := I1.sl i x e; exact ⟨v, e1, e1⟩) eA
              have e7 : (μ2.set μ1.length .dead).take ι1.length = μ2.take μ1.length := by
                rw [I1.len, List.take_set_of_le (Nat.le_refl _)]
              rw [e7] at cutB
              have q2 : ∀ ι' F' H' v, DI X.K R ρ (μ2.take μ1.length) ι' F' σ H' → Gw ι F ι' F' → Rsv X.K F' ι' v (.d (.ins C' fs)) → Q v H' := q2
              exact q2 ι1 _ H' (.ref y) cutB (g1.trans ⟨(gA.trans gB).le, fun _ _ h => h⟩) (.ins upd_same (rr.mono gB.le))
            | _ => exact (show False from q2).elim
        | _ => exact (show False from q2).elim
  · rw [if_neg hn] at q1; exact q1.elim
end

/-! ### raise -/
def sRaise (nm : String) : SM := fun ρ μ => .ex nm ρ μ
theorem ds_raise {X : Cx} {R : Ent} {W : WX} {n : Nat} {x m : Str} {j : Nat} {p p2 pos pos' : Pos} {C : Addr} {bmB : List Value} {B newId initId : String} (nm : String) (hx : x = Str.ofString nm) (hc : X.calm = true) (tk : Takes X W) (F : ExcBaseFacts B newId initId bmB)
    (q : PySem.W.excIn X.K C bmB newId = true) (gC : X.mg x = some (.ref C)) (kC : PySem.W.keepIn X.K (.ref C) = true) (r : Raises X (.ref C)) (hg : Gl X x := by rfl) (hdb : (x == ("__debug__" : Str)) = false := by decide) :
    PS X (.Raise (some (.Call (.Name x p) [.Constant (.str m) j p2] [] pos)) none pos') (tDS X.K X.mg R W n (sRaise nm)) := by
  refine ps_imp (ps_raise hc tk (pmk_own F q gC kC r hg hdb)) fun D σ H ⟨ρ, μ, ι, F, I, hl, q⟩ => ?_
  have q : ∀ σ, σ.length = n → Bx X.K X.mg R W ρ σ nm μ := q
  exact q σ hl ι F H _ (by rw [← hx]; exact gC) I

/-! ### try: .. except x: .. -/
/-- mt: which of the names the clause takes -/
def sTry (mt : String → Option Bool) (b h : SM) : SM := fun ρ μ => match b ⟨ρ.sl, μ.length⟩ μ with
  | .ex nm ρ1 μ1 => (match mt nm with
    | some true => h ⟨ρ1.sl, ρ.n⟩ μ1
    | some false => .ex nm ⟨ρ1.sl, ρ.n⟩ μ1
    | none => .bad)
  | .nx ρ1 μ1 => .nx ⟨ρ1.sl, ρ.n⟩ μ1
  | .bk ρ1 μ1 => .bk ⟨ρ1.sl, ρ.n⟩ μ1
  | .ct ρ1 μ1 => .ct ⟨ρ1.sl, ρ.n⟩ μ1
  | .rt x μ1 => .rt x μ1
  | .bad => .bad
theorem ds_try {X : Cx} {R : Ent} {W : WX} {n : Nat} {x : Str} {c : Value} {body suite : List Stmt} {b₀ : Stmt} {np pos pos' : Pos} {fb fh : SM} (mt : String → Option Bool) (hs : X.stack = X.env :: X.outer) (hf : X.env.frame = some X.env.locals) (hc : Names X x c) (tk : Takes X W)
    (hmt : ∀ nm b cls, mt nm = some b → X.mg (Str.ofString nm) = some cls → PySem.W.exmOne X.K cls c = some b)
    (hb : ∀ (R' : Ent) (W' : WX) (pn : List (Addr × Obj)) (xe : Value → Shared → Prop), R'.T = R.T → Takes (X.tr pn xe) W' → PassesOwn (model X.prog X.w) X.A X.env xe → PSs (X.tr pn xe) body (tDS X.K X.mg R' W' n fb))
    (hsu : ∀ (R : Ent) (a : Addr) (oe : Obj) (pn : List (Addr × Obj)), PSs (X.suite a ((a, oe) :: pn)) (b₀ :: suite) (tDS X.K X.mg R W n fh)) :
    PS X (.Try body [.ExceptHandler (some (.Name x np)) none (b₀ :: suite) pos'] [] [] pos) (tDS X.K X.mg R W n (sTry mt fb fh)) := by
  have base := ps_try_only (pos := pos) (pos' := pos') (np := np) (tb := fun W' D σ H => ∃ R', R'.T = R.T ∧ tDS X.K X.mg R' W' n fb D σ H) (ts := fun _ _ _ D σ H => ∃ R, tDS X.K X.mg R W n fh D σ H) hs hf hc tk
    (fun W' pn xe t p => ⟨fun pins s σ H D I ⟨R', hT, h⟩ => (hb R' W' pn xe hT t p).run pins s σ H D I h⟩)
    (fun a oe cls d pn hz hd => ⟨fun pins s σ H D I ⟨R, h⟩ => (hsu R a oe pn).run pins s σ H D I h⟩)
  refine ps_imp base fun D σ H ⟨ρ, μ, ι, F, I, hl, q⟩ => ⟨⟨H, F, ι, R.T⟩, rfl, ⟨ρ.sl, ι.length⟩, μ, ι, F, I.here, hl, ?_⟩
  unfold sTry at q
  rw [← I.len] at q
  cases e : fb ⟨ρ.sl, ι.length⟩ μ with
  | nx ρ1 μ1 => rw [e] at q; exact fun ι1 F1 σ1 H1 J g hl1 => q ι1 F1 σ1 H1 (I.into J J.nn fun _ _ _ => trivial) g hl1
  | bk ρ1 μ1 => rw [e] at q; exact fun ι1 F1 σ1 H1 J g hl1 => q ι1 F1 σ1 H1 (I.into J J.nn fun _ _ _ => trivial) g hl1
  | ct ρ1 μ1 => rw [e] at q; exact fun ι1 F1 σ1 H1 J g hl1 => q ι1 F1 σ1 H1 (I.into J J.nn fun _ _ _ => trivial) g hl1
  | rt x μ1 => rw [e] at q; exact fun ρ1 ι1 F1 σ1 H1 v J r => q ρ ι1 F1 σ H1 v (I.after J) r
  | bad => rw [e] at q; exact q
  | ex nm ρ1 μ1 =>
    rw [e] at q
    intro σ1 hl1 ι1 F1 H1 cls hcl J
    have J2 := I.into J J.nn fun _ _ _ => trivial
    have q : PsS X.K X.mg R W n D ι F (match mt nm with
      | some true => fh ⟨ρ1.sl, ρ.n⟩ μ1
      | some false => .ex nm ⟨ρ1.sl, ρ.n⟩ μ1
      | none => .bad) := q
    cases e2 : mt nm with
    | none => rw [e2] at q; exact q.elim
    | some b =>
      refine ⟨b, hmt nm b cls e2 hcl, fun hb a ha => ?_, fun hb => ?_⟩
      · subst hb
        rw [e2] at q
        exact ⟨R, _, μ1, ι1, F1, J2, hl1, q.mono J.gw⟩
      · subst hb
        rw [e2] at q
        have q : ∀ σ, σ.length = n → Bx X.K X.mg R W ⟨ρ1.sl, ρ.n⟩ σ nm μ1 := q
        exact q σ1 hl1 ι1 F1 H1 cls hcl J2
end DL

-- DL12
/-! DL12: a def's contract from its body; assignments of comprehensions; what is walked of a dict. -/
namespace DL
open PySem PySem.Spec PyProof.Rows L2

/-- the result leaves the def: frozen, or (live) as the one new changing object -/
def fin (live : Bool) (n : Nat) (x : SV) (μ : Mu) : Res SV := match x with
  | .d d => .ok (.d d) (μ.take n)
  | .r k => if k < n then .ok (.r k) (μ.take n) else match live with
    | true => (match μ[k]? with
      | some (.lst xs) => .ok (.r n) (μ.take n ++ [.lst xs])
      | some (.dct xs) => .ok (.r n) (μ.take n ++ [.dct xs])
      | _ => .bad)
    | false => (match asD ⟨[], n⟩ (.r k) μ with
      | some (d, μ2) => .ok (.d d) (μ2.take n)
      | none => .bad)
def Fdef (live : Bool) (N : Nat) (g : SM) : FnM := fun xs μ => match g ⟨xs.map some ++ List.replicate (N - xs.length) none, μ.length⟩ μ with
  | .rt x μ1 => fin live μ.length x μ1
  | .nx _ μ1 => .ok (.d .non) (μ1.take μ.length)
  | .ex nm _ μ1 => .ex nm (μ1.take μ.length)
  | _ => .bad
section
variable {P : Program} {w : World} {K : PySem.W.Frag} {mg : MG} {base : Heap}
theorem DI.moved {R : Ent} {ρ : En} {μ : Mu} {ι : List Addr} {F H : Hp} {σ : L2.St} {k : Nat} {a : Addr} {o : Ob} (J : DI K R ρ μ ι F σ H) (hk : ρ.n ≤ k) (ha : ι[k]? = some a) (ho : μ[k]? = some o) :
    DI K R ⟨[], ρ.n⟩ (μ.take ρ.n ++ [o]) (ι.take ρ.n ++ [a]) F [] H := by
  obtain ⟨Tr, eT⟩ := J.trunc
  obtain ⟨m, e, hm⟩ := J.ι0
  have le : (ι.take ρ.n).length = ρ.n := by rw [eT, J.nn]
  have ma : a ∈ m := by
    rw [e] at ha
    rw [List.getElem?_append_right (by rw [← J.nn]; exact hk)] at ha
    exact List.mem_of_getElem? ha
  have na : a ∉ ι.take ρ.n := fun z => by
    obtain ⟨j, hj, ej⟩ := List.getElem_of_mem z
    have h1 : ι[j]? = some a := by
      have : (ι.take ρ.n)[j]? = some a := by rw [List.getElem?_eq_getElem hj, ej]
      rw [List.getElem?_take] at this
      by_cases q : j < ρ.n
      · rw [if_pos q] at this; exact this
      · rw [if_neg q] at this; cases this
    have := nodup_get J.nd h1 ha
    omega
  refine ⟨Tr.sub, Tr.nn, fun i x e => by simp at e, ?_, fun j b u e1 e2 => ?_, nodup_snoc Tr.nd na, Tr.fr, Tr.F0, Tr.Fn, ⟨[a], by rw [eT], fun b hb => ?_⟩, Tr.ft⟩
  · rw [List.length_append, List.length_append, Tr.len]; rfl
  · by_cases hj : j < ρ.n
    · rw [List.getElem?_append_left (by rw [le]; exact hj)] at e1
      rw [List.getElem?_append_left (by rw [← Tr.len, le]; exact hj)] at e2
      exact Tr.ob j b u e1 e2
    · rw [List.getElem?_append_right (by rw [le]; omega)] at e1
      rw [List.getElem?_append_right (by rw [← Tr.len, le]; omega)] at e2
      have h0 : j - (ι.take ρ.n).length = 0 := by
        have := (List.getElem?_eq_some_iff.mp e1).1
        simp only [List.length_singleton] at this
        omega
      rw [h0] at e1
      rw [← Tr.len, h0] at e2
      cases e1
      cases e2
      exact J.ob k _ _ ha ho
  · have : b = a := by simpa using hb
    rw [this]
    exact hm a ma
theorem body_ok {T : List (Addr × Str)} {qual : Str} {bd : List Stmt} {sc : Scope} {f : Addr} {cdv : Value} {N ps : List Str} {g : SM} {live : Bool} {A : Around} {outer : List Env} {s : Shared} {H : Hp} {vs : List V} {Q : VK} {E : XK} (S : FnScope N ps sc)
    (hb : ∀ (R : Ent) (W : WX), R.T = T → Takes (cxOf (L2.CX P w) P w K mg base N qual sc f cdv A outer s H E) W → PSs (cxOf (L2.CX P w) P w K mg base N qual sc f cdv A outer s H E) bd (tDS K mg R W N.length g))
    (h : spD K mg T ps.length (Fdef live N.length g) vs H Q E) : ∃ t, PSs (cxOf (L2.CX P w) P w K mg base N qual sc f cdv A outer s H E) bd t ∧ t { nx := fun _ H' => Q .non H', rt := Q } (start N vs) H := by
  obtain ⟨hl, μ, ι, F0, xs, J0, r, q⟩ := h
  refine ⟨tDS K mg ⟨H, F0, ι, T⟩ (fun cls d _ H => E cls d H) N.length g, hb ⟨H, F0, ι, T⟩ _ rfl (takes_of rfl rfl rfl rfl), ?_⟩
  have lN : vs.length ≤ N.length := by
    have e := congrArg List.length S.pre
    rw [List.length_take] at e
    omega
  have lx := r.length
  have e0 : ι.length = μ.length := J0.len
  have I0 : DI K ⟨H, F0, ι, T⟩ ⟨xs.map some ++ List.replicate (N.length - xs.length) none, μ.length⟩ μ ι F0 (start N vs) H := by
    refine J0.slots e0.symm fun i x e => ?_
    have e : (xs.map some ++ List.replicate (N.length - xs.length) none)[i]? = some (some x) := e
    by_cases hi : i < xs.length
    · rw [List.getElem?_append_left (by simpa using hi), List.getElem?_map] at e
      cases z : xs[i]? with
      | none => rw [z] at e; cases e
      | some y =>
        rw [z] at e
        have ey : y = x := by simpa using e
        obtain ⟨v, h1, rv⟩ := r.get z
        refine ⟨v, ?_, ey ▸ rv⟩
        show (vs.map some ++ List.replicate (N.length - vs.length) none)[i]? = some (some v)
        rw [List.getElem?_append_left (by rw [List.length_map, lx]; exact hi), List.getElem?_map, h1]
        rfl
    · rw [List.getElem?_append_right (by simpa using hi)] at e
      rw [List.getElem?_replicate] at e
      split at e <;> cases e
  refine ⟨_, μ, ι, F0, I0, by simp only [L2.start, List.length_append, List.length_map, List.length_replicate]; omega, ?_⟩
  unfold Fdef at q
  cases e : g ⟨xs.map some ++ List.replicate (N.length - xs.length) none, μ.length⟩ μ with
  | bad => rw [e] at q; exact q
  | bk ρ1 μ1 => rw [e] at q; exact q.elim
  | ct ρ1 μ1 => rw [e] at q; exact q.elim
  | nx ρ1 μ1 =>
    rw [e] at q
    intro ι1 F1 σ1 H1 J g1 hl1
    obtain ⟨Tr, eT⟩ := J.trunc
    have nn : ρ1.n = ι.length := J.nn
    rw [nn, e0] at Tr
    exact q _ F1 H1 .non (by rw [e0]; exact Tr) .non
  | ex nm ρ1 μ1 =>
    rw [e] at q
    intro σ1 hl1 ι1 F1 H1 cls hc J
    obtain ⟨Tr, eT⟩ := J.trunc
    have nn : ρ1.n = ι.length := J.nn
    rw [nn, e0] at Tr
    exact q _ F1 H1 cls hc (by rw [e0]; exact Tr)
  | rt y μ1 =>
    rw [e] at q
    intro ρ1 ι1 F1 σ1 H1 v J rv
    have nn : ρ1.n = ι.length := J.nn
    have q : Pst _ (fun x μ' => ∀ ι' F' H' v, DI K ⟨H, F0, ι, T⟩ ⟨[], ι.length⟩ μ' ι' F' [] H' → Rsv K F' ι' v x → Q v H') (fin live μ.length y μ1) := q
    cases y with
    | d d =>
      obtain ⟨Tr, eT⟩ := J.trunc
      rw [nn, e0] at Tr
      exact q (ι1.take μ.length) F1 H1 v (by rw [e0]; exact Tr) (show Rp K F1 v d from rv)
    | r j =>
      obtain ⟨a, ha, rfl⟩ := rv
      dsimp only [fin] at q
      by_cases hj : j < μ.length
      · rw [if_pos hj] at q
        obtain ⟨Tr, eT⟩ := J.trunc
        rw [nn, e0] at Tr eT
        refine q _ F1 H1 _ (by rw [e0]; exact Tr) ⟨a, ?_, rfl⟩
        rw [List.getElem?_take, if_pos hj]
        exact ha
      · rw [if_neg hj] at q
        cases live with
        | true =>
          dsimp only at q
          have at1 : ∀ o, μ1[j]? = some o → DI K ⟨H, F0, ι, T⟩ ⟨[], ι.length⟩ (μ1.take μ.length ++ [o]) (ι1.take μ.length ++ [a]) F1 [] H1 ∧ (ι1.take μ.length ++ [a])[μ.length]? = some a := fun o ho => by
            have z := J.moved (by rw [nn, e0]; omega) ha ho
            obtain ⟨Tr, eT⟩ := J.trunc
            rw [nn, e0] at z eT
            have eT : ι1.take μ.length = ι := eT
            refine ⟨by rw [e0]; exact z, ?_⟩
            rw [eT, ← e0]
            exact get_last _ _
          cases e4 : μ1[j]? with
          | none => rw [e4] at q; exact q.elim
          | some o =>
            rw [e4] at q
            obtain ⟨z, e5⟩ := at1 o e4
            cases o with
            | lst ys => exact q _ F1 H1 _ z ⟨a, e5, rfl⟩
            | dct ys => exact q _ F1 H1 _ z ⟨a, e5, rfl⟩
            | _ => exact (show False from q).elim
        | false =>
          dsimp only at q
          cases e4 : asD ⟨[], μ.length⟩ (.r j) μ1 with
          | none => rw [e4] at q; exact q.elim
          | some p =>
            obtain ⟨d, μ2⟩ := p
            rw [e4] at q
            have e4 : asD ρ1 (.r j) μ1 = some (d, μ2) := by
              have z : ρ1.n = μ.length := by rw [nn, e0]
              unfold asD at e4 ⊢
              rw [z]
              exact e4
            obtain ⟨F2, J2, g2, r2⟩ := J.frz (x := .r j) ⟨a, ha, rfl⟩ e4
            obtain ⟨Tr, eT⟩ := J2.trunc
            rw [nn, e0] at Tr
            exact q _ F2 H1 _ (by rw [e0]; exact Tr) r2
theorem fnD {T : List (Addr × Str)} {x qual : Str} {pa : Arguments} {bd : List Stmt} {sc : Scope} {kws : List (Str × V)} {f : Addr} {fd : FuncData} {N ps : List Str} {k : Nat} {g : SM} (live : Bool) (F : FunD K x qual pa bd sc [] kws f fd) (S : FnScope N ps sc)
    (hb : ∀ (cdv : Value) (_ : fd.code = cdv) (A : Around) (outer : List Env) (s : Shared) (H : Hp) (E : XK) (R : Ent) (W : WX), R.T = T → Room k (A.deeper (envOfC qual sc s.heap.objs.size f cdv)) → Takes (cxOf (L2.CX P w) P w K mg base N qual sc f cdv A outer s H E) W →
      PSs (cxOf (L2.CX P w) P w K mg base N qual sc f cdv A outer s H E) bd (tDS K mg R W N.length g)) : FnOk P w K mg base (L2.CX P w) (k + 1) f fd ps (spD K mg T ps.length (Fdef live N.length g)) := by
  obtain ⟨oc, od, dV, kV, doc, pm, an, cdv, ct, osl, rfl, lk, hcd, _, _⟩ := F.ex
  exact fn_of lk hcd S (fun vs H Q E h => h.1) (fun A outer s H vs Q E hr h => body_ok S (fun R W hT tk => hb cdv rfl A outer s H E R W hT hr tk) h)

end
end DL

-- DL13
/-! DL13: staticmethods, own ==, assignments of comprehensions, some built-ins. -/
namespace DL
open PySem PySem.Spec PyProof.Rows L2

/-! ### C.m(..), a staticmethod -/
structure SMet (K : PySem.W.Frag) (C : Addr) (mc : Value) (m : Str) (p g : Addr) : Prop where
  at_ : PySem.W.findCls K (.ref C) mc m = some (.get (.builtin "staticmethod.__get__") (.ref p) .none (.ref C))
  rc : ∃ rest, PySem.W.recIn K p "staticmethod" = some (.ref g :: rest)
section
variable {X : Cx} {R : Ent} {W : WX} {T : List (Addr × Str)} {k : Nat} {C p g : Addr} {mc : Value} {fd : FuncData} {ps : List Str} {Fn : FnM} {fa : AM} {m x : Str} {px pos apos : Pos} {e : Expr} {es : List Expr}
theorem getsm_ok {pins : List (Addr × Obj)} {σ : L2.St} {H : Hp} {s : Shared} {A : Around} {E : Value → Shared → Prop} {pl : Sem Bool} {Q : Value × List Value → Shared → Prop} (I : Inv X pins σ H s) (r : ClX.CRead X.K C mc) (c : SMet X.K C mc m p g)
    (h : ∀ s', Inv X pins σ H s' → Q (.ref g, []) s') : wpAny (model X.prog X.w) A (getMethod (.ref C) m pl) Q E s := by
  obtain ⟨rest, hp⟩ := c.rc
  refine PySem.W.method_cls I.kIn r.ga ?_
  refine PySem.W.cls_bind I.kIn r.rd c.at_ (wpAny_call (PySem.W.sm_get (s := { s with toks := s.toks + 1 }) I.kIn hp (PySem.W.handed_on (by rfl) ?_)))
  exact h _ (I.tok _)
theorem de_smeth {n : Nat} {pl : Sem Bool} (hT : R.T = T) (hm : X.mg x = some (.ref C)) (r : ClX.CRead X.K C mc) (c : SMet X.K C mc m p g) (Fo : FnOk X.prog X.w X.K X.mg X.base (L2.CX X.prog X.w) k g fd ps (spD X.K X.mg T n Fn)) (tk : TkE X W) (hr : Room k X.A) (hk : PySem.W.keepIn X.K (.ref g) = true) (hb : Binds X.K fd ps [])
    (ha : PA X (e :: es) (tDA X.K X.mg R W fa)) (hg : Gl X x := by rfl) (hd : (x == ("__debug__" : Str)) = false := by decide)
    (hst : starEach (e :: es) X.env = (false, eval e X.env) :: starEach es X.env := by rfl) (hpl : (backTo pos (starEach es X.env)).any (·.1) = false := by rfl)
    (ht : eval (.Call (.Attribute (.Name x px) m apos) (e :: es) [] pos) X.env = (do
      let ov ← eval (.Name x px) X.env
      standAt apos.atName
      let (f, first) ← holding [ov] (getMethod ov m pl)
      callWith pos f first (backTo pos (starEach (e :: es) X.env)) (backToKw pos (keywordEach [] X.env))) := by rfl) :
    PE X (.Call (.Attribute (.Name x px) m apos) (e :: es) [] pos) (tD X.K X.mg R W (fCall n Fn fa)) := by
  subst hT
  refine ⟨fun pins s σ H Q I ⟨ρ, μ, ι, F, J, q⟩ => ?_⟩
  refine PySem.W.methodCall_KW (pl := pl) (ld_glob I hg hm ?_ hd) ht
  refine getsm_ok I r c fun s2 I2 => ?_
  refine PySem.W.callWith_K (first := []) (h₀ := X.base) I.ok.mod.kin hk (thn (ha.run pos pins s2 σ H (fun vs H1 => spD X.K X.mg R.T n Fn vs H1 Q (WE W σ)) I2 ⟨ρ, μ, ι, F, J, q.bind.imp fun xs μ1 q1 ι1 F1 H1 vs I1 g1 r1 =>
    sp_in I1 r1 (q1.imp fun x μ' q2 ι' F' H' v J g2 r2 => q2 ι' F' H' v J (g1.trans g2) r2)⟩) fun us s3 ⟨vs, H2, I3, rv, q2⟩ => ⟨I3.kIn, ?_⟩) hst hpl
  exact run_fnS (E := WE W) Fo hr hb (tk σ) I3 rv q2
theorem de_smeth0 {n : Nat} {pl : Sem Bool} (hT : R.T = T) (hm : X.mg x = some (.ref C)) (r : ClX.CRead X.K C mc) (c : SMet X.K C mc m p g) (Fo : FnOk X.prog X.w X.K X.mg X.base (L2.CX X.prog X.w) k g fd ps (spD X.K X.mg T n Fn)) (tk : TkE X W) (hr : Room k X.A) (hk : PySem.W.keepIn X.K (.ref g) = true) (hb : Binds X.K fd ps [])
    (hg : Gl X x := by rfl) (hd : (x == ("__debug__" : Str)) = false := by decide)
    (ht : eval (.Call (.Attribute (.Name x px) m apos) [] [] pos) X.env = (do
      let ov ← eval (.Name x px) X.env
      standAt apos.atName
      let (f, first) ← holding [ov] (getMethod ov m pl)
      callWith pos f first (backTo pos (starEach [] X.env)) (backToKw pos (keywordEach [] X.env))) := by rfl) :
    PE X (.Call (.Attribute (.Name x px) m apos) [] [] pos) (tD X.K X.mg R W (fCall n Fn fNil)) := by
  subst hT
  refine ⟨fun pins s σ H Q I ⟨ρ, μ, ι, F, J, q⟩ => ?_⟩
  refine PySem.W.methodCall_KW (pl := pl) (ld_glob I hg hm ?_ hd) ht
  refine getsm_ok I r c fun s2 I2 => ?_
  exact PySem.W.callWith_K0 (first := []) I2.kIn hk (run_fnS (E := WE W) (us := []) Fo hr hb (tk σ) I2 .nil (sp_in J .nil q))
end

/-! ### x == y by an own __eq__ -/
def noE : XK := fun _ _ _ => False
def rOwnI (K : PySem.W.Frag) (mg : MG) (T : List (Addr × Str)) (C : Addr) (n : Nat) (Fn : FnM) : R2 := fun x y H Q => ∃ a dx fs b C' dy gs, x = .ref a ∧ y = .ref b ∧ H a = some (.ins C dx fs) ∧ H b = some (.ins C' dy gs) ∧ PySem.W.notFirst K C (.ref C') = true ∧ spD K mg T n Fn [x, y] H Q noE
section
variable {X : Cx} {T : List (Addr × Str)} {k : Nat} {C g : Addr} {fd : FuncData} {ps : List Str} {Fn : FnM}
theorem passes0 {X : Cx} : Passes (L2.CX X.prog X.w) X noE := fun _ _ _ _ _ _ _ h => by
  obtain ⟨_, _, _, _, _, _, _, _, _, _, _, _, z⟩ := h
  exact z.elim
theorem op_ownI {op : CmpOp} (hop : ∀ a b, compareOp op a b = richCompare op a b) (hs : PySem.W.findIn X.K (.ref C) (cmpInfo op).2.1 = some (some (.ref g))) (hf : PySem.W.isFn X.K (.ref g) = true) (Fo : FnOk X.prog X.w X.K X.mg X.base (L2.CX X.prog X.w) k g fd ps (spD X.K X.mg T ps.length Fn))
    (hr : Room k X.A) (hb : Binds X.K fd ps []) : OpR X (compareOp op) (rOwnI X.K X.mg T C ps.length Fn) := by
  intro pins s σ H x y v u Q I rx ry h
  obtain ⟨a, dx, fs, b, C', dy, gs, rfl, rfl, ha, hb', hn, q⟩ := h
  cases (show v = Value.ref a from rx)
  cases (show u = Value.ref b from ry)
  obtain ⟨mA, O, _, _, _, _⟩ := ins_get I.hok ha
  obtain ⟨od, J, _⟩ := O.look
  obtain ⟨mB, O', _, _, _, _⟩ := ins_get I.hok hb'
  obtain ⟨od', J', _⟩ := O'.look
  obtain ⟨m, hF⟩ := I.fr
  rw [hop]
  refine PySem.W.cmp_K (op := op) (tb := .ref C') hr.units0 hF I.ok.mod.kin J J'.type hn hs hf ?_
  refine wpAny_mono (run_fn (us := [.ref a, .ref b]) (vs := [.ref a, .ref b]) Fo hr hb .nil passes0 I (.cons rfl (.cons rfl .nil)) q) (fun w s' z => ?_) fun _ _ x => x
  obtain ⟨z', H', I', rz, qz⟩ := z
  exact SlX.cmpback rz ⟨z', H', I', rz, qz⟩
end
/-- alts: the class's own def; cs: the classes that the other may have -/
def fEqO (alts : Alts) (cs : List Addr) (n : Nat) (fa fb : EM) : EM := fun ρ μ => (fa ρ μ).bind fun x μ1 => match x with
  | .d (.ins C ds) => (match alts.lookup C with
    | some Fn => (fb ρ μ1).bind fun y μ2 => (match y with
      | .d (.ins C' es) => if C' ∈ cs ∧ n = 2 then (Fn [.d (.ins C ds), .d (.ins C' es)] μ2).nx else .bad
      | _ => .bad)
    | none => .bad)
  | _ => .bad
section
variable {X : Cx} {R : Ent} {W : WX} {T : List (Addr × Str)} {alts : Alts} {cs : List Addr} {n : Nat} {fa fb : EM}
theorem alts_mem : ∀ {alts : Alts} {C : Addr} {Fn : FnM}, alts.lookup C = some Fn → (C, Fn) ∈ alts
  | [], C, Fn, h => by simp at h
  | (a, b) :: alts, C, Fn, h => by
    rw [List.lookup_cons] at h
    cases z : C == a with
    | true =>
      rw [z] at h; cases h
      rw [beq_iff_eq.mp z]
      exact List.mem_cons_self
    | false =>
      rw [z] at h
      exact List.mem_cons_of_mem _ (alts_mem h)
theorem eqO_ok {K : PySem.W.Frag} {mg : MG} (hT : R.T = T) (hne : alts.isEmpty = false) (hcs : ∀ C Fn, (C, Fn) ∈ alts → ∀ C' ∈ cs, PySem.W.notFirst K C (.ref C') = true) {σ : L2.St} {H : Hp} {Q : VK} (h : tD K mg R W (fEqO alts cs n fa fb) σ H Q) :
    ∃ C Fn, (C, Fn) ∈ alts ∧ tOp (rOwnI K mg T C n Fn) (tD K mg R W fa) (tD K mg R W fb) σ H Q := by
  subst hT
  obtain ⟨ρ, μ, ι, F, J, q⟩ := h
  have q0 := q.bind
  cases e1 : fa ρ μ with
  | bad => rw [e1] at q0; exact q0.elim
  | ex nm μ1 =>
    cases alts with
    | nil => cases hne
    | cons p alts =>
      refine ⟨p.1, p.2, List.mem_cons_self, ρ, μ, ι, F, J, ?_⟩
      rw [e1] at q0 ⊢
      exact q0
  | ok x μ1 =>
    rw [e1] at q0
    cases x with
    | r k => exact (show False from q0).elim
    | d x =>
      cases x with
      | ins C ds =>
        have q0 : Pst _ _ (match alts.lookup C with
          | some Fn => (fb ρ μ1).bind fun y μ2 => (match y with
            | .d (.ins C' es) => if C' ∈ cs ∧ n = 2 then (Fn [.d (.ins C ds), .d (.ins C' es)] μ2).nx else .bad
            | _ => .bad)
          | none => .bad) := q0
        cases e2 : alts.lookup C with
        | none => rw [e2] at q0; exact q0.elim
        | some Fn =>
          rw [e2] at q0
          refine ⟨C, Fn, alts_mem e2, ρ, μ, ι, F, J, ?_⟩
          rw [e1]
          intro ι1 F1 H1 v I1 g1 r1
          refine ⟨ρ, μ1, ι1, F1, I1, (Pst.bind q0).imp fun y μ2 q2 ι2 F2 H2 w I2 g2 r2 => ?_⟩
          cases y with
          | r k => exact (show False from q2).elim
          | d y =>
            cases y with
            | ins C' es =>
              have q2 : Pst _ _ (if C' ∈ cs ∧ n = 2 then (Fn [.d (.ins C ds), .d (.ins C' es)] μ2).nx else .bad) := q2
              by_cases hc : C' ∈ cs ∧ n = 2
              · rw [if_pos hc] at q2
                have q3 := pst_nx q2
                have r1' := r1.mono g2
                have r2' := r2
                cases r1 with
                | @ins a C dx fs ds s r =>
                  cases r2 with
                  | @ins b C' dy gs es s' r' =>
                    refine ⟨a, dx, fs, b, C', dy, gs, rfl, rfl, I2.sub _ _ (g2.le.h _ _ s), I2.sub _ _ s', hcs C Fn (alts_mem e2) C' hc.1, by rw [hc.2]; rfl, μ2, ι2, F2, [.d (.ins C ds), .d (.ins C' es)], I2.enter, .cons r1' (.cons r2' .nil), ?_⟩
                    exact q3.imp2 (fun _ _ z => z.elim) fun x μ' q4 ι' F' H' v J r3 => q4 ι' F' H' v (I2.after J) ((g1.trans g2).trans J.gw) r3
              · rw [if_neg hc] at q2; exact q2.elim
            | _ => exact (show False from q2).elim
      | _ => exact (show False from q0).elim
theorem de_eqO {a b : Expr} {pos : Pos} (hT : R.T = T) (hne : alts.isEmpty = false) (hcs : ∀ C Fn, (C, Fn) ∈ alts → ∀ C' ∈ cs, PySem.W.notFirst X.K C (.ref C') = true)
    (ho : ∀ C Fn, (C, Fn) ∈ alts → OpR X (compareOp .Eq) (rOwnI X.K X.mg T C n Fn)) (ha : PE X a (tD X.K X.mg R W fa)) (hb : PE X b (tD X.K X.mg R W fb)) (hm : behindInMarks .Eq b = false := by exact nomark _) :
    PE X (.Compare a [.Eq] [b] pos) (tD X.K X.mg R W (fEqO alts cs n fa fb)) := by
  refine ⟨fun pins s σ H Q I h => ?_⟩
  obtain ⟨C, Fn, hmem, q⟩ := eqO_ok hT hne hcs h
  exact (pe_cmpR (ho C Fn hmem) ha hb hm).run pins s σ H Q I q
theorem dt_eqO {a b : Expr} {pos : Pos} (hT : R.T = T) (hne : alts.isEmpty = false) (hcs : ∀ C Fn, (C, Fn) ∈ alts → ∀ C' ∈ cs, PySem.W.notFirst X.K C (.ref C') = true)
    (ho : ∀ C Fn, (C, Fn) ∈ alts → OpR X (compareOp .Eq) (rOwnI X.K X.mg T C n Fn)) (ha : PE X a (tD X.K X.mg R W fa)) (hb : PE X b (tD X.K X.mg R W fb)) (hm : behindInMarks .Eq b = false := by exact nomark _) :
    PT X (.Compare a [.Eq] [b] pos) (tDT X.K X.mg R W (fB (fEqO alts cs n fa fb))) := by
  refine ⟨fun pins s σ H Q I h => ?_⟩
  have i : tD X.K X.mg R W (fEqO alts cs n fa fb) σ H fun x H' => ∃ k, x = .bl k ∧ Q k H' := tst_ok (t := tD X.K X.mg R W (fEqO alts cs n fa fb)) (fun σ H Q h => h) h
  obtain ⟨C, Fn, hmem, q⟩ := eqO_ok hT hne hcs i
  exact (pt_cmpR (ho C Fn hmem) ha hb hm).run pins s σ H Q I q
end

/-! ### -x, x ** y -/
def negD : Dat → Option Dat
  | .int i => some (.int (-i))
  | _ => none
def fUn (op : Dat → Option Dat) (f : EM) : EM := fun ρ μ => (f ρ μ).bind fun x μ1 => match vw x μ1 with
  | some d => ofO (op d) μ1
  | none => .bad
section
variable {X : Cx} {R : Ent} {W : WX}
theorem de_neg {a : Expr} {f : EM} {pos : Pos} (h : PE X a (tD X.K X.mg R W f)) : PE X (.UnaryOp .USub a pos) (tD X.K X.mg R W (fUn negD f)) := by
  refine pe_imp (pe_un un_neg h) fun σ H Q ⟨ρ, μ, ι, F, I, q⟩ => ⟨ρ, μ, ι, F, I, q.bind.imp fun x μ1 q1 ι1 F1 H1 v I1 g1 r1 => ?_⟩
  cases e1 : vw x μ1 with
  | none => rw [e1] at q1; exact q1.elim
  | some d =>
    rw [e1] at q1
    obtain ⟨z, e2, q2⟩ := ofO_ok (α := Nat) q1
    cases d with
    | int i =>
      cases e2
      rw [rv_int (I1.view r1 e1)]
      exact ⟨i, rfl, q2 ι1 F1 H1 _ I1 g1 (.int _)⟩
    | _ => cases e2
end
def CPowB (i j : Int) : Prop := 0 ≤ j ∧ (Builtin.Int.intBits i : Int) * j ≤ 2 ^ 27
instance {i j : Int} : Decidable (CPowB i j) := by unfold CPowB; infer_instance
theorem op_powB {X : Cx} : OpR X (binaryOp .Pow) (rI CPowB fun i j => .int (i ^ j.toNat)) := opI fun _ _ _ _ _ _ _ hc q => pow_int hc.1 hc.2 q
def oPow : O2 := fun x y => match x, y with
  | .int i, .int j => if CPowB i j then some (.int (i ^ j.toNat)) else none
  | _, _ => none
theorem og_pow {K : PySem.W.Frag} : OpG K (rI CPowB fun i j => .int (i ^ j.toNat)) oPow := by
  intro F H v w x y d Q s rx ry e q
  dsimp only [oPow] at e
  split at e
  · split at e
    · rename_i h; cases e; exact ⟨_, _, rv_int rx, rv_int ry, h, q_int q⟩
    · cases e
  · cases e

/-! ### list(..) that will change -/
def fListL (fa : EM) : EM := fun ρ μ => (fa ρ μ).bind fun x μ1 => match vw x μ1 with
  | some d => (match listD [d] with
    | some (.lst xs) => .ok (.r μ1.length) (μ1 ++ [.lst xs])
    | _ => .bad)
  | none => .bad
section
variable {X : Cx} {R : Ent} {W : WX} {fa : EM} {e : Expr} {p pos : Pos}
theorem list_new {K : PySem.W.Frag} {F H : Hp} {v : V} {d : Dat} {xs : List Dat} {Q : VK} (r : Rv K F H v d) (e : listD [d] = some (.lst xs)) (q : ∀ p vs, H p = none → Rps K F vs xs → Q (.ref p) (upd H p (.lst vs))) : rListD2 K [v] H Q := by
  unfold listD at e
  split at e
  · rename_i h; cases h; cases e
    obtain ⟨a, us, rfl, s1, r1⟩ := rv_lst r
    exact .inl ⟨a, us, rfl, .inl (.inl (.inl s1)), fun p hp => q p us hp r1⟩
  · rename_i h; cases h; cases e
    obtain ⟨a, us, rfl, s1, r1⟩ := rv_tup r
    exact .inl ⟨a, us, rfl, .inr s1.2, fun p hp => q p us hp r1⟩
  · rename_i h; cases h; cases e
    obtain ⟨a, us, rfl, s1, r1⟩ := rv_dct r
    exact .inr ⟨a, us, rfl, s1, fun p hp => q p _ hp (rps_keys r1)⟩
  · cases e
theorem de_listL (hc : X.calm = true) (hm : X.mg "list" = none) (ha : PE X e (tD X.K X.mg R W fa)) (hg : Gl X "list" := by rfl) (he : starEach [e] X.env = (false, eval e X.env) :: starEach [] X.env := by rfl) (hpl : (backTo pos (starEach [] X.env)).any (·.1) = false := by rfl) :
    PE X (.Call (.Name "list" p) [e] [] pos) (tD X.K X.mg R W (fListL fa)) := by
  refine pe_imp (pe_callTy (call_listD2 hc) hg hm (by rfl) (pa_cons ha pa_nil he) (by decide) (by decide) he hpl) fun σ H Q ⟨ρ, μ, ι, F, I, q⟩ => ⟨ρ, μ, ι, F, I, q.bind.imp fun x μ1 q1 ι1 F1 H1 v I1 g1 r1 => ?_⟩
  cases e1 : vw x μ1 with
  | none => rw [e1] at q1; exact q1.elim
  | some d =>
    rw [e1] at q1
    have q1 : Pst _ _ (match listD [d] with
      | some (.lst xs) => Res.ok (SV.r μ1.length) (μ1 ++ [.lst xs])
      | _ => .bad) := q1
    cases e2 : listD [d] with
    | none => rw [e2] at q1; exact q1.elim
    | some z =>
      rw [e2] at q1
      cases z with
      | lst xs =>
        refine list_new (I1.view r1 e1) e2 fun p vs hp rr => ?_
        obtain ⟨J, gw⟩ := I1.new (x := .lst xs) hp (.lst vs) ⟨(I1.fresh hp).2.1, vs, upd_same, rr⟩
        exact q1 _ _ _ _ J (g1.trans gw) ⟨p, by rw [← I1.len]; exact get_last _ _, rfl⟩
      | _ => exact (show False from q1).elim
end
end DL

-- DL14
/-! DL14: name = [..], what is walked of a dict, dict(..) of pairs. -/
namespace DL
open PySem PySem.Spec PyProof.Rows L2

/-! ### name = [..] -/
section
variable {X : Cx} {R : Ent} {W : WX} {elt tg iter : Expr} {ifs : List Expr} {scope : Scope} {own : List (Str × Nat)} {pos spos : Pos} {it : IM} {g : GM} {tt : BM} {te : EM} {n i : Nat} {y : Str} {py : Pos}
theorem set_in {f : EM} {D : Ends} {σ : L2.St} {H : Hp} (hi : i < n) (h : tDS X.K X.mg R W n (sSet f (gN i)) D σ H) : σ.length = n ∧ tD X.K X.mg R W f σ H fun v H1 => D.nx (σ.set i (some v)) H1 := by
  obtain ⟨ρ, μ, ι, F, I, hl, q⟩ := h
  exact ⟨hl, ρ, μ, ι, F, I, (sE_ok hl q).imp fun x μ1 q1 ι1 F1 H1 v I1 g1 r1 => q1 ι1 F1 _ H1 (I1.slot (by rw [hl]; exact hi) r1) g1 (by rw [List.length_set]; exact hl)⟩
abbrev gE (K : PySem.W.Frag) (R : Ent) (n : Nat) (vs : List Nat) (g : GM) : TG := fun v σ H Q => ∃ R', R'.T = R.T ∧ tDG K R' n vs g v σ H Q
abbrev tE' (K : PySem.W.Frag) (mg : MG) (R : Ent) (tt : BM) : TT := fun σ H Q => ∃ R', R'.T = R.T ∧ tDT K mg R' noW tt σ H Q
abbrev eE (K : PySem.W.Frag) (mg : MG) (R : Ent) (te : EM) : TE := fun σ H Q => ∃ R', R'.T = R.T ∧ tD K mg R' noW te σ H Q
theorem lc_read {K : PySem.W.Frag} {mg : MG} {vs : List Nat} {σ : L2.St} {H : Hp} {Q : VK} (hl : σ.length = n) (h : tD K mg R W (fLc it g tt te vs) σ H Q) : tLc (tDI K mg R W it) (gE K R n vs g) (tE' K mg R tt) (eE K mg R te) vs σ H Q := by
  obtain ⟨ρ, μ, ι, F, J, q⟩ := h
  refine ⟨ρ, μ, ι, F, J, q.bind.imp fun xs μ1 q1 ι1 F1 H1 J' I1 g1 ok1 D hD => ?_⟩
  by_cases hz : xs.length ≤ sizeLine
  · rw [if_pos hz] at q1
    have q2 := pst_nx q1.bind
    rw [← I1.len] at q2
    refine lc_ok (W' := noW) hl I1 ok1 hD hz (fun _ _ h => h.elim) (fun ys μ' hG F2 H2 us I2 g2 hu hF hn hR r => ?_) q2
    obtain ⟨A, gA⟩ := I2.adopt rfl hF hn hR hu
    exact hG ι1 _ H2 _ A ((g1.trans g2).trans gA) (.lst upd_same (r.mono gA.le))
  · rw [if_neg hz] at q1; exact q1.elim
theorem lc_readL {K : PySem.W.Frag} {mg : MG} {vs : List Nat} {σ : L2.St} {H : Hp} {Q : VK} (hl : σ.length = n) (h : tD K mg R W (fLcL it g tt te vs) σ H Q) : tLc (tDI K mg R W it) (gE K R n vs g) (tE' K mg R tt) (eE K mg R te) vs σ H Q := by
  obtain ⟨ρ, μ, ι, F, J, q⟩ := h
  refine ⟨ρ, μ, ι, F, J, q.bind.imp fun xs μ1 q1 ι1 F1 H1 J' I1 g1 ok1 D hD => ?_⟩
  by_cases hz : xs.length ≤ sizeLine
  · rw [if_pos hz] at q1
    have q2 := pst_nx q1.bind
    rw [← I1.len] at q2
    refine lc_ok (W' := noW) hl I1 ok1 hD hz (fun _ _ h => h.elim) (fun ys μ' hG F2 H2 us I2 g2 hu hF hn hR r => ?_) q2
    obtain ⟨A, gA⟩ := I2.adoptL hF hn hR hu r
    exact hG _ _ H2 _ A ((g1.trans g2).trans gA) ⟨D, by rw [← I2.len]; exact get_last _ _, rfl⟩
  · rw [if_neg hz] at q1; exact q1.elim
section
variable (hc : X.calm = true) (hN : X.N.Nodup) (hy : X.N[i]? = some y) (hyl : X.env.scope.names.lookup y = some .local) (hi' : i < X.N.length)
    (hsw : swapsWith (.ListComp elt [⟨tg, iter, ifs, 0⟩] scope pos) (some (.Name y py)) spos.line X.env = pure true) (hi : PI X tg iter (tDI X.K X.mg R W it)) (ok : BlkOk X.N X.env.scope scope own)
    (hg : ∀ (R' : Ent) (s : Shared) (H : Hp) (C : Addr) (cl : List (Str × Addr)) (fp : List Addr), R'.T = R.T → PG (bk X scope s H C cl fp) tg (tDG X.K R' X.N.length (own.map (·.2)) g))
    (ht : ∀ (R' : Ent) (s : Shared) (H : Hp) (C : Addr) (cl : List (Str × Addr)) (fp : List Addr), R'.T = R.T → PTs (bk X scope s H C cl fp) ifs (tDT X.K X.mg R' noW tt))
    (he : ∀ (R' : Ent) (s : Shared) (H : Hp) (C : Addr) (cl : List (Str × Addr)) (fp : List Addr), R'.T = R.T → PE (bk X scope s H C cl fp) elt (tD X.K X.mg R' noW te)) (hs : ∀ x, foldedSetIterable iter X.env x = pure x)
include hc hN hy hyl hi' hsw hi ok hg ht he hs
theorem ds_setLc : PS X (.Assign [.Name y py] (.ListComp elt [⟨tg, iter, ifs, 0⟩] scope pos) spos) (tDS X.K X.mg R W X.N.length (sSet (fLc it g tt te (own.map (·.2))) (gN i))) := by
  refine ps_imp (ps_setLc (g := gE X.K R X.N.length (own.map (·.2)) g) (tt := tE' X.K X.mg R tt) (te := eE X.K X.mg R te) hc hN hy hyl hsw hi ok
    (fun s H C cl fp => ⟨fun pins s' σ H' v u Q I r ⟨R', hT, h⟩ => (hg R' s H C cl fp hT).run pins s' σ H' v u Q I r h⟩)
    (fun s H C cl fp => ⟨fun pins s' σ H' Q I ⟨R', hT, h⟩ => (ht R' s H C cl fp hT).run pins s' σ H' Q I h⟩)
    (fun s H C cl fp => ⟨fun pins s' σ H' Q I ⟨R', hT, h⟩ => (he R' s H C cl fp hT).run pins s' σ H' Q I h⟩) hs) fun D σ H h => ?_
  obtain ⟨hl, h⟩ := set_in hi' h
  exact lc_read hl h
theorem ds_setLcL : PS X (.Assign [.Name y py] (.ListComp elt [⟨tg, iter, ifs, 0⟩] scope pos) spos) (tDS X.K X.mg R W X.N.length (sSet (fLcL it g tt te (own.map (·.2))) (gN i))) := by
  refine ps_imp (ps_setLc (g := gE X.K R X.N.length (own.map (·.2)) g) (tt := tE' X.K X.mg R tt) (te := eE X.K X.mg R te) hc hN hy hyl hsw hi ok
    (fun s H C cl fp => ⟨fun pins s' σ H' v u Q I r ⟨R', hT, h⟩ => (hg R' s H C cl fp hT).run pins s' σ H' v u Q I r h⟩)
    (fun s H C cl fp => ⟨fun pins s' σ H' Q I ⟨R', hT, h⟩ => (ht R' s H C cl fp hT).run pins s' σ H' Q I h⟩)
    (fun s H C cl fp => ⟨fun pins s' σ H' Q I ⟨R', hT, h⟩ => (he R' s H C cl fp hT).run pins s' σ H' Q I h⟩) hs) fun D σ H h => ?_
  obtain ⟨hl, h⟩ := set_in hi' h
  exact lc_readL hl h
end
end

/-! ### [.. for k in d], [.. for v in d.values()]: d a local name; the dict is locked while it is walked -/
section
variable {K : PySem.W.Frag} {mg : MG} {R : Ent} {ρ : En} {μ : Mu} {ι : List Addr} {F H : Hp} {σ : L2.St} {d : Addr} {ks : List (Key × V)} {od : Obj}
theorem lw_lock (h : F d = some (.dK ks)) : Lw F (upd F d (.frz od (.dK ks))) := by
  refine ⟨fun a u r => ?_, fun a u r => ?_, fun a vs e => ?_, fun a u r => ?_, fun a C dx fs e => ?_⟩
  · have q : a ≠ d := fun z => by
      subst z
      rcases r with r | ⟨o, r⟩ <;> (rw [h] at r; cases r)
    rcases r with r | ⟨o, r⟩
    · exact .inl (by rw [upd_ne q]; exact r)
    · exact .inr ⟨o, by rw [upd_ne q]; exact r⟩
  · by_cases q : a = d
    · subst q
      rcases r with r | ⟨o, r⟩
      · rw [h] at r; cases r; exact .inr ⟨od, upd_same⟩
      · rw [h] at r; cases r
    · rcases r with r | ⟨o, r⟩
      · exact .inl (by rw [upd_ne q]; exact r)
      · exact .inr ⟨o, by rw [upd_ne q]; exact r⟩
  · rw [upd_ne (fun q => by rw [q, h] at e; cases e)]; exact e
  · have q : a ≠ d := fun z => by
      subst z
      rcases r with r | ⟨o, r⟩ <;> (rw [h] at r; cases r)
    rcases r with r | ⟨o, r⟩
    · exact .inl (by rw [upd_ne q]; exact r)
    · exact .inr ⟨o, by rw [upd_ne q]; exact r⟩
  · rw [upd_ne (fun q => by rw [q, h] at e; cases e)]; exact e
theorem lw_unlock (h : F d = some (.frz od (.dK ks))) : Lw F (upd F d (.dK ks)) := by
  refine ⟨fun a u r => ?_, fun a u r => ?_, fun a vs e => ?_, fun a u r => ?_, fun a C dx fs e => ?_⟩
  · have q : a ≠ d := fun z => by
      subst z
      rcases r with r | ⟨o, r⟩ <;> (rw [h] at r; cases r)
    rcases r with r | ⟨o, r⟩
    · exact .inl (by rw [upd_ne q]; exact r)
    · exact .inr ⟨o, by rw [upd_ne q]; exact r⟩
  · by_cases q : a = d
    · subst q
      rcases r with r | ⟨o, r⟩
      · rw [h] at r; cases r
      · rw [h] at r; cases r; exact .inl upd_same
    · rcases r with r | ⟨o, r⟩
      · exact .inl (by rw [upd_ne q]; exact r)
      · exact .inr ⟨o, by rw [upd_ne q]; exact r⟩
  · rw [upd_ne (fun q => by rw [q, h] at e; cases e)]; exact e
  · have q : a ≠ d := fun z => by
      subst z
      rcases r with r | ⟨o, r⟩ <;> (rw [h] at r; cases r)
    rcases r with r | ⟨o, r⟩
    · exact .inl (by rw [upd_ne q]; exact r)
    · exact .inr ⟨o, by rw [upd_ne q]; exact r⟩
  · rw [upd_ne (fun q => by rw [q, h] at e; cases e)]; exact e
theorem Rsv.lw {v : V} {x : SV} {F' : Hp} (h : Rsv K F ι v x) (l : Lw F F') : Rsv K F' ι v x := by
  cases x with
  | d x => exact Rp.lw l x v h
  | r k => exact h
theorem OOk.lw {F' H' : Hp} {a : Addr} {o : Ob} (h : OOk K F H a o) (l : Lw F F') (hF : F a = none → F' a = none) (hH : ∀ u, H a = some u → F a = none → H' a = some u) (hD : ∀ u, H a = some u → isT u = false → ∃ u', H' a = some u' ∧ isT u' = false) : OOk K F' H' a o := by
  cases o with
  | lst xs => obtain ⟨f, vs, e, r⟩ := h; exact ⟨hF f, vs, hH _ e f, Rps.lw l _ _ r⟩
  | lk xs => obtain ⟨f, vs, e, r⟩ := h; exact ⟨hF f, vs, hH _ e f, Rps.lw l _ _ r⟩
  | dct xs => obtain ⟨f, vs, e, r⟩ := h; exact ⟨hF f, vs, hH _ e f, Rkv.lw l _ _ r⟩
  | ins C fs => obtain ⟨f, dx, vs, e, r⟩ := h; exact ⟨hF f, dx, vs, hH _ e f, Rfs.lw l _ _ r⟩
  | dead => obtain ⟨o, e, t⟩ := h; exact hD o e t
theorem DI.lock (I : DI K R ρ μ ι F σ H) (h : F d = some (.dK ks)) (od : Obj) : DI K ⟨upd H d (.frz od (.dK ks)), upd F d (.frz od (.dK ks)), ι, R.T⟩ ⟨ρ.sl, ι.length⟩ μ ι (upd F d (.frz od (.dK ks))) σ (upd H d (.frz od (.dK ks))) := by
  have hH := I.sub _ _ h
  have l := lw_lock (od := od) h
  refine ⟨fun a o e => ?_, rfl, fun i x e => ?_, I.len, fun k a o e1 e2 => ?_, I.nd, ⟨fun a o e _ _ => e, tabs_upd I.fr.tb hH rfl⟩, Le.refl _, fun a e => .inl e, ⟨[], by simp, by simp⟩, fun a o e => ?_⟩
  · by_cases q : a = d
    · subst q; rw [upd_same] at e ⊢; exact e
    · rw [upd_ne q] at e ⊢; exact I.sub a o e
  · obtain ⟨v, e1, r⟩ := I.sl i x e
    exact ⟨v, e1, r.lw l⟩
  · refine (I.ob k a o e1 e2).lw l (fun f => ?_) (fun u e f => ?_) fun u e t => ?_
    · rw [upd_ne (fun z => by rw [z, h] at f; cases f)]; exact f
    · rw [upd_ne (fun z => by rw [z, h] at f; cases f)]; exact e
    · by_cases q : a = d
      · subst q; exact ⟨_, upd_same, rfl⟩
      · exact ⟨u, by rw [upd_ne q]; exact e, t⟩
  · by_cases q : a = d
    · subst q; rw [upd_same] at e; cases e; rfl
    · rw [upd_ne q] at e; exact I.ft a o e
theorem DI.unlock {ρ' : En} {μ' : Mu} {F2 H2 : Hp} {σ2 : L2.St} (I : DI K R ρ μ ι F σ H) (h : F d = some (.dK ks)) (J : DI K ⟨upd H d (.frz od (.dK ks)), upd F d (.frz od (.dK ks)), ι, R.T⟩ ρ' μ' ι F2 σ2 H2) :
    DI K R ρ μ' ι (upd F2 d (.dK ks)) σ (upd H2 d (.dK ks)) ∧ Gw ι F ι (upd F2 d (.dK ks)) ∧ Lw F2 (upd F2 d (.dK ks)) ∧ H2 d = some (.frz od (.dK ks)) := by
  have hH := I.sub _ _ h
  have f2 : F2 d = some (.frz od (.dK ks)) := J.F0.h _ _ upd_same
  have h2 : H2 d = some (.frz od (.dK ks)) := J.sub _ _ f2
  have l := lw_unlock (od := od) f2
  have le : Le F (upd F2 d (.dK ks)) := .of fun a o e => by
    by_cases q : a = d
    · subst q; rw [upd_same, ← h]; exact e
    · rw [upd_ne q]; exact J.F0.h _ _ (by show (upd F d _) a = some o; rw [upd_ne q]; exact e)
  refine ⟨⟨fun a o e => ?_, I.nn, fun i x e => ?_, J.len, fun k a o e1 e2 => ?_, I.nd, ⟨fun a o e n t => ?_, tabs_upd J.fr.tb h2 rfl⟩, I.F0.trans le, fun a e => ?_, I.ι0, fun a o e => ?_⟩, ⟨le, fun _ _ e => e⟩, l, h2⟩
  · by_cases q : a = d
    · subst q; rw [upd_same] at e ⊢; exact e
    · rw [upd_ne q] at e ⊢; exact J.sub a o e
  · obtain ⟨v, e1, r⟩ := I.sl i x e
    exact ⟨v, e1, r.mono ⟨le, fun _ _ e => e⟩⟩
  · refine (J.ob k a o e1 e2).lw l (fun f => ?_) (fun u e f => ?_) fun u e t => ?_
    · rw [upd_ne (fun z => by rw [z, f2] at f; cases f)]; exact f
    · rw [upd_ne (fun z => by rw [z, f2] at f; cases f)]; exact e
    · by_cases q : a = d
      · subst q; exact ⟨_, upd_same, rfl⟩
      · exact ⟨u, by rw [upd_ne q]; exact e, t⟩
  · have z := I.fr.keep a o e n t
    by_cases q : a = d
    · subst q; rw [upd_same]; rw [hH] at z; exact z
    · rw [upd_ne q]
      refine J.fr.keep a o (by show (upd H d _) a = some o; rw [upd_ne q]; exact z) (fun w => ?_) t
      obtain ⟨m, e', hm⟩ := I.ι0
      have w : a ∈ ι := w
      rw [e'] at w
      rcases List.mem_append.mp w with w | w
      · exact n w
      · have y := hm a w o e
        rw [t] at y; cases y
  · by_cases q : a = d
    · subst q; exact I.Fn a (by rw [h]; exact fun z => nomatch z)
    · rw [upd_ne q] at e
      rcases J.Fn a e with z | z
      · exact I.Fn a (by have z : (upd F d _) a ≠ none := z; rw [upd_ne q] at z; exact z)
      · have z : Nn ((upd H d (.frz od (.dK ks))) a) := z
        rw [upd_ne q] at z
        exact .inr (I.freshN z).2.2
  · by_cases q : a = d
    · subst q; rw [upd_same] at e; cases e; rfl
    · rw [upd_ne q] at e; exact J.ft a o e
end
/-- J walks sel of the dict -/
def WalkOk (K : PySem.W.Frag) (J : Addr → Obj → List (Key × V) → It) (sel : List (Key × Dat) → List Dat) : Prop :=
  ∀ (d : Addr) (o : Obj) (ks : List (Key × V)) (kvs : List (Key × Dat)) (ι0 : List Addr) (F0 : Hp), F0 d = some (.frz o (.dK ks)) → Rkv K F0 ks kvs → ItOk K (J d o ks) ι0 F0 (sel kvs)
theorem walk_keys {K : PySem.W.Frag} : WalkOk K Itk keyDs := by
  intro d o ks kvs ι0 F0 h r R ρ μ ι F σ H I g i
  have hH : H d = some (.frz o (.dK ks)) := I.sub _ _ (g.le.h _ _ h)
  refine ⟨fun z e => ?_, fun hi => ⟨hH, by rw [r.length]; simpa [keyDs] using hi⟩⟩
  unfold keyDs at e
  rw [List.getElem?_map] at e
  cases e2 : kvs[i]? with
  | none => rw [e2] at e; cases e
  | some p =>
    rw [e2] at e; cases e
    have hi : i < kvs.length := (List.getElem?_eq_some_iff.mp e2).1
    refine ⟨⟨hH, by rw [r.length]; exact hi⟩, fun x H' ⟨eH, k, v, e3, ex⟩ => ?_⟩
    subst eH ex
    have e4 : (ks.map (·.1))[i]? = (kvs.map (·.1))[i]? := by rw [r.keys]
    rw [List.getElem?_map, List.getElem?_map, e2, e3] at e4
    have e5 : k = p.1 := by simpa using e4
    rw [e5]
    exact ⟨F, I, Gw.refl, fun _ _ q => q, rp_key _⟩
def valDs (kvs : List (Key × Dat)) : List Dat := kvs.map fun kv => kv.2
theorem Rkv.at {K : PySem.W.Frag} {F : Hp} {vs : List (Key × V)} {ds : List (Key × Dat)} (r : Rkv K F vs ds) : ∀ {i : Nat} {k : Key} {v : V} {p : Key × Dat}, vs[i]? = some (k, v) → ds[i]? = some p → Rp K F v p.2 := by
  induction ds generalizing vs with
  | nil => intro i k v p e1 e2; simp at e2
  | cons q ds ih =>
    intro i k v p e1 e2
    cases r with
    | cons a b =>
      cases i with
      | zero =>
        simp at e1 e2
        obtain ⟨rfl, rfl⟩ := e1
        subst e2
        exact a
      | succ i => exact ih b (by simpa using e1) (by simpa using e2)
theorem walk_vals {K : PySem.W.Frag} : WalkOk K Itd valDs := by
  intro d o ks kvs ι0 F0 h r R ρ μ ι F σ H I g i
  have hH : H d = some (.frz o (.dK ks)) := I.sub _ _ (g.le.h _ _ h)
  refine ⟨fun z e => ?_, fun hi => ⟨hH, by rw [r.length]; simpa [valDs] using hi⟩⟩
  unfold valDs at e
  rw [List.getElem?_map] at e
  cases e2 : kvs[i]? with
  | none => rw [e2] at e; cases e
  | some p =>
    rw [e2] at e; cases e
    have hi : i < kvs.length := (List.getElem?_eq_some_iff.mp e2).1
    refine ⟨⟨hH, by rw [r.length]; exact hi⟩, fun x H' ⟨eH, k, e3⟩ => ?_⟩
    subst eH
    exact ⟨F, I, Gw.refl, fun _ _ q => q, (r.at e3 e2).mono g.le⟩
/-- the comprehension over the dict in slot i; nothing is raised inside -/
def fLcK (sel : List (Key × Dat) → List Dat) (i : Nat) (g : GM) (tt : BM) (te : EM) (vs : List Nat) : EM := fun ρ μ => match ρ.sl[i]? with
  | some (some (.d (.dct kvs))) => if (sel kvs).length ≤ sizeLine then (lcGo g tt te (wipeE ρ.sl vs) μ.length (sel kvs) μ).nx.bind fun ys μ2 => .ok (.d (.lst ys)) μ2 else .bad
  | _ => .bad
section
variable {X : Cx} {R : Ent} {W : WX} {elt tg iter : Expr} {ifs : List Expr} {scope : Scope} {own : List (Str × Nat)} {pos : Pos} {g : GM} {tt : BM} {te : EM} {i : Nat}
theorem de_lcK {J : Addr → Obj → List (Key × V) → It} {sel : List (Key × Dat) → List Dat} (wk : WalkOk X.K J sel) (hc : X.calm = true) (hN : X.N.Nodup)
    (hi : PI X tg iter fun σ H Q => ∃ d o ks, σ[i]? = some (some (.ref d)) ∧ H d = some (.frz o (.dK ks)) ∧ Q (J d o ks) H) (ok : BlkOk X.N X.env.scope scope own)
    (hg : ∀ (R' : Ent) (s : Shared) (H : Hp) (C : Addr) (cl : List (Str × Addr)) (fp : List Addr), R'.T = R.T → PG (bk X scope s H C cl fp) tg (tDG X.K R' X.N.length (own.map (·.2)) g))
    (ht : ∀ (R' : Ent) (s : Shared) (H : Hp) (C : Addr) (cl : List (Str × Addr)) (fp : List Addr), R'.T = R.T → PTs (bk X scope s H C cl fp) ifs (tDT X.K X.mg R' noW tt))
    (he : ∀ (R' : Ent) (s : Shared) (H : Hp) (C : Addr) (cl : List (Str × Addr)) (fp : List Addr), R'.T = R.T → PE (bk X scope s H C cl fp) elt (tD X.K X.mg R' noW te)) (hs : ∀ x, foldedSetIterable iter X.env x = pure x := by intro _; rfl) :
    PE X (.ListComp elt [⟨tg, iter, ifs, 0⟩] scope pos) (tD X.K X.mg R W (fLcK sel i g tt te (own.map (·.2)))) := by
  have base := pe_lc (pos := pos) (elt := elt) (ifs := ifs) (scope := scope) (g := gE X.K R X.N.length (own.map (·.2)) g) (tt := tE' X.K X.mg R tt) (te := eE X.K X.mg R te) hc hN hi ok
    (fun s H C cl fp => ⟨fun pins s' σ H' v u Q I r ⟨R', hT, h⟩ => (hg R' s H C cl fp hT).run pins s' σ H' v u Q I r h⟩)
    (fun s H C cl fp => ⟨fun pins s' σ H' Q I ⟨R', hT, h⟩ => (ht R' s H C cl fp hT).run pins s' σ H' Q I h⟩)
    (fun s H C cl fp => ⟨fun pins s' σ H' Q I ⟨R', hT, h⟩ => (he R' s H C cl fp hT).run pins s' σ H' Q I h⟩) hs
  refine ⟨fun pins s σ H Q Iv ⟨ρ, μ, ι, F, I, q⟩ => ?_⟩
  unfold fLcK at q
  cases e1 : ρ.sl[i]? with
  | none => rw [e1] at q; exact q.elim
  | some o =>
    cases o with
    | none => rw [e1] at q; exact q.elim
    | some x =>
      cases x with
      | r k => rw [e1] at q; exact q.elim
      | d x =>
        cases x with
        | dct kvs =>
          rw [e1] at q
          have q : Pst _ _ (if (sel kvs).length ≤ sizeLine then (lcGo g tt te (wipeE ρ.sl (own.map (·.2))) μ.length (sel kvs) μ).nx.bind fun ys μ2 => Res.ok (SV.d (.lst ys)) μ2 else .bad) := q
          by_cases hz : (sel kvs).length ≤ sizeLine
          · rw [if_pos hz] at q
            have q2 := pst_nx q.bind
            rw [← I.len] at q2
            obtain ⟨v, e2, rv⟩ := I.sl i _ e1
            cases rv with
            | @dct d ks _ hF rr =>
              rcases hF with hF | ⟨o, hF⟩
              · -- locked
                refine (pe_lock base).run pins s σ H Q Iv ⟨d, .dK ks, I.sub _ _ hF, trivial, fun od => ?_⟩
                have L := I.lock hF od
                have rr' : Rkv X.K (upd F d (.frz od (.dK ks))) ks kvs := Rkv.lw (lw_lock hF) _ _ rr
                refine ⟨d, od, ks, e2, upd_same, fun D hD => ?_⟩
                refine lc_ok (mg := X.mg) (Q := fun v H' => H' d = some (.frz od (.dK ks)) ∧ Q v (upd H' d (.dK ks))) (R := ⟨upd H d (.frz od (.dK ks)), upd F d (.frz od (.dK ks)), ι, R.T⟩) (W' := noW) Iv.len L (wk d od ks kvs ι _ upd_same rr') hD hz (fun _ _ h => h.elim) (fun ys μ' hG F2 H2 us I2 g2 hu hF2 hn hR r => ?_) q2
                obtain ⟨A, gA⟩ := I2.adopt rfl hF2 hn hR hu
                obtain ⟨U, gU, lU, hd⟩ := I.unlock hF A
                refine ⟨hd, hG ι _ _ _ U gU (.lst ?_ (Rps.lw lU _ _ (r.mono gA.le)))⟩
                have ne : D ≠ d := fun z => by rw [z, hd] at hu; cases hu
                rw [upd_ne ne, upd_same]
              · refine base.run pins s σ H Q Iv ⟨d, o, ks, e2, I.sub _ _ hF, fun D hD => ?_⟩
                refine lc_ok (W' := noW) Iv.len I (wk d o ks kvs ι F hF rr) hD hz (fun _ _ h => h.elim) (fun ys μ' hG F2 H2 us I2 g2 hu hF2 hn hR r => ?_) q2
                obtain ⟨A, gA⟩ := I2.adopt rfl hF2 hn hR hu
                exact hG ι _ H2 _ A (g2.trans gA) (.lst upd_same (r.mono gA.le))
          · rw [if_neg hz] at q; exact q.elim
        | _ => rw [e1] at q; exact q.elim
theorem pi_lkeys {x : Str} {p : Pos} (h : PE X (.Name x p) (tVar i)) : PI X tg (.Name x p) fun σ H Q => ∃ d o ks, σ[i]? = some (some (.ref d)) ∧ H d = some (.frz o (.dK ks)) ∧ Q (Itk d o ks) H :=
  ⟨fun pins s σ H R I ⟨d, o, ks, e, hH, q⟩ => (pi_keys h).run pins s σ H R I ⟨_, e, d, o, rfl, .inl ⟨ks, hH, q⟩⟩⟩
theorem pi_lvals {x : Str} {p apos cpos : Pos} (h : PE X (.Name x p) (tVar i)) (hbase : attributeBase (.Name x p) "values" X.env (eval (.Name x p) X.env) = eval (.Name x p) X.env := by rfl) (hline : (apos.endLine == cpos.line) = true := by rfl) :
    PI X tg (.Call (.Attribute (.Name x p) "values" apos) [] [] cpos) fun σ H Q => ∃ d o ks, σ[i]? = some (some (.ref d)) ∧ H d = some (.frz o (.dK ks)) ∧ Q (Itd d o ks) H :=
  ⟨fun pins s σ H R I ⟨d, o, ks, e, hH, q⟩ => (pi_values h hbase hline).run pins s σ H R I ⟨_, e, d, o, ks, rfl, hH, q⟩⟩
end
end DL

-- DL15
/-! DL15: a lambda handed to a reading def: try: return [call()] / except X: return []. -/
namespace DL
open PySem PySem.Spec PyProof.Rows L2 LamX

theorem isT_ne {o : HO} (h : isT o = false) : ∀ ps, o ≠ .tbl ps := fun ps z => by rw [z] at h; cases h
theorem OOk.ext {K : PySem.W.Frag} {F H H' : Hp} {a : Addr} {o : Ob} (h : OOk K F H a o) (e : ∀ u, H a = some u → isT u = false → H' a = some u) : OOk K F H' a o := by
  cases o with
  | lst xs => obtain ⟨f, vs, q, r⟩ := h; exact ⟨f, vs, e _ q rfl, r⟩
  | lk xs => obtain ⟨f, vs, q, r⟩ := h; exact ⟨f, vs, e _ q rfl, r⟩
  | dct xs => obtain ⟨f, vs, q, r⟩ := h; exact ⟨f, vs, e _ q rfl, r⟩
  | ins C fs => obtain ⟨f, dx, vs, q, r⟩ := h; exact ⟨f, dx, vs, e _ q rfl, r⟩
  | dead => obtain ⟨o, q, t⟩ := h; exact ⟨o, e _ q t, t⟩
theorem DI.grow {K : PySem.W.Frag} {R : Ent} {ρ : En} {μ : Mu} {ι : List Addr} {F H H1 : Hp} {σ : L2.St} (I : DI K R ρ μ ι F σ H) (e : ExtN H H1) (t : Tabs R.T H1) : DI K R ρ μ ι F σ H1 :=
  ⟨fun a o q => e a o (I.sub a o q) (isT_ne (I.ft a o q)), I.nn, I.sl, I.len, fun k a o h1 h2 => (I.ob k a o h1 h2).ext fun u q z => e a u q (isT_ne z), I.nd, ⟨fun a o q n z => e a o (I.fr.keep a o q n z) (isT_ne z), t⟩, I.F0, I.Fn, I.ι0, I.ft⟩

/-- what the def makes of the lambda's reading -/
def TRead (K : PySem.W.Frag) (CS : Addr) : (XK → Hp → VK → Prop) → Hp → VK → Prop := fun tl H Q =>
  tl (fun cls _ H' => PySem.W.exmOne K cls (.ref CS) = some true ∧ ∀ p, H' p = none → Q (.ref p) (upd H' p (.lst []))) H fun v H' => ∀ p, H' p = none → Q (.ref p) (upd H' p (.lst [v]))
theorem read_gives {X : Cx} {Ng : List Str} {x a e q : Str} {sg : Scope} {g CS : Addr} {cdg : Value} {p1 p2 p3 p4 p5 p6 p7 p8 p9 : Pos} (hge : sg.names.lookup e = some .globalImplicit) (hme : X.mg e = some (.ref CS)) (hde : (e == ("__debug__" : Str)) = false) (h0 : ∀ f : Addr, (L2.start Ng [V.ref f])[0]? = some (some (V.ref f))) :
    GivesTo X Ng x sg g cdg [.Try [.Return (some (.List [.Call (.Name a p1) [] [] p2] p9)) p3] [.ExceptHandler (some (.Name e p4)) none [.Return (some (.List [] p5)) p6] p7] [] [] p8] a q (TRead X.K CS) := by
  intro f c' s H Q tl act hc h
  have hgl : Gl (cxOf C8.CX0 X.prog X.w X.K X.mg X.base Ng x sg g cdg X.A X.stack s H C8.E0).nox e := hge
  refine ⟨_, pss_one (ps_try_only (X := (cxOf C8.CX0 X.prog X.w X.K X.mg X.base Ng x sg g cdg X.A X.stack s H C8.E0).nox) (c := .ref CS)
      (tb := fun W D σ H => ∃ Ech : XK, (∀ cls d σ' H', Ech cls d H' → W cls d σ' H') ∧ σ[0]? = some (some (.ref f)) ∧ H c' = some (CodeO c' q) ∧ tl Ech H fun v H' => ∀ p, H' p = none → D.rt (.ref p) (upd H' p (.lst [v])))
      rfl rfl ⟨hgl, hde, .inl hme⟩ LamX.takes0 (fun W pn xe tk _ => ?_) (fun a oe cls d pn _ _ => pss_one (ps_ret (pe_lst pa_nil)))), ?_⟩
  · refine ⟨fun pins s' σ H' D I h' => ?_⟩
    obtain ⟨Ech, hW, h1, h2, h3⟩ := h'
    have hp := act W pn xe Ech p1 p2 tk hW
    have hq := pss_one (ps_ret (pos := p3) (pe_lst (pos := p9) (pa_cons hp pa_nil)))
    refine hq.run pins s' σ H' D I ⟨h1, h2, ?_⟩
    have one : ([] : List V).length + 1 ≤ sizeLine := by show 1 ≤ sizeLine; rw [sizeLine_eq]; omega
    have imp : (fun v H' => ∀ p, H' p = none → D.rt (.ref p) (upd H' p (.lst [v]))) = fun v H' => [v].length ≤ sizeLine ∧ ∀ p, H' p = none → D.rt (.ref p) (upd H' p (.lst [v])) := by
      funext v H'
      exact propext ⟨fun z => ⟨one, z⟩, fun z => z.2⟩
    show tl Ech H' fun v H' => [v].length ≤ sizeLine ∧ ∀ p, H' p = none → D.rt (.ref p) (upd H' p (.lst [v]))
    rw [← imp]
    exact h3
  · exact ⟨fun cls _ H' => PySem.W.exmOne X.K cls (.ref CS) = some true ∧ ∀ p, H' p = none → Q (.ref p) (upd H' p (.lst [])), fun cls d σ' H' ⟨e1, e2⟩ => ⟨true, e1, fun _ a _ => ⟨Nat.zero_le _, e2⟩, fun z => nomatch z⟩, h0 f, hc, h⟩
def fRead (nm : String) (f : EM) : EM := fun ρ μ => match f ⟨ρ.sl, μ.length⟩ μ with
  | .ok x μ1 => (match asD ⟨ρ.sl, μ.length⟩ x μ1 with
    | some (d, μ2) => .ok (.d (.lst [d])) (μ2.take μ.length)
    | none => .bad)
  | .ex e μ1 => if e = nm then .ok (.d (.lst [])) (μ1.take μ.length) else .bad
  | .bad => .bad
theorem read_ok {K : PySem.W.Frag} {mg : MG} {R : Ent} {W : WX} {CS : Addr} {nm : String} {f : EM} {σ : L2.St} {H : Hp} {Q : VK} (hme : mg (Str.ofString nm) = some (.ref CS)) (hte : PySem.W.exmOne K (.ref CS) (.ref CS) = some true) (h : tD K mg R W (fRead nm f) σ H Q) :
    tLam R.T (TRead K CS) (fun E σ H Q => ∃ R', R'.T = R.T ∧ tD K mg R' (fun cls d _ H => E cls d H) f σ H Q) σ H Q := by
  obtain ⟨ρ, μ, ι, F, I, q⟩ := h
  refine ⟨I.fr.tb, fun H1 e t => ?_⟩
  have I1 := I.grow e t
  have I2 := I1.here
  rw [I1.len] at I2
  refine ⟨⟨H1, F, ι, R.T⟩, rfl, ⟨ρ.sl, μ.length⟩, μ, ι, F, I2, ?_⟩
  unfold fRead at q
  have back : ∀ {ρ' : En} {μ' : Mu} {ι' : List Addr} {F' : Hp} {σ' : L2.St} {H' : Hp}, DI K ⟨H1, F, ι, R.T⟩ ρ' μ' ι' F' σ' H' → DI K R ρ (μ'.take μ.length) ι F' σ H' ∧ Le F F' := fun {ρ' μ' ι' F' σ' H'} J => by
    obtain ⟨T, eT⟩ := J.trunc
    have nn : ρ'.n = ι.length := J.nn
    rw [nn, I.len] at T eT
    have eT : ι'.take μ.length = ι := eT
    rw [eT] at T
    exact ⟨I1.after T, J.F0⟩
  cases e1 : f ⟨ρ.sl, μ.length⟩ μ with
  | bad => rw [e1] at q; exact q
  | ex nm' μ1 =>
    rw [e1] at q
    have q : Pst _ _ (if nm' = nm then Res.ok (SV.d (.lst [])) (μ1.take μ.length) else .bad) := q
    intro ι' F' H' cls hc J
    by_cases hn : nm' = nm
    · rw [if_pos hn] at q
      rw [hn, hme] at hc
      cases hc
      refine ⟨hte, fun p hp => ?_⟩
      obtain ⟨A, l⟩ := back J
      obtain ⟨B, g⟩ := A.alloc hp (.lst []) rfl
      exact q ι _ _ _ B ⟨l.trans g.le, fun _ _ h => h⟩ (.lst upd_same .nil)
    · rw [if_neg hn] at q; exact q.elim
  | ok x μ1 =>
    rw [e1] at q
    have q : Pst _ _ (match asD ⟨ρ.sl, μ.length⟩ x μ1 with
      | some (d, μ2) => Res.ok (SV.d (.lst [d])) (μ2.take μ.length)
      | none => .bad) := q
    intro ι' F' H' v J _ r p hp
    cases e2 : asD ⟨ρ.sl, μ.length⟩ x μ1 with
    | none => rw [e2] at q; exact q.elim
    | some z =>
      obtain ⟨d, μ2⟩ := z
      rw [e2] at q
      obtain ⟨F2, J2, _, r2⟩ := J.frz r e2
      obtain ⟨A, l⟩ := back J2
      obtain ⟨B, g⟩ := A.alloc hp (.lst [v]) rfl
      exact q ι _ _ _ B ⟨l.trans g.le, fun _ _ h => h⟩ (.lst upd_same (.cons (r2.mono g.le) .nil))
/-- x(lambda: body), x such a def -/
theorem de_read {X : Cx} {R : Ent} {W : WX} {nm : String} {f : EM} {T : List (Addr × Str)} {x a e : Str} {g c P CS : Addr} {k : Nat} {pg : Arguments} {sg : Scope} {fd : FuncData} {Ng : List Str}
    {params : Arguments} {body : Expr} {scope : Scope} {p lpos pos : Pos} {p1 p2 p3 p4 p5 p6 p7 p8 p9 : Pos} {bd : List Stmt} (hT : R.T = T) (hm : X.mg x = some (.ref g))
    (F : FunD X.K x x pg bd sg [] [] g fd) (hbd : bd = [.Try [.Return (some (.List [.Call (.Name a p1) [] [] p2] p9)) p3] [.ExceptHandler (some (.Name e p4)) none [.Return (some (.List [] p5)) p6] p7] [] [] p8]) (hb : L2.Binds X.K fd [a] []) (Sg : FnScope Ng [a] sg) (hNg : Ng[0]? = some a) (hva : Vis sg a)
    (hge : sg.names.lookup e = some .globalImplicit) (hme : X.mg e = some (.ref CS)) (hne : e = Str.ofString nm) (hte : PySem.W.exmOne X.K (.ref CS) (.ref CS) = some true)
    (TB : TabB X.base X.mg c P) (hcode : X.env.code = .ref c) (hmT : (P, X.env.qual ++ "<lambda>") ∈ T) (hu : ∀ p ∈ T, p.1 = P → p.2 = X.env.qual ++ "<lambda>") (hr : Room (k + 2) X.A) (L : LamS X.env.scope scope) (hdef : defaultsOf params X.env = ([], []))
    (hbind : ∀ (q : Str) (cl : List (Str × Addr)) (pm cv ctv : Value), bindArgs (PySem.W.kla_fn "<lambda>" q params body scope cl pm cv ctv) ⟨[], []⟩ = pure [])
    (hbody : ∀ (A : Around) (outer : List Env) (s : Shared) (H : Hp) (E : XK) (f' c' : Addr) (R' : Ent), R'.T = T → Room k (A.deeper (lamEnv X scope s.heap.objs.size f' c')) → Takes (lamCx X A outer s H E scope f' c') (fun cls d _ H => E cls d H) → PE (lamCx X A outer s H E scope f' c') body (tD X.K X.mg R' (fun cls d _ H => E cls d H) f))
    (hg : Gl X x := by rfl) (hdb : (x == ("__debug__" : Str)) = false := by decide) (hd : (a == ("__debug__" : Str)) = false := by decide) (hcd : (a == ("__classdict__" : Str)) = false := by decide) (hde : (e == ("__debug__" : Str)) = false := by decide) :
    PE X (.Call (.Name x p) [.Lambda params body scope lpos] [] pos) (tD X.K X.mg R W (fRead nm f)) := by
  subst hT hbd
  obtain ⟨oc, od, dV, kV, doc, pm, an, cdv, ct, osl, rfl, lk, hcd2, hD, hK⟩ := F.ex
  have h0 : ∀ f : Addr, (L2.start Ng [V.ref f])[0]? = some (some (V.ref f)) := fun f => rfl
  refine pe_imp (pe_lamcall (T := R.T) (TT := TRead X.K CS) (t := fun E σ H Q => ∃ R', R'.T = R.T ∧ tD X.K X.mg R' (fun cls d _ H => E cls d H) f σ H Q) hg hm F.kp lk hcd2 hb Sg hNg hva (read_gives hge hme hde h0) TB hcode hmT hu hr L hdef hbind
    (fun A outer s H E f' c' hr' => ⟨fun pins s' σ H' Q I ⟨R', hT', h⟩ => (hbody A outer s H E f' c' R' hT' hr' (takes_of rfl rfl rfl rfl)).run pins s' σ H' Q I h⟩) hdb hd hcd) fun σ H Q h => ?_
  exact read_ok (by rw [← hne]; exact hme) hte h
end DL

-- DL16
/-! DL16: short words for printed walks; dict(..) of pairs. -/
namespace DL
open PySem PySem.Spec PyProof.Rows L2

/-- a constant of the module -/
def Gcon (K : PySem.W.Frag) (mg : MG) (x : Str) (d : Dat) : Prop := ∃ v u, mg x = some u ∧ RelV v u ∧ ∀ F : Hp, Rp K F v d
section
variable {X : Cx} {R : Ent} {W : WX}
theorem de_gl {x : Str} {d : Dat} {pos : Pos} (h : Gcon X.K X.mg x d) (hg : Gl X x := by rfl) (hd : (x == ("__debug__" : Str)) = false := by decide) : PE X (.Name x pos) (tD X.K X.mg R W (fC d)) := by
  obtain ⟨v, u, e, r, rp⟩ := h
  exact de_c (pe_glob hg e r hd) rp
theorem tk_no : TkE X noW := fun σ pins H s e s' I c => by
  obtain ⟨_, _, _, _, _, _, _, _, _, _, _, _, z⟩ := c
  exact z.elim
theorem huD {k : Nat} {A : Around} (hr : Room k A) : A.units + 64 < cLine := hr.units
theorem de_chain2 {op op' : CmpOp} {r r' : R2} {f f' : O2} {a b c : Expr} {fa fb fc : EM} {pos : Pos} (ho : OpR X (compareOp op) r) (ho' : OpR X (compareOp op') r') (hg : OpG X.K r f) (hg' : OpG X.K r' f')
    (ha : PE X a (tD X.K X.mg R W fa)) (hb : PE X b (tD X.K X.mg R W fb)) (hc : PE X c (tD X.K X.mg R W fc)) (hm : lastMarks [op, op'] [b, c] = false := by with_unfolding_all rfl) :
    PE X (.Compare a [op, op'] [b, c] pos) (tD X.K X.mg R W (fCh f f' fa fb fc)) := de_chain ho ho' hg hg' ha hb hc (pe_chain ho ho' ha hb hc hm)
theorem dt_chain2 {op op' : CmpOp} {r r' : R2} {f f' : O2} {a b c : Expr} {fa fb fc : EM} {pos : Pos} (ho : OpR X (compareOp op) r) (ho' : OpR X (compareOp op') r') (hg : OpG X.K r f) (hg' : OpG X.K r' f')
    (ha : PE X a (tD X.K X.mg R W fa)) (hb : PE X b (tD X.K X.mg R W fb)) (hc : PE X c (tD X.K X.mg R W fc)) (hm : lastMarks [op, op'] [b, c] = false := by with_unfolding_all rfl) :
    PT X (.Compare a [op, op'] [b, c] pos) (tDT X.K X.mg R W (fB (fCh f f' fa fb fc))) := dt_chain hg hg' (pt_chain ho ho' ha hb hc hm)
theorem dg_tp {es : List Expr} {k m n : Nat} {pos : Pos} {vs : List Nat} {h : GsM} (hc : X.calm = true) (hs : PGs X es (tDGs X.K R n vs h)) (hn : (assignEach es X.env).length = m := by rfl) (hst : (assignEach es X.env).findIdx? (·.1) = none := by rfl) :
    PG X (.Tuple es k pos) (tDG X.K R n vs (gT m h)) := dg_tup hc hs (pg_tup hc hs hn hst) (pg_lst hc hs hn hst)
end
def oAddI : O2 := fun x y => match x, y with
  | .int i, .int j => some (.int (i + j))
  | _, _ => none
theorem og_addI {K : PySem.W.Frag} : OpG K (ipI fun i j => i + j) oAddI := by
  intro F H v w x y d Q s rx ry e q
  dsimp only [oAddI] at e
  split at e
  · cases e; exact ⟨_, _, rv_int rx, rv_int ry, q_int q⟩
  · cases e

/-! ### dict(xs), xs a list of pairs -/
def pairsD : List Dat → Option (List (Key × Dat))
  | [] => some []
  | .tup [k, v] :: r => match datKey k, pairsD r with
    | some k, some ps => some ((k, v) :: ps)
    | _, _ => none
  | _ :: _ => none
def dictPD : FD := fun ds => match ds with
  | [.lst xs] => (pairsD xs).map fun ps => .dct (mergeD [] ps)
  | _ => none
theorem pairs_ok {K : PySem.W.Frag} {F H : Hp} (s : ∀ a o, F a = some o → H a = some o) : ∀ {xs : List Dat} {vs : List V} {prs : List (Key × Dat)}, Rps K F vs xs → pairsD xs = some prs →
    ∃ (ps : List Addr) (kvs : List (Key × V)), vs = ps.map V.ref ∧ Paired (fun p kv => SqT K H p [kV kv.1, kv.2]) ps kvs ∧ Rkv K F kvs prs
  | [], _, _, r, e => by
    cases r; cases e
    exact ⟨[], [], rfl, .nil, .nil⟩
  | x :: xs, _, prs, r, e => by
    cases r with
    | @cons v vs d ds a b =>
      unfold pairsD at e
      split at e
      · rename_i h
        cases h
      · rename_i h
        cases h
        split at e
        · rename_i k' ps' hk hp
          cases e
          obtain ⟨qs, kvs, e1, p1, r1⟩ := pairs_ok s b hp
          cases a with
          | @tup p us _ sq rr =>
            cases rr with
            | cons a1 rr =>
              cases rr with
              | cons a2 rr =>
                cases rr
                have ek := key_of (H := H) hk (Rp.view s a1)
                subst ek
                exact ⟨p :: qs, (k', _) :: kvs, by rw [e1]; rfl, .cons (sq.imp (rd_sub s) id) p1, .cons a2 r1⟩
        · cases e
      · cases e
theorem cg_dictP {K : PySem.W.Frag} : CallG K (fun xs H Q => ∃ (a : Addr) (ps : List Addr) (kvs : List (Key × V)), xs = [.ref a] ∧ SqL K H a (ps.map V.ref) ∧ Paired (fun p kv => SqT K H p [kV kv.1, kv.2]) ps kvs ∧
    ∀ p, H p = none → Q (.ref p) (upd H p (.dK (mergeK [] kvs)))) dictPD := by
  intro F H vs ds d Q s r e q
  unfold dictPD at e
  split at e
  · rename_i xs
    cases h : pairsD xs with
    | none => rw [h] at e; cases e
    | some prs =>
      rw [h] at e; cases e
      obtain ⟨v, rfl, rv⟩ := rvs1 r
      obtain ⟨a, us, rfl, s1, r1⟩ := rv_lst rv
      obtain ⟨ps, kvs, e1, p1, r2⟩ := pairs_ok s r1 h
      subst e1
      exact ⟨a, ps, kvs, rfl, .inl (.inl s1), p1, fun p hp => q_dct s (Rkv.merge .nil r2) q hp⟩
  · cases e

section
variable {M : Addr → FnM → Prop} {C c1 c2 c3 : Addr} {Fn f1 f2 f3 : FnM}
theorem alt3 (h : (C, Fn) ∈ [(c1, f1), (c2, f2), (c3, f3)]) : (C = c1 ∧ Fn = f1) ∨ (C = c2 ∧ Fn = f2) ∨ (C = c3 ∧ Fn = f3) := by
  simpa using h
theorem mem1 (h : (C, Fn) ∈ [(c1, f1)]) (a : M c1 f1) : M C Fn := by
  rcases List.mem_cons.mp h with e | e
  · cases e; exact a
  · cases e
theorem mem2 (h : (C, Fn) ∈ [(c1, f1), (c2, f2)]) (a : M c1 f1) (b : M c2 f2) : M C Fn := by
  rcases List.mem_cons.mp h with e | e
  · cases e; exact a
  · exact mem1 e b
theorem mem3 (h : (C, Fn) ∈ [(c1, f1), (c2, f2), (c3, f3)]) (a : M c1 f1) (b : M c2 f2) (c : M c3 f3) : M C Fn := by
  rcases List.mem_cons.mp h with e | e
  · cases e; exact a
  · exact mem2 e b c
end
end DL

-- DL17
/-! DL17: a dict's display of texts; repr of frozen data; functions that may call repr. -/
namespace DL
open PySem PySem.Spec PyProof.Rows L2

/-! ### {'a': 'b', 'c': 'd'} -/
def dsp2 (a b c d : Str) : Dat := .dct (mergeD [] [(.inr a, .str b), (.inr c, .str d)])
theorem de_disp2 {X : Cx} {R : Ent} {W : WX} {a b c d : Str} {i j k l : Nat} {p1 p2 p3 p4 pos : Pos} :
    PE X (.Dict [some (.Constant (.str a) i p1), some (.Constant (.str c) j p2)] [.Constant (.str b) k p3, .Constant (.str d) l p4] pos) (tD X.K X.mg R W (fC (dsp2 a b c d))) := by
  refine pe_imp (pe_disp (pps_cons pe_str pe_str (pps_cons pe_str pe_str pps_nil)) rfl rfl nofun (by show 2 ≤ 15; decide)) fun σ H Q ⟨ρ, μ, ι, F, I, q⟩ => ?_
  intro p hp
  refine ⟨upd_same, [(.inr a, .str b), (.inr c, .str d)], rfl, by show 2 ≤ 15; decide, ?_⟩
  rw [upd_upd]
  obtain ⟨J, g⟩ := I.alloc hp (.dK (mergeK [] [(.inr a, V.str b), (.inr c, V.str d)])) rfl
  refine q ι _ _ _ J g ?_
  exact Rp.dct (.inl upd_same) (Rkv.merge .nil (.cons (.str b) (.cons (.str d) .nil)))

/-! ### repr -/
def keyP : Key → PyData
  | .inl i => .int i
  | .inr x => .str x
mutual
/-- data that repr shows, as the library writes data: tuples of atoms and of dicts of texts, at any depth -/
def pyR : Dat → Option PyData
  | .non => some .none
  | .bl b => some (.bool b)
  | .int i => if i.natAbs.log2 < 1920 then some (.int i) else none
  | .str x => some (.str x)
  | .tup xs => match pyRs xs with
    | some ys => some (.tuple ys)
    | none => none
  | .lst _ => none
  | .dct kvs => match pyRk kvs with
    | some ys => some (.dict ys)
    | none => none
  | .ins _ _ => none
  | .ob _ => none
  | .scr _ => none
def pyRs : List Dat → Option (List PyData)
  | [] => some []
  | d :: ds => match pyR d, pyRs ds with
    | some x, some xs => some (x :: xs)
    | _, _ => none
def pyRk : List (Key × Dat) → Option (List (PyData × PyData))
  | [] => some []
  | (k, d) :: ds => match k, pyR d, pyRk ds with
    | .inr z, some x, some xs => some ((.str z, x) :: xs)
    | _, _, _ => none
end
section
variable {X : Cx} {pins : List (Addr × Obj)} {σ : L2.St} {H F : Hp} {s : Shared}
theorem keyIs_str_of {z : Str} {v : Value} (h : keyIs (.inr z) v = true) : ∃ t, v = .str z t := by
  rcases keyIs_shape h with ⟨i, t, e, _⟩ | ⟨x, t, e, rfl⟩
  · cases e
  · cases e; exact ⟨t, rfl⟩
mutual
theorem rdR (I : Inv X pins σ H s) (hs : ∀ a o, F a = some o → H a = some o) : ∀ (d : Dat) (v : V) (u : Value) (y : PyData), Rp X.K F v d → RelV v u → pyR d = some y → ∃ as, Reads s.heap u y as ∧ sysModules ∉ as ∧ y.showable = true
  | .non, v, u, y, r, ru, e => by
    cases r; cases e; cases ru
    exact ⟨_, .none, by simp, rfl⟩
  | .bl b, v, u, y, r, ru, e => by
    cases r; cases e; cases ru
    exact ⟨_, .bool b, by simp, rfl⟩
  | .int i, v, u, y, r, ru, e => by
    cases r
    obtain ⟨t, rfl⟩ := ru
    unfold pyR at e
    split at e
    · rename_i h; cases e
      exact ⟨_, .int i t, by simp, by simpa [PyData.showable] using h⟩
    · cases e
  | .str x, v, u, y, r, ru, e => by
    cases r; cases e
    obtain ⟨t, rfl⟩ := ru
    exact ⟨_, .str x t, by simp, rfl⟩
  | .tup ds, v, u, y, r, ru, e => by
    unfold pyR at e
    split at e
    · rename_i ys h; cases e
      cases r with
      | tup sq rr =>
        cases ru
        obtain ⟨its, rv, ⟨o, ho, hc, n, hd⟩, _⟩ := I.tuple (sq.imp (rd_sub hs) id)
        obtain ⟨as, q1, q2, q3⟩ := rdRs I hs ds _ its ys rr rv h
        exact ⟨_, .tuple ho hc hd q1, q2, q3⟩
    · cases e
  | .lst ds, v, u, y, r, ru, e => by cases e
  | .dct ds, v, u, y, r, ru, e => by
    unfold pyR at e
    split at e
    · rename_i ys h; cases e
      cases r with
      | dct sq rr =>
        cases ru
        obtain ⟨_, hm, vs, kv, o, es, ep, ho, hx, hd, _, hp, _⟩ := dk_rd I.hok (rd_sub hs sq)
        obtain ⟨as, bs, q1, q2, q3, q4⟩ := rdRk I hs ds _ vs es.toList ys rr kv hp h
        refine ⟨_, .dict ho hx.1 hd q1 q2, ?_, q4⟩
        intro hmem
        simp only [List.cons_append, List.mem_cons, List.mem_append] at hmem
        rcases hmem with e1 | e1
        · subst e1; simp at hm
        · exact q3 (by simpa using e1)
    · cases e
  | .ins _ _, v, u, y, r, ru, e => by cases e
  | .ob _, v, u, y, r, ru, e => by cases e
  | .scr _, v, u, y, r, ru, e => by cases e
theorem rdRs (I : Inv X pins σ H s) (hs : ∀ a o, F a = some o → H a = some o) : ∀ (ds : List Dat) (vs : List V) (us : List Value) (ys : List PyData), Rps X.K F vs ds → Vals vs us → pyRs ds = some ys → ∃ as, ReadsAll s.heap us ys as ∧ sysModules ∉ as ∧ PyData.showableAll ys = true
  | [], vs, us, ys, r, ru, e => by
    cases r; cases ru; cases e
    exact ⟨_, .nil, by simp, rfl⟩
  | d :: ds, vs, us, ys, r, ru, e => by
    unfold pyRs at e
    split at e
    · rename_i x xs h1 h2; cases e
      cases r with
      | cons a b =>
        cases ru with
        | cons ra rb =>
          obtain ⟨as, p1, p2, p3⟩ := rdR I hs d _ _ x a ra h1
          obtain ⟨bs, q1, q2, q3⟩ := rdRs I hs ds _ _ xs b rb h2
          refine ⟨_, .cons p1 q1, ?_, ?_⟩
          · intro hm
            rcases List.mem_append.mp hm with h | h
            · exact p2 h
            · exact q2 h
          · show (_ && _) = true
            rw [p3, q3]; rfl
    · cases e
theorem rdRk (I : Inv X pins σ H s) (hs : ∀ a o, F a = some o → H a = some o) : ∀ (ds : List (Key × Dat)) (kvs : List (Key × V)) (vs : List (Key × Value)) (es : List DictEntry) (ys : List (PyData × PyData)), Rkv X.K F kvs ds → KV kvs vs → Pairs (mixKind X.prog X.w) es vs → pyRk ds = some ys →
    ∃ as bs, ReadsAll s.heap (es.map (·.key)) (ys.map (·.1)) as ∧ ReadsAll s.heap (es.map (·.val)) (ys.map (·.2)) bs ∧ sysModules ∉ as ++ bs ∧ PyData.showableKv ys = true
  | [], kvs, vs, es, ys, r, kv, hp, e => by
    cases r; cases kv; cases hp; cases e
    exact ⟨_, _, .nil, .nil, by simp, rfl⟩
  | (k, d) :: ds, kvs, vs, es, ys, r, kv, hp, e => by
    unfold pyRk at e
    split at e
    · rename_i z x xs h1 h2; cases e
      cases r with
      | cons a b =>
        cases kv with
        | cons ka kb =>
          cases hp with
          | cons g1 g2 g3 =>
            obtain ⟨as, p1, p2, p3⟩ := rdR I hs d _ _ x a ka.2 h1
            obtain ⟨bs, cs, q1, q2, q3, q4⟩ := rdRk I hs ds _ _ _ xs b kb g3 h2
            have ek := ka.1
            rw [← ek] at g1
            obtain ⟨t, et⟩ := keyIs_str_of g1
            refine ⟨[] ++ bs, as ++ cs, ?_, ?_, ?_, ?_⟩
            · rw [List.map_cons, et]; exact ReadsAll.cons (Reads.str z t) q1
            · rw [List.map_cons, g2]; exact ReadsAll.cons p1 q2
            · intro hm
              simp only [List.nil_append, List.mem_append] at hm q3
              rcases hm with h | h | h
              · exact q3 (.inl h)
              · exact p2 h
              · exact q3 (.inr h)
            · show (_ && _ && _) = true
              rw [p3, q4]; rfl
    · cases e
end
/-- the text that repr gives -/
def shwD : Dat → Option Str
  | .str x => if (PySem.reprText x).length ≤ sizeLine then some (PySem.reprText x) else none
  | .int i => if i.natAbs.log2 < 1920 then some (toString i) else none
  | .tup xs => match pyR (.tup xs) with
    | some y => if y.shown.length ≤ sizeLine ∧ y.depth ≤ 100 then some y.shown else none
    | none => none
  | _ => none
def reprD : FD := fun ds => match ds with
  | [d] => (shwD d).map .str
  | _ => none
def rRepr (K : PySem.W.Frag) : List V → Hp → VK → Prop := fun xs H Q => ∃ F v d x, xs = [v] ∧ (∀ a o, F a = some o → H a = some o) ∧ Rp K F v d ∧ shwD d = some x ∧ Q (.str x) H
theorem call_reprD (hg : X.A.guards = some []) (hu : X.A.units + 200 < cLine) : CallR X (.builtin "repr") (rRepr X.K) := by
  intro pins s σ H xs us Q I r h
  obtain ⟨F, v, d, x, rfl, hs, rp, e, q⟩ := h
  obtain ⟨u, rfl, ru⟩ := vals1 r
  cases d with
  | str y =>
    have e : (if (PySem.reprText y).length ≤ sizeLine then some (PySem.reprText y) else none) = some x := e
    split at e
    · rename_i hz; have e := Option.some.inj e; subst e
      cases rp
      obtain ⟨t, rfl⟩ := ru
      exact PySem.P.repr_of_str ⟨.str _, H, I.tok _, ⟨_, rfl⟩, q⟩ hz
    · cases e
  | int i =>
    have e : (if i.natAbs.log2 < 1920 then some (toString i : Str) else none) = some x := e
    split at e
    · rename_i hz; have e := Option.some.inj e; subst e
      cases rp
      obtain ⟨t, rfl⟩ := ru
      exact PySem.P.repr_of_int hz ⟨.str _, H, I.tok _, ⟨_, rfl⟩, q⟩
    · cases e
  | tup ds =>
    have e : (match pyR (.tup ds) with | some y => if y.shown.length ≤ sizeLine ∧ y.depth ≤ 100 then some y.shown else none | none => none) = some x := e
    split at e
    · rename_i y h
      split at e
      · rename_i hz; have e := Option.some.inj e; subst e
        obtain ⟨as, q1, q2, q3⟩ := rdR I hs _ v u y rp ru h
        cases rp with
        | tup sq rr =>
          cases ru
          refine repr_of_reads' q1 q3 (fun _ => q2) hg (by omega) (fun _ _ h => h) (fun h' u tk hk => ?_) hz.1
          exact ⟨.str _, H, I.kept hk, ⟨_, rfl⟩, q⟩
      · cases e
    · cases e
  | _ => cases e
theorem cg_repr {K : PySem.W.Frag} : CallG K (rRepr K) reprD := by
  intro F H vs ds d Q hs r e q
  unfold reprD at e
  split at e
  · rename_i d0
    obtain ⟨v, rfl, rv⟩ := rvs1 r
    cases h : shwD d0 with
    | none => rw [h] at e; cases e
    | some x =>
      rw [h] at e; cases e
      refine ⟨F, v, d0, x, rfl, hs, ?_, h, q_str q⟩
      cases d0 with
      | str y => rw [rv_str rv]; exact .str y
      | int y => rw [rv_int rv]; exact .int y
      | tup y => obtain ⟨a, us, rfl, s1, r1⟩ := rv_tup rv; exact .tup s1.1 r1
      | _ => cases h
  · cases e
end
end DL

-- DL18
/-! DL18: functions that stand only where no repr is under way (they call repr). -/
namespace DL
open PySem PySem.Spec PyProof.Rows L2
/-- FnOk where no repr is under way -/
structure FnG (P : Program) (w : World) (K : PySem.W.Frag) (mg : MG) (base : Heap) (k : Nat) (f : Addr) (fd : FuncData) (ps : List Str) (sp : Sp) : Prop where
  len : ∀ vs H Q E, sp vs H Q E → vs.length = ps.length
  run : ∀ (A : Around) (outer : List Env) (s : Shared) (H : Hp) (args : Args) (us : List Value) (vs : List V) (Q : VK) (E : XK), A.guards = some [] → Room k A → Env0 P w K mg base A outer s H → BindsTo s fd args (ps.zip us) → Vals vs us → sp vs H Q E →
    codeAny (model P w) A (.call (.ref f) args) (CR (L2.CX P w) outer P w H s Q E) s
section
variable {P : Program} {w : World} {K : PySem.W.Frag} {mg : MG} {base : Heap}
theorem fnG_of {k : Nat} {f : Addr} {name qual : Str} {params : Arguments} {body : List Stmt} {scope : Scope} {dV kV doc pm cdv ct oc : Value} {an od : Option Addr} {osl : Array (Option Value)} {N ps : List Str} {sp : Sp}
    (lk : K.lookup f = some ⟨oc, od, .func (PySem.W.fnOf name qual params body scope dV kV doc pm an cdv ct), osl⟩) (hcd : PySem.W.codeIn K cdv qual = true) (S : FnScope N ps scope) (len : ∀ vs H Q E, sp vs H Q E → vs.length = ps.length)
    (hb : ∀ (A : Around) (outer : List Env) (s : Shared) (H : Hp) (vs : List V) (Q : VK) (E : XK), A.guards = some [] → Room k (A.deeper (envOfC qual scope s.heap.objs.size f cdv)) → sp vs H Q E →
      ∃ t, PSs (cxOf (L2.CX P w) P w K mg base N qual scope f cdv A outer s H E) body t ∧ t { nx := fun _ H' => Q .non H', rt := Q } (start N vs) H) :
    FnG P w K mg base (k + 1) f (PySem.W.fnOf name qual params body scope dV kV doc pm an cdv ct) ps sp := by
  refine ⟨len, fun A outer s H args us vs Q E hg hr e0 hbd r hsp => ?_⟩
  have n1 : us.length = ps.length := by rw [← r.length]; exact len _ _ _ _ hsp
  have stays : ∀ b o, base.get? b = some o → s.heap.get? b = some o := fun b o e => (e0.bs b o e).1
  have kin : K.In s.heap := e0.mod.kin.keeps stays
  have bound : ∀ y ∈ ps.zip us, scope.names.lookup y.1 = some .local ∨ (scope.names.lookup y.1 = some .cell ∧ ((cellsFrom (s.heap.objs.size + 1) scope.names []).lookup y.1).isSome = true) := fun y hy =>
    (S.par y.1 (List.of_mem_zip (a := y.1) (b := y.2) hy).1).imp id fun q => ⟨q, PySem.W.cellsFrom_some _ _ _ (.inl q)⟩
  obtain ⟨t, ht, hq⟩ := hb A outer s H vs Q E hg (hr.deeper _) hsp
  refine codeAny_call_function hr.depth (kin _ _ lk) rfl S.co S.gen rfl (PySem.W.codeRec_of kin hcd) (hbd _ _ _ _ (wpAny_newFunctionEnv_cells S.kind bound fun env he s1 x => ?_))
  subst he
  refine ⟨(e0.mod.nolimit.keeps stays).keeps x.toInCall.keep, codeAny_func (wpAny_mono (ht.run [] s1 (start N vs) H _ (inv_start S hr.hd e0 (len _ _ _ _ hsp) r x) hq) (fun fl s' hs => ?_) fun _ _ hs => hs)⟩
  cases fl with
  | ret u => exact let ⟨v, _, H', J, rv, q⟩ := hs; ⟨v, H', J.os, J.bare, J.base, J.hok, rv, q⟩
  | next => exact let ⟨_, H', J, q⟩ := hs; ⟨V.non, H', J.os, J.bare, J.base, J.hok, rfl, q⟩
  | brk => exact let ⟨_, _, _, q⟩ := hs; q.elim
  | cont => exact let ⟨_, _, _, q⟩ := hs; q.elim
theorem fnDG {T : List (Addr × Str)} {x qual : Str} {pa : Arguments} {bd : List Stmt} {sc : Scope} {kws : List (Str × V)} {f : Addr} {fd : FuncData} {N ps : List Str} {k : Nat} {g : SM} (live : Bool) (F : FunD K x qual pa bd sc [] kws f fd) (S : FnScope N ps sc)
    (hb : ∀ (cdv : Value) (_ : fd.code = cdv) (A : Around) (outer : List Env) (s : Shared) (H : Hp) (E : XK) (R : Ent) (W : WX), (A.deeper (envOfC qual sc s.heap.objs.size f cdv)).guards = some [] → R.T = T → Room k (A.deeper (envOfC qual sc s.heap.objs.size f cdv)) → Takes (cxOf (L2.CX P w) P w K mg base N qual sc f cdv A outer s H E) W →
      PSs (cxOf (L2.CX P w) P w K mg base N qual sc f cdv A outer s H E) bd (tDS K mg R W N.length g)) : FnG P w K mg base (k + 1) f fd ps (spD K mg T ps.length (Fdef live N.length g)) := by
  obtain ⟨oc, od, dV, kV, doc, pm, an, cdv, ct, osl, rfl, lk, hcd, _, _⟩ := F.ex
  exact fnG_of lk hcd S (fun vs H Q E h => h.1) (fun A outer s H vs Q E hg hr h => body_ok S (fun R W hT tk => hb cdv rfl A outer s H E R W hg hT hr tk) h)
end
/-! ### calls -/
section
variable {X : Cx} {R : Ent} {W : WX} {k n : Nat} {f : Addr} {fd : FuncData} {ps : List Str} {Fn : FnM} {fa : AM} {x : Str} {p pos : Pos} {e : Expr} {es : List Expr}
theorem run_fnG {sp : Sp} {E : L2.St → XK} {pins : List (Addr × Obj)} {σ : L2.St} {H : Hp} {s : Shared} {Q : VK} {us : List Value} {vs : List V} (F : FnG X.prog X.w X.K X.mg X.base k f fd ps sp) (hg : X.A.guards = some []) (hr : Room k X.A) (hb : Binds X.K fd ps []) (hx : PassesAt (L2.CX X.prog X.w) X σ (E σ))
    (I : Inv X pins σ H s) (r : Vals vs us) (h : sp vs H Q (E σ)) : wpAny (model X.prog X.w) X.A (call (.ref f) us) (EP X pins σ Q) X.xe s := by
  have b := hb s us I.kIn (by rw [List.append_nil, ← r.length]; exact F.len _ _ _ _ h)
  rw [List.append_nil] at b
  refine wpAny_call (codeAny_mono (F.run X.A X.stack s H ⟨us, []⟩ us vs Q (E σ) hg hr I.env0 b r h) fun z s' hq => ?_)
  match z, hq with
  | .error e, hq => exact hx pins H s e s' I hq
  | .ok (.ret u), hq => exact I.after hq
  | .ok .next, hq => exact False.elim hq
  | .ok .brk, hq => exact False.elim hq
  | .ok .cont, hq => exact False.elim hq
theorem de_callG {T : List (Addr × Str)} (hT : R.T = T) (hgu : X.A.guards = some []) (Fo : FnG X.prog X.w X.K X.mg X.base k f fd ps (spD X.K X.mg T n Fn)) (tk : TkE X W) (hr : Room k X.A) (hm : X.mg x = some (.ref f)) (hk : PySem.W.keepIn X.K (.ref f) = true) (hb : Binds X.K fd ps [])
    (ha : PA X (e :: es) (tDA X.K X.mg R W fa)) (hg : Gl X x := by rfl) (hdb : (x == ("__debug__" : Str)) = false := by decide) (he : starEach (e :: es) X.env = (false, eval e X.env) :: starEach es X.env := by rfl) (hpl : (backTo pos (starEach es X.env)).any (·.1) = false := by rfl) :
    PE X (.Call (.Name x p) (e :: es) [] pos) (tD X.K X.mg R W (fCall n Fn fa)) := by
  subst hT
  refine ⟨fun pins s σ H Q I h => wpAny_Call_Name_kw (ld_glob I hg hm (PySem.W.callWith_K (h₀ := X.base) I.ok.mod.kin hk (thn (ha.run pos pins s σ H (fun vs H1 => spD X.K X.mg R.T n Fn vs H1 Q (WE W σ)) I ?_) fun us s1 ⟨vs, H1, I1, r, q⟩ => ⟨I1.kIn, run_fnG (E := WE W) Fo hgu hr hb (tk σ) I1 r q⟩) he hpl) hdb)⟩
  obtain ⟨ρ, μ, ι, F, I, q⟩ := h
  exact ⟨ρ, μ, ι, F, I, q.bind.imp fun xs μ1 q1 ι1 F1 H1 vs I1 g1 r1 =>
    sp_in I1 r1 (q1.imp fun x μ' q2 ι' F' H' v J g2 r2 => q2 ι' F' H' v J (g1.trans g2) r2)⟩
end
end DL

-- DL19
/-! DL19: != of two tuples of the same items, dicts of atoms among them. -/
namespace PySem.SeqAt
open AutoSeq1 (wpAny_loadPart')
open MeetsSeq MeetsSeq2 MeetsSeq3 SeqRoads2
section
variable {prog : Program} {w : World}
theorem dl_ne_same (l b : Addr) (xs ys : Array Value) (n m : Nat) (d1 d2 : Option Addr) (sl1 sl2 : Array (Option Value)) (hsz : xs.size = ys.size) :
    MeetsIn prog w (Builtin.«tuple.__ne__» ⟨[.ref l, .ref b], []⟩)
      (fun A R s => s.heap.get? l = some { cls := .type "tuple", dict := d1, data := .seq xs n, slots := sl1 } ∧ s.heap.get? b = some { cls := .type "tuple", dict := d2, data := .seq ys m, slots := sl2 } ∧
        (∀ j (h1 : j < xs.size) (h2 : j < ys.size), EqP prog w A.in1 s xs[j] ys[j] true) ∧ R (.ok (.ret (.bool false))) s) := by
  intro A R s h
  obtain ⟨hp, g, d, tk, os⟩ := s
  obtain ⟨hl, hb, he, h⟩ := h
  have f2 := AutoSeq1.sub_tuple_tuple
  have len : (xs.toList.zip ys.toList).length = xs.size := by simp [hsz]
  wp_walk using wpAny_loadPart' hl, wpAny_loadPart' hb, wpAny_forIn_list _ (fun rest acc s' => acc.1 = none ∧ s' = ⟨hp, g, d, tk, os⟩ ∧ ∃ i, rest = (xs.toList.zip ys.toList).drop i) _
  case turn =>
    rintro ⟨y, x⟩ rest acc s' ⟨ha, rfl, i, hz⟩
    have lt : i < (xs.toList.zip ys.toList).length := Nat.lt_of_not_le fun h' => by
      rw [List.drop_of_length_le h'] at hz; cases hz
    rw [List.drop_eq_getElem_cons lt] at hz
    obtain ⟨e1, e2⟩ := List.cons.inj hz
    have h1 : i < xs.size := by omega
    have h2 : i < ys.size := by omega
    have ey : y = xs[i] := by simpa using congrArg Prod.fst e1
    have ex : x = ys[i] := by simpa using congrArg Prod.snd e1
    subst ey ex
    refine wpAny_bind (he i h1 h2 _ _ ?_)
    wp_walk
    exact ⟨rfl, rfl, i + 1, e2⟩
  case fin =>
    rintro ⟨b1, b2⟩ s' ⟨ha, rfl, i, hz⟩
    simp only at ha
    subst ha
    wp_walk
    simpa [Builtin.Tuple.tupleCompareSizes, hsz] using h
  case h => exact ⟨rfl, rfl, 0, rfl⟩
theorem dl_rc_ne {A : Around} {s : Shared} {l b : Addr} {xs ys : Array Value} (hl : s.heap.IsTuple l xs) (hb : s.heap.IsTuple b ys) (hsz : xs.size = ys.size) (hu : A.units < cLine)
    (he : ∀ j (h1 : j < xs.size) (h2 : j < ys.size), EqP prog w A.in1 s xs[j] ys[j] true) (E Q : Value → Shared → Prop) (h : Q (.bool false) s) : wpAny (model prog w) A (richCompare .NotEq (.ref l) (.ref b)) Q E s := by
  obtain ⟨⟨c1, d1, da1, sl1⟩, ho1, hc1, n1, hd1⟩ := id hl
  obtain ⟨⟨c2, d2, da2, sl2⟩, ho2, hc2, n2, hd2⟩ := id hb
  simp only at hc1 hd1 hc2 hd2
  subst hc1 hd1 hc2 hd2
  have ta : s.TypeIs (.ref l) "tuple" := ⟨_, ho1, rfl⟩
  have tb : s.TypeIs (.ref b) "tuple" := ⟨_, ho2, rfl⟩
  exact wpAny_richCompare_same_room (op := .NotEq) ta tb F.slot_tuple_ne (call_meetsIn F.slot_tuple_ne ta F.entry_tuple_ne (F.args_tuple_ne_2 _ _) (dl_ne_same l b xs ys n1 n2 d1 d2 sl1 sl2 hsz)
    ⟨ho1, ho2, he, show Value.bool false ≠ Value.notImplemented ∧ Q (.bool false) s from ⟨(fun x => nomatch x), h⟩⟩) hu
end
end PySem.SeqAt
namespace DL
open PySem PySem.Spec PyProof.Rows L2
/-- the same atoms -/
def flEq : Dat → Dat → Bool
  | .non, .non => true
  | .bl a, .bl b => a == b
  | .int a, .int b => a == b
  | .str a, .str b => a == b
  | _, _ => false
def kvEq (a b : List (Key × Dat)) : Bool := decide (a.length = b.length) && a.all fun p => match valD b p.1 with
  | some z => flEq p.2 z
  | none => false
def itEq : Dat → Dat → Bool
  | .dct a, .dct b => kvEq a b
  | x, y => flEq x y
def itsEq : List Dat → List Dat → Bool
  | [], [] => true
  | x :: xs, y :: ys => itEq x y && itsEq xs ys
  | _, _ => false
/-- x != y of two tuples of the same items -/
def oNeT : O2 := fun x y => match x, y with
  | .tup xs, .tup ys => if itsEq xs ys = true then some (.bl false) else none
  | _, _ => none
def EqE (K : PySem.W.Frag) (H : Hp) (v u : V) : Prop := EqV K H 1 v u ∨ ∃ a b ks ls, v = .ref a ∧ u = .ref b ∧ Rd H a (.dK ks) ∧ Rd H b (.dK ls) ∧ ks.length = ls.length ∧ ∀ p ∈ ks, ∃ z, valV ls p.1 = some z ∧ EqV K H 1 p.2 z
def rNeT (K : PySem.W.Frag) : R2 := fun x y H Q => ∃ a b xs ys, x = .ref a ∧ y = .ref b ∧ SqT K H a xs ∧ SqT K H b ys ∧ Paired (EqE K H) xs ys ∧ Q (.bl false) H
section
variable {X : Cx} {K : PySem.W.Frag} {F H : Hp}
theorem eqE_run {pins : List (Addr × Obj)} {σ : L2.St} {s : Shared} (I : Inv X pins σ H s) {A : Around} (hu : A.units + 3 < cLine) (x y : V) (v u : Value) (h : EqE X.K H x y) (rx : RelV x v) (ry : RelV y u) : SeqAt.EqP X.prog X.w A s v u true := by
  rcases h with h | ⟨a, b, ks, ls, rfl, rfl, ha, hb, hl, hp⟩
  · exact eqV_run I 1 A (by omega) x y v u h rx ry
  · by_cases e : a = b
    · subst e
      exact eqV_run I 1 A (by omega) _ _ v u (.inr (.inl ⟨a, rfl, rfl⟩)) rx ry
    · cases (show v = Value.ref a from rx)
      cases (show u = Value.ref b from ry)
      obtain ⟨_, ya, va, ra, da⟩ := (show ObjOk X.prog X.w H s.heap a (.dK ks) from ha.ok I.hok)
      obtain ⟨_, yb, vb, rb, db⟩ := (show ObjOk X.prog X.w H s.heap b (.dK ls) from hb.ok I.hok)
      refine SeqAt.eqP_refs e fun E Q q => ?_
      refine PySem.W.rcP_dicts (knd := mixKind X.prog X.w) (r := true) ya yb da db (by omega) (fun _ => hits_run (fun x y v u f r1 r2 => eqV_run I 1 A.in1 (by show A.units + 1 + 1 < cLine; omega) x y v u f r1 r2) rb ra hp) E Q ?_
      rw [show (va.length == vb.length && true) = true from by rw [← ra.length, ← rb.length, hl]; simp]
      exact q
theorem op_neT (hu : X.A.units + 64 < cLine) : OpR X (compareOp .NotEq) (rNeT X.K) := by
  intro pins s σ H x y v u Q I rx ry h
  obtain ⟨a, b, xs, ys, rfl, rfl, ha, hb, hp, q⟩ := h
  cases (show v = Value.ref a from rx)
  cases (show u = Value.ref b from ry)
  obtain ⟨us, r1, p1, _⟩ := I.tuple ha
  obtain ⟨ws, r2, p2, _⟩ := I.tuple hb
  have hsz : us.toArray.size = ws.toArray.size := by
    rw [List.size_toArray, List.size_toArray, ← r1.length, ← r2.length]
    exact Paired.length hp
  refine SeqAt.dl_rc_ne p1 p2 hsz (by omega) (fun j h1 h2 => ?_) _ _ ⟨.bl false, H, I, rfl, q⟩
  have k := items_run (P := X.prog) (w := X.w) (A := X.A.in1) (s := s) (fun x y v u f rx ry => eqE_run I (by show X.A.units + 1 + 3 < cLine; omega) x y v u f rx ry) hp r1 r2 j (by simpa using h1) (by simpa using h2)
  simpa using k
theorem flEq_of {n : Nat} {d e : Dat} {v u : V} (rv : Rp K F v d) (ru : Rp K F u e) (h : flEq d e = true) : EqV K H (n + 1) v u := by
  cases d <;> cases e <;> first | (cases h; done) | skip
  · cases rv; cases ru; exact .inl ⟨rfl, rfl⟩
  · cases rv; cases ru; rw [eq_of_beq (show (_ == _) = true from h)]; exact .inl ⟨rfl, rfl⟩
  · cases rv; cases ru; rw [eq_of_beq (show (_ == _) = true from h)]; exact .inl ⟨rfl, rfl⟩
  · cases rv; cases ru; rw [eq_of_beq (show (_ == _) = true from h)]; exact .inl ⟨rfl, rfl⟩
theorem Rkv.len : ∀ {ks : List (Key × V)} {ds : List (Key × Dat)}, Rkv K F ks ds → ks.length = ds.length
  | _, [], r => by cases r; rfl
  | _, (k, d) :: ds, r => by cases r with | cons a b => rw [List.length_cons, List.length_cons, Rkv.len b]
theorem Rkv.mem : ∀ {ks : List (Key × V)} {ds : List (Key × Dat)}, Rkv K F ks ds → ∀ p ∈ ks, ∃ d, (p.1, d) ∈ ds ∧ Rp K F p.2 d
  | _, [], r, p, h => by cases r; cases h
  | _, (k, d) :: ds, r, p, h => by
    cases r with
    | cons a b =>
      rcases List.mem_cons.mp h with rfl | h
      · exact ⟨d, List.mem_cons_self .., a⟩
      · obtain ⟨e, m, q⟩ := Rkv.mem b p h
        exact ⟨e, List.mem_cons_of_mem _ m, q⟩
theorem kvEq_of {n : Nat} {a b : List (Key × Dat)} {ks ls : List (Key × V)} (ra : Rkv K F ks a) (rb : Rkv K F ls b) (h : kvEq a b = true) : ks.length = ls.length ∧ ∀ p ∈ ks, ∃ u, valV ls p.1 = some u ∧ EqV K H (n + 1) p.2 u := by
  unfold kvEq at h
  simp only [Bool.and_eq_true, decide_eq_true_eq, List.all_eq_true] at h
  refine ⟨by rw [Rkv.len ra, Rkv.len rb]; exact h.1, fun p hp => ?_⟩
  obtain ⟨d, m, r⟩ := Rkv.mem ra p hp
  have z := h.2 _ m
  simp only at z
  split at z
  · rename_i e ev
    obtain ⟨u, h1, h2⟩ := (Rkv.get rb (k := p.1)).1 e ev
    exact ⟨u, h1, flEq_of r h2 z⟩
  · cases z
theorem itEq_of (hs : ∀ a o, F a = some o → H a = some o) {d e : Dat} {v u : V} (rv : Rp K F v d) (ru : Rp K F u e) (h : itEq d e = true) : EqE K H v u := by
  unfold itEq at h
  split at h
  · rename_i a b
    cases rv with
    | dct s1 r1 =>
      cases ru with
      | dct s2 r2 =>
        obtain ⟨l, all⟩ := kvEq_of (H := H) (n := 0) r1 r2 h
        exact .inr ⟨_, _, _, _, rfl, rfl, rd_sub hs s1, rd_sub hs s2, l, all⟩
  · exact .inl (flEq_of rv ru h)
theorem itsEq_of (hs : ∀ a o, F a = some o → H a = some o) : ∀ {xs ys : List Dat} {vs us : List V}, Rps K F vs xs → Rps K F us ys → itsEq xs ys = true → Paired (EqE K H) vs us
  | [], [], _, _, r1, r2, _ => by cases r1; cases r2; exact .nil
  | x :: xs, y :: ys, _, _, r1, r2, h => by
    have h : (itEq x y && itsEq xs ys) = true := h
    rw [Bool.and_eq_true] at h
    cases r1 with
    | cons a b =>
      cases r2 with
      | cons c d => exact .cons (itEq_of hs a c h.1) (itsEq_of hs b d h.2)
  | [], _ :: _, _, _, _, _, h => by cases h
  | _ :: _, [], _, _, _, _, h => by cases h
theorem og_neT : OpG K (rNeT K) oNeT := by
  intro F H v w x y d Q s rx ry e q
  unfold oNeT at e
  split at e
  · rename_i xs ys
    split at e
    · rename_i h; cases e
      obtain ⟨a, vs, rfl, s1, r1⟩ := rv_tup rx
      obtain ⟨b, us, rfl, s2, r2⟩ := rv_tup ry
      exact ⟨a, b, vs, us, rfl, rfl, s1.2, s2.2, itsEq_of s r1 r2 h, q_bl q⟩
    · cases e
  · cases e
theorem hu200 {k : Nat} {A : Around} (r : Room k A) : A.units + 200 < cLine := by have := r.un; omega
end
end DL

-- M87
/-! M87: what each def computes. Printed by gen.py. -/
namespace M87
open PySem PySem.Spec PyProof.Rows L2 DL
structure Ad where
  C_SumScale : Addr
  C_ClassScale : Addr
  C_OddsScale : Addr
def clsI (ad : Ad) : List Addr := [ad.C_SumScale, ad.C_ClassScale, ad.C_OddsScale]
def isi_Scale (ad : Ad) : Dat → Option Bool
  | .ob _ => none
  | .scr _ => none
  | .ins C _ => if C ∈ clsI ad then some true else none
  | _ => some false
def c_CHAIN : Dat := (.str (Str.ofString "chain"))
def c_CLASSES : Dat := (.str (Str.ofString "classes"))
def c_COMMON : Dat := (.str (Str.ofString "common"))
def c_FIGURES : Dat := (.str (Str.ofString "0123456789"))
def c_FIXED : Dat := (.str (Str.ofString "fixed"))
def c_MAKINGS : Dat := (.tup [(.str (Str.ofString "")), (.str (Str.ofString "a")), (.str (Str.ofString "ab")), (.str (Str.ofString "abc")), (.str (Str.ofString "ac")), (.str (Str.ofString "b")), (.str (Str.ofString "bc")), (.str (Str.ofString "c"))])
def c_MAX_SIZE : Dat := (.int 4)
def c_MOST_COLUMNS : Dat := (.int 8)
def c_MOST_FIGURES : Dat := (.int 4000)
def c_MOST_ROWS : Dat := (.int 200)
def c_MOST_SIGNS : Dat := (.int 8)
def c_NONE : Dat := (.str (Str.ofString "none"))
def c_NOTHING : Dat := (.str (Str.ofString "-"))
def c_NO_STEPS : Dat := (.str (Str.ofString "no steps"))
def c_ODDS : Dat := (.str (Str.ofString "odds"))
def c_PAIR : Dat := (.str (Str.ofString "pair"))
def c_SIDES : Dat := (.str (Str.ofString " / "))
def c_SIGNS : Dat := (.str (Str.ofString "abcdefghijklmnopqrstuvwxyz"))
def c_STEPS : Dat := (.str (Str.ofString " ; "))
def c_SUMS : Dat := (.str (Str.ofString "sums"))
def c_WITNESS : Dat := (.str (Str.ofString "witness"))
def c_WORDS : Dat := (.tup [(.str (Str.ofString "labels")), (.str (Str.ofString "row")), (.str (Str.ofString "turn")), (.str (Str.ofString "triangles"))])
def fu_common_divisor_0 : En → Mu → Nat := fun ρ _ => match (ρ.sl[1]? : Option (Option SV)) with | some (some (.d (.int i))) => i.toNat + 1 | _ => 0
def fu__law_lowest_0 : En → Mu → Nat := fun ρ _ => match (ρ.sl[3]? : Option (Option SV)) with | some (some (.d (.int i))) => i.toNat + 1 | _ => 0
def fu__law_witness_0 : En → Mu → Nat := fun ρ μ => match (ρ.sl[1]? : Option (Option SV)) with | some (some (.r k)) => (match (μ[k]? : Option Ob) with | some (.lst xs) => xs.length + 1 | _ => 0) | _ => 0
def m_is_integer (ad : Ad) : SM := (sRet (fAnd (fIsi (isiT "int") (fVar 0)) (fNot (fIsi (isiT "bool") (fVar 0)))))
def F_is_integer (ad : Ad) : FnM := Fdef false 1 (m_is_integer ad)
def m_is_index (ad : Ad) : SM := (sRet (fAnd (fCall 1 (F_is_integer ad) (fCons (fVar 1) fNil)) (fCh oLe oLt (fC (.int 0)) (fVar 1) (fVar 0))))
def F_is_index (ad : Ad) : FnM := Fdef false 2 (m_is_index ad)
def m_is_name (ad : Ad) : SM := (sSeq (sIf (bOr (bNot (fTru (fIsi (isiT "str") (fVar 0)))) (bNot (fB (fCh oLe oLe (fC (.int 1)) (fCb lenD (fCons (fVar 0) fNil)) (fC c_MOST_SIGNS))))) (sRet (fC (.bl false))) sNx) (sRet (fCb allD (fCons (fLc (iSeq (fVar 0)) (gN 1) fYes (fBin (oIn false) (fVar 1) (fC c_SIGNS)) [1]) fNil))))
def F_is_name (ad : Ad) : FnM := Fdef false 2 (m_is_name ad)
def m_are_columns (ad : Ad) : SM := (sSeq (sIf (bOr (bNot (fTru (fIsi (isiT "tuple") (fVar 0)))) (bOr (fB (fBin oGt (fCb lenD (fCons (fVar 0) fNil)) (fC c_MOST_COLUMNS))) (bNot (fTru (fCb allD (fCons (fLc (iSeq (fVar 0)) (gN 1) fYes (fCall 1 (F_is_name ad) (fCons (fVar 1) fNil)) [1]) fNil)))))) (sRet (fC (.bl false))) sNx) (sRet (fCb allD (fCons (fLc (iZip (fVar 0) (fSl (fVar 0) (fPart (fC (.int 1))) fNo)) (gT 2 (gC (gN 2) (gC (gN 3) gO))) fYes (fBin oLt (fVar 2) (fVar 3)) [2, 3]) fNil))))
def F_are_columns (ad : Ad) : FnM := Fdef false 4 (m_are_columns ad)
def m_common_divisor (ad : Ad) : SM := (sSeq (sWh fu_common_divisor_0 (fB (fBin oGt (fVar 1) (fC (.int 0)))) (sPar 0 1 (fCons (fVar 1) (fCons (fBin oMod (fCb intD (fCons (fVar 0) fNil)) (fVar 1)) fNil)))) (sRet (fVar 0)))
def F_common_divisor (ad : Ad) : FnM := Fdef false 2 (m_common_divisor ad)
def m_is_fraction (ad : Ad) : SM := (sSeq (sIf (bOr (bNot (fTru (fIsi (isiT "tuple") (fVar 0)))) (bOr (fB (fBin (oEq true) (fCb lenD (fCons (fVar 0) fNil)) (fC (.int 2)))) (bNot (fTru (fCb allD (fCons (fLc (iSeq (fVar 0)) (gN 1) fYes (fAnd (fCall 1 (F_is_integer ad) (fCons (fVar 1) fNil)) (fBin oGt (fVar 1) (fC (.int 0)))) [1]) fNil)))))) (sRet (fC (.bl false))) sNx) (sRet (fBin (oEq false) (fCall 2 (F_common_divisor ad) (fCons (fBin oIx (fVar 0) (fC (.int 0))) (fCons (fBin oIx (fVar 0) (fC (.int 1))) fNil))) (fC (.int 1)))))
def F_is_fraction (ad : Ad) : FnM := Fdef false 2 (m_is_fraction ad)
def m_Scale___init__ (ad : Ad) : SM := (sSeq (sFldD (clsI ad) (Str.ofString "own_word") (fVar 0) (fVar 1)) (sSeq (sFldD (clsI ad) (Str.ofString "own_size") (fVar 0) (fVar 2)) (sSeq (sFldD (clsI ad) (Str.ofString "own_zero") (fVar 0) (fVar 3)) (sFldD (clsI ad) (Str.ofString "own_one") (fVar 0) (fVar 4)))))
def F_Scale___init__ (ad : Ad) : FnM := Fdef false 5 (m_Scale___init__ ad)
def m_Scale_sums (ad : Ad) : SM := (sRet (fMake ad.C_SumScale 5 (F_Scale___init__ ad) (fCons (fC c_SUMS) (fCons (fC (.int 1)) (fCons (fC (.int 0)) (fCons (fC (.int 1)) fNil))))))
def F_Scale_sums (ad : Ad) : FnM := Fdef false 0 (m_Scale_sums ad)
def m_Scale_classes (ad : Ad) : SM := (sSeq (sIf (bOr (bNot (fTru (fCall 1 (F_is_integer ad) (fCons (fVar 0) fNil)))) (bNot (fB (fCh oLe oLe (fC (.int 1)) (fVar 0) (fC c_MAX_SIZE))))) (fun _ _ => SO.bad) sNx) (sRet (fMake ad.C_ClassScale 5 (F_Scale___init__ ad) (fCons (fC c_CLASSES) (fCons (fVar 0) (fCons (fBin oMul (fTup (fCons (fC (.int 0)) fNil)) (fVar 0)) (fCons (fBin oAdd (fTup (fCons (fC (.int 1)) fNil)) (fBin oMul (fTup (fCons (fC (.int 0)) fNil)) (fBin oSub (fVar 0) (fC (.int 1))))) fNil)))))))
def F_Scale_classes (ad : Ad) : FnM := Fdef false 1 (m_Scale_classes ad)
def m_Scale_odds (ad : Ad) : SM := (sRet (fMake ad.C_OddsScale 5 (F_Scale___init__ ad) (fCons (fC c_ODDS) (fCons (fC (.int 1)) (fCons (fTup (fCons (fC (.int 1)) (fCons (fC (.int 1)) fNil))) (fCons (fTup (fCons (fC (.int 2)) (fCons (fC (.int 1)) fNil))) fNil))))))
def F_Scale_odds (ad : Ad) : FnM := Fdef false 0 (m_Scale_odds ad)
def m_SumScale_has_form (ad : Ad) : SM := (sRet (fCall 1 (F_is_integer ad) (fCons (fVar 1) fNil)))
def F_SumScale_has_form (ad : Ad) : FnM := Fdef false 2 (m_SumScale_has_form ad)
def m_ClassScale_has_form (ad : Ad) : SM := (sSeq (sIf (bOr (bNot (fTru (fIsi (isiT "tuple") (fVar 1)))) (fB (fBin (oEq true) (fCb lenD (fCons (fVar 1) fNil)) (fFld (clsI ad) (Str.ofString "own_size") (fVar 0))))) (sRet (fC (.bl false))) sNx) (sRet (fCb allD (fCons (fLc (iSeq (fVar 1)) (gN 2) fYes (fCall 1 (F_is_integer ad) (fCons (fVar 2) fNil)) [2]) fNil))))
def F_ClassScale_has_form (ad : Ad) : FnM := Fdef false 3 (m_ClassScale_has_form ad)
def m_OddsScale_has_form (ad : Ad) : SM := (sRet (fCall 1 (F_is_fraction ad) (fCons (fVar 1) fNil)))
def F_OddsScale_has_form (ad : Ad) : FnM := Fdef false 2 (m_OddsScale_has_form ad)
def alts_has_form (ad : Ad) : Alts := [(ad.C_SumScale, F_SumScale_has_form ad), (ad.C_ClassScale, F_ClassScale_has_form ad), (ad.C_OddsScale, F_OddsScale_has_form ad)]
def m_Scale_is_amount (ad : Ad) : SM := (sRet (fMeth (alts_has_form ad) (Str.ofString "has_form") 2 (fVar 0) (fCons (fVar 1) fNil)))
def F_Scale_is_amount (ad : Ad) : FnM := Fdef false 2 (m_Scale_is_amount ad)
def m_Scale___eq__ (ad : Ad) : SM := (sRet (fAnd (fIsi (isi_Scale ad) (fVar 1)) (fAnd (fBin (oEq false) (fFld (clsI ad) (Str.ofString "own_word") (fVar 0)) (fFld (clsI ad) (Str.ofString "own_word") (fVar 1))) (fBin (oEq false) (fFld (clsI ad) (Str.ofString "own_size") (fVar 0)) (fFld (clsI ad) (Str.ofString "own_size") (fVar 1))))))
def F_Scale___eq__ (ad : Ad) : FnM := Fdef false 2 (m_Scale___eq__ ad)
def m_require_scale (ad : Ad) : SM := (sIf (bNot (fTru (fIsi (isi_Scale ad) (fVar 0)))) (sRaise "InvalidScale") sNx)
def F_require_scale (ad : Ad) : FnM := Fdef false 1 (m_require_scale ad)
def m_are_indices (ad : Ad) : SM := (sSeq (sIf (bOr (bNot (fTru (fIsi (isiT "tuple") (fVar 1)))) (bNot (fTru (fCb allD (fCons (fLc (iSeq (fVar 1)) (gN 2) fYes (fCall 2 (F_is_index ad) (fCons (fVar 0) (fCons (fVar 2) fNil))) [2]) fNil))))) (sRet (fC (.bl false))) sNx) (sRet (fCb allD (fCons (fLc (iZip (fVar 1) (fSl (fVar 1) (fPart (fC (.int 1))) fNo)) (gT 2 (gC (gN 3) (gC (gN 4) gO))) fYes (fBin oLt (fVar 3) (fVar 4)) [3, 4]) fNil))))
def F_are_indices (ad : Ad) : FnM := Fdef false 5 (m_are_indices ad)
def m_is_step_form (ad : Ad) : SM := (sSeq (sIf (bOr (bNot (fTru (fIsi (isiT "tuple") (fVar 0)))) (bOr (fB (fBin oLt (fCb lenD (fCons (fVar 0) fNil)) (fC (.int 2)))) (bNot (fTru (fIsi (isiT "str") (fBin oIx (fVar 0) (fC (.int 0)))))))) (sRet (fC (.bl false))) sNx) (sSeq (sIf (fB (fBin (oEq false) (fBin oIx (fVar 0) (fC (.int 0))) (fC c_PAIR))) (sRet (fAnd (fBin (oEq false) (fCb lenD (fCons (fVar 0) fNil)) (fC (.int 3))) (fAnd (fCall 1 (F_are_columns ad) (fCons (fBin oIx (fVar 0) (fC (.int 1))) fNil)) (fCall 1 (F_are_columns ad) (fCons (fBin oIx (fVar 0) (fC (.int 2))) fNil))))) sNx) (sRet (fAnd (fBin (oIn false) (fBin oIx (fVar 0) (fC (.int 0))) (fTup (fCons (fC c_COMMON) (fCons (fC c_FIXED) fNil)))) (fAnd (fBin (oEq false) (fCb lenD (fCons (fVar 0) fNil)) (fC (.int 2))) (fCall 1 (F_is_name ad) (fCons (fBin oIx (fVar 0) (fC (.int 1))) fNil)))))))
def F_is_step_form (ad : Ad) : FnM := Fdef false 1 (m_is_step_form ad)
def m_are_step_forms (ad : Ad) : SM := (sRet (fAnd (fIsi (isiT "tuple") (fVar 0)) (fCb allD (fCons (fLc (iSeq (fVar 0)) (gN 1) fYes (fCall 1 (F_is_step_form ad) (fCons (fVar 1) fNil)) [1]) fNil))))
def F_are_step_forms (ad : Ad) : FnM := Fdef false 2 (m_are_step_forms ad)
def m_are_makings (ad : Ad) : SM := (sSeq (sIf (bOr (bNot (fTru (fIsi (isiT "dict") (fVar 0)))) (bNot (fTru (fCb allD (fCons (fLcK keyDs 0 (gN 1) fYes (fCall 1 (F_is_name ad) (fCons (fVar 1) fNil)) [1]) fNil))))) (sRet (fC (.bl false))) sNx) (sSeq (sIf (bNot (fTru (fCall 1 (F_are_columns ad) (fCons (fCb tupleD (fCons (fCb sortedD (fCons (fCb listD (fCons (fVar 0) fNil)) fNil)) fNil)) fNil)))) (sRet (fC (.bl false))) sNx) (sRet (fCb allD (fCons (fLcK valDs 0 (gN 2) fYes (fAnd (fIsi (isiT "str") (fVar 2)) (fBin (oIn false) (fVar 2) (fC c_MAKINGS))) [2]) fNil)))))
def F_are_makings (ad : Ad) : FnM := Fdef false 3 (m_are_makings ad)
def m_is_order_form (ad : Ad) : SM := (sSeq (sIf (bOr (bNot (fTru (fIsi (isiT "tuple") (fVar 0)))) (bOr (fB (fBin oLt (fCb lenD (fCons (fVar 0) fNil)) (fC (.int 2)))) (bNot (fTru (fIsi (isiT "str") (fBin oIx (fVar 0) (fC (.int 0)))))))) (sRet (fC (.bl false))) sNx) (sSeq (sIf (fB (fBin (oEq false) (fBin oIx (fVar 0) (fC (.int 0))) (fC c_CHAIN))) (sRet (fAnd (fBin (oEq false) (fCb lenD (fCons (fVar 0) fNil)) (fC (.int 2))) (fCall 1 (F_are_step_forms ad) (fCons (fBin oIx (fVar 0) (fC (.int 1))) fNil)))) sNx) (sSeq (sIf (bOr (fB (fBin (oEq true) (fBin oIx (fVar 0) (fC (.int 0))) (fC c_WITNESS))) (bOr (fB (fBin (oEq true) (fCb lenD (fCons (fVar 0) fNil)) (fC (.int 3)))) (bNot (fTru (fIsi (isiT "str") (fBin oIx (fVar 0) (fC (.int 1)))))))) (sRet (fC (.bl false))) sNx) (sRet (fAnd (fBin (oIn false) (fBin oIx (fVar 0) (fC (.int 1))) (fC c_WORDS)) (fCall 1 (F_are_makings ad) (fCons (fBin oIx (fVar 0) (fC (.int 2))) fNil)))))))
def F_is_order_form (ad : Ad) : FnM := Fdef false 1 (m_is_order_form ad)
def m_are_keep_indices (ad : Ad) : SM := (sRet (fCall 2 (F_are_indices ad) (fCons (fC c_MOST_ROWS) (fCons (fVar 0) fNil))))
def F_are_keep_indices (ad : Ad) : FnM := Fdef false 1 (m_are_keep_indices ad)
def m_integer_in (ad : Ad) : SM := (sSeq (sSet (fIf (fTru (fM1 startsD (fVar 0) (fC c_NOTHING))) (fSl (fVar 0) (fPart (fC (.int 1))) fNo) (fVar 0)) (gN 1)) (sSeq (sIf (bOr (bNot (fB (fCh oLe oLe (fC (.int 1)) (fCb lenD (fCons (fVar 1) fNil)) (fC c_MOST_FIGURES)))) (bNot (fTru (fCb allD (fCons (fLc (iSeq (fVar 1)) (gN 2) fYes (fBin (oIn false) (fVar 2) (fC c_FIGURES)) [2]) fNil))))) (sRaise "ParseError") sNx) (sRet (fCb intD (fCons (fVar 0) fNil)))))
def F_integer_in (ad : Ad) : FnM := Fdef false 3 (m_integer_in ad)
def m_require_text (ad : Ad) : SM := (sIf (bNot (fTru (fIsi (isiT "str") (fVar 0)))) (sRaise "ParseError") sNx)
def F_require_text (ad : Ad) : FnM := Fdef false 1 (m_require_text ad)
def m_require_same (ad : Ad) : SM := (sIf (fB (fBin (oEq true) (fVar 0) (fVar 1))) (sRaise "ParseError") sNx)
def F_require_same (ad : Ad) : FnM := Fdef false 2 (m_require_same ad)
def m_columns_text (ad : Ad) : SM := (sRet (fIf (fB (fBin (oEq true) (fVar 0) (fTup fNil))) (fM1 joinD (fC (.str (Str.ofString " "))) (fVar 0)) (fC c_NOTHING)))
def F_columns_text (ad : Ad) : FnM := Fdef false 1 (m_columns_text ad)
def m_columns_in (ad : Ad) : SM := (sRet (fIf (fB (fBin (oEq false) (fVar 0) (fC c_NOTHING))) (fTup fNil) (fCb tupleD (fCons (fM1 splitD (fVar 0) (fC (.str (Str.ofString " ")))) fNil))))
def F_columns_in (ad : Ad) : FnM := Fdef false 1 (m_columns_in ad)
def m_values_text (ad : Ad) : SM := (sRet (fIf (fB (fBin (oEq true) (fVar 0) (fTup fNil))) (fM1 joinD (fC (.str (Str.ofString " "))) (fLc (iSeq (fVar 0)) (gN 1) fYes (fCb strD (fCons (fVar 1) fNil)) [1])) (fC c_NOTHING)))
def F_values_text (ad : Ad) : FnM := Fdef false 2 (m_values_text ad)
def m_values_in (ad : Ad) : SM := (sRet (fIf (fB (fBin (oEq false) (fVar 0) (fC c_NOTHING))) (fTup fNil) (fCb tupleD (fCons (fLcX (iSeq (fM1 splitD (fVar 0) (fC (.str (Str.ofString " "))))) (gN 1) fYes (fCall 1 (F_integer_in ad) (fCons (fVar 1) fNil)) [1]) fNil))))
def F_values_in (ad : Ad) : FnM := Fdef false 2 (m_values_in ad)
def m_keep_text (ad : Ad) : SM := (sRet (fIf (fB (fBin (oEq true) (fVar 0) (fTup fNil))) (fCall 1 (F_values_text ad) (fCons (fVar 0) fNil)) (fC c_NONE)))
def F_keep_text (ad : Ad) : FnM := Fdef false 1 (m_keep_text ad)
def m_keep_in (ad : Ad) : SM := (sRet (fIf (fB (fBin (oEq false) (fVar 0) (fC c_NONE))) (fTup fNil) (fCall 1 (F_values_in ad) (fCons (fVar 0) fNil))))
def F_keep_in (ad : Ad) : FnM := Fdef false 1 (m_keep_in ad)
def altsEq (ad : Ad) : Alts := [(ad.C_SumScale, F_Scale___eq__ ad), (ad.C_ClassScale, F_Scale___eq__ ad), (ad.C_OddsScale, F_Scale___eq__ ad)]
def m_amount_text (ad : Ad) : SM := (sSeq (sIf (fB (fEqO (altsEq ad) (clsI ad) 2 (fVar 0) (fCall 0 (F_Scale_sums ad) fNil))) (sRet (fCb strD (fCons (fVar 1) fNil))) sNx) (sRet (fM1 joinD (fIf (fB (fEqO (altsEq ad) (clsI ad) 2 (fVar 0) (fCall 0 (F_Scale_odds ad) fNil))) (fC (.str (Str.ofString ":"))) (fC (.str (Str.ofString "/")))) (fLc (iSeq (fVar 1)) (gN 2) fYes (fCb strD (fCons (fVar 2) fNil)) [2]))))
def F_amount_text (ad : Ad) : FnM := Fdef false 3 (m_amount_text ad)
def alts_is_amount (ad : Ad) : Alts := [(ad.C_SumScale, F_Scale_is_amount ad), (ad.C_ClassScale, F_Scale_is_amount ad), (ad.C_OddsScale, F_Scale_is_amount ad)]
def m_amount_in (ad : Ad) : SM := (sSeq (sIf (fB (fEqO (altsEq ad) (clsI ad) 2 (fVar 0) (fCall 0 (F_Scale_sums ad) fNil))) (sSet (fCall 1 (F_integer_in ad) (fCons (fVar 1) fNil)) (gN 2)) (sSet (fCb tupleD (fCons (fLcX (iSeq (fM1 splitD (fVar 1) (fIf (fB (fEqO (altsEq ad) (clsI ad) 2 (fVar 0) (fCall 0 (F_Scale_odds ad) fNil))) (fC (.str (Str.ofString ":"))) (fC (.str (Str.ofString "/")))))) (gN 3) fYes (fCall 1 (F_integer_in ad) (fCons (fVar 3) fNil)) [3]) fNil)) (gN 2))) (sSeq (sIf (bNot (fTru (fMeth (alts_is_amount ad) (Str.ofString "is_amount") 2 (fVar 0) (fCons (fVar 2) fNil)))) (sRaise "ParseError") sNx) (sSeq (sDrop (fCall 2 (F_require_same ad) (fCons (fVar 1) (fCons (fCall 2 (F_amount_text ad) (fCons (fVar 0) (fCons (fVar 2) fNil))) fNil)))) (sRet (fVar 2)))))
def F_amount_in (ad : Ad) : FnM := Fdef false 4 (m_amount_in ad)
def m_step_text (ad : Ad) : SM := (sSeq (sIf (fB (fBin (oEq false) (fBin oIx (fVar 0) (fC (.int 0))) (fC c_PAIR))) (sRet (fJoined [(fFmt (fC c_PAIR)), (fC (.str (Str.ofString " "))), (fFmt (fCall 1 (F_columns_text ad) (fCons (fBin oIx (fVar 0) (fC (.int 1))) fNil))), (fFmt (fC c_SIDES)), (fFmt (fCall 1 (F_columns_text ad) (fCons (fBin oIx (fVar 0) (fC (.int 2))) fNil)))])) sNx) (sRet (fJoined [(fFmt (fBin oIx (fVar 0) (fC (.int 0)))), (fC (.str (Str.ofString " "))), (fFmt (fBin oIx (fVar 0) (fC (.int 1))))])))
def F_step_text (ad : Ad) : FnM := Fdef false 1 (m_step_text ad)
def m_steps_text (ad : Ad) : SM := (sRet (fIf (fB (fBin (oEq true) (fVar 0) (fTup fNil))) (fM1 joinD (fC c_STEPS) (fLc (iSeq (fVar 0)) (gN 1) fYes (fCall 1 (F_step_text ad) (fCons (fVar 1) fNil)) [1])) (fC c_NO_STEPS)))
def F_steps_text (ad : Ad) : FnM := Fdef false 2 (m_steps_text ad)
def m_step_in (ad : Ad) : SM := (sSeq (sSet (fM1 partD (fVar 0) (fC (.str (Str.ofString " ")))) (gT 3 (gC (gN 1) (gC (gN 2) (gC (gN 3) gO))))) (sSeq (sIf (fB (fBin (oEq true) (fVar 1) (fC c_PAIR))) (sRet (fTup (fCons (fVar 1) (fCons (fVar 3) fNil)))) sNx) (sSeq (sSet (fM1 partD (fVar 3) (fC c_SIDES)) (gT 3 (gC (gN 4) (gC (gN 2) (gC (gN 5) gO))))) (sRet (fTup (fCons (fVar 1) (fCons (fCall 1 (F_columns_in ad) (fCons (fVar 4) fNil)) (fCons (fCall 1 (F_columns_in ad) (fCons (fVar 5) fNil)) fNil))))))))
def F_step_in (ad : Ad) : FnM := Fdef false 6 (m_step_in ad)
def m_steps_in (ad : Ad) : SM := (sSeq (sSet (fIf (fB (fBin (oEq false) (fVar 0) (fC c_NO_STEPS))) (fTup fNil) (fCb tupleD (fCons (fLc (iSeq (fM1 splitD (fVar 0) (fC c_STEPS))) (gN 2) fYes (fCall 1 (F_step_in ad) (fCons (fVar 2) fNil)) [2]) fNil))) (gN 1)) (sSeq (sIf (bNot (fTru (fCall 1 (F_are_step_forms ad) (fCons (fVar 1) fNil)))) (sRaise "ParseError") sNx) (sSeq (sDrop (fCall 2 (F_require_same ad) (fCons (fVar 0) (fCons (fCall 1 (F_steps_text ad) (fCons (fVar 1) fNil)) fNil)))) (sRet (fVar 1)))))
def F_steps_in (ad : Ad) : FnM := Fdef false 3 (m_steps_in ad)
def m_order_text (ad : Ad) : SM := (sSeq (sIf (fB (fBin (oEq false) (fBin oIx (fVar 0) (fC (.int 0))) (fC c_CHAIN))) (sRet (fJoined [(fFmt (fC c_CHAIN)), (fC (.str (Str.ofString " "))), (fFmt (fCall 1 (F_steps_text ad) (fCons (fBin oIx (fVar 0) (fC (.int 1))) fNil)))])) sNx) (sSeq (sSet (fLc (iSeq (fCb sortedD (fCons (fCb listD (fCons (fBin oIx (fVar 0) (fC (.int 2))) fNil)) fNil))) (gN 2) fYes (fJoined [(fFmt (fVar 2)), (fC (.str (Str.ofString " "))), (fFmt (fOr (fBin oDget (fBin oIx (fVar 0) (fC (.int 2))) (fVar 2)) (fC c_NOTHING)))]) [2]) (gN 1)) (sRet (fBin oAdd (fJoined [(fFmt (fC c_WITNESS)), (fC (.str (Str.ofString " "))), (fFmt (fBin oIx (fVar 0) (fC (.int 1)))), (fC (.str (Str.ofString ": ")))]) (fIf (fB (fBin (oEq true) (fVar 1) (fLst fNil))) (fM1 joinD (fC (.str (Str.ofString ", "))) (fVar 1)) (fC c_NOTHING))))))
def F_order_text (ad : Ad) : FnM := Fdef false 3 (m_order_text ad)
def m_making_in (ad : Ad) : SM := (sSeq (sSet (fM1 partD (fVar 0) (fC (.str (Str.ofString " ")))) (gT 3 (gC (gN 1) (gC (gN 2) (gC (gN 3) gO))))) (sRet (fTup (fCons (fVar 1) (fCons (fIf (fB (fBin (oEq false) (fVar 3) (fC c_NOTHING))) (fC (.str (Str.ofString ""))) (fVar 3)) fNil)))))
def F_making_in (ad : Ad) : FnM := Fdef false 4 (m_making_in ad)
def m_order_in (ad : Ad) : SM := (sSeq (sSet (fM1 partD (fVar 0) (fC (.str (Str.ofString " ")))) (gT 3 (gC (gN 1) (gC (gN 2) (gC (gN 3) gO))))) (sSeq (sIf (fB (fBin (oEq false) (fVar 1) (fC c_CHAIN))) (sRet (fTup (fCons (fC c_CHAIN) (fCons (fCall 1 (F_steps_in ad) (fCons (fVar 3) fNil)) fNil)))) sNx) (sSeq (sSet (fM1 partD (fVar 3) (fC (.str (Str.ofString ": ")))) (gT 3 (gC (gN 4) (gC (gN 2) (gC (gN 5) gO))))) (sSeq (sSet (fZ (fIf (fB (fBin (oEq false) (fVar 5) (fC c_NOTHING))) fDctL (fCb dictPD (fCons (fLc (iSeq (fM1 splitD (fVar 5) (fC (.str (Str.ofString ", "))))) (gN 8) fYes (fCall 1 (F_making_in ad) (fCons (fVar 8) fNil)) [8]) fNil)))) (gN 6)) (sSeq (sSet (fTup (fCons (fVar 1) (fCons (fVar 4) (fCons (fVar 6) fNil)))) (gN 7)) (sSeq (sIf (bNot (fTru (fCall 1 (F_is_order_form ad) (fCons (fVar 7) fNil)))) (sRaise "ParseError") sNx) (sSeq (sDrop (fCall 2 (F_require_same ad) (fCons (fVar 0) (fCons (fCall 1 (F_order_text ad) (fCons (fVar 7) fNil)) fNil)))) (sRet (fVar 7)))))))))
def F_order_in (ad : Ad) : FnM := Fdef false 9 (m_order_in ad)
def m_format_steps (ad : Ad) : SM := (sSeq (sIf (bNot (fTru (fCall 1 (F_are_step_forms ad) (fCons (fVar 0) fNil)))) (sRaise "InvalidStep") sNx) (sRet (fCall 1 (F_steps_text ad) (fCons (fVar 0) fNil))))
def F_format_steps (ad : Ad) : FnM := Fdef false 1 (m_format_steps ad)
def m_parse_steps (ad : Ad) : SM := (sSeq (sDrop (fCall 1 (F_require_text ad) (fCons (fVar 0) fNil))) (sRet (fCall 1 (F_steps_in ad) (fCons (fVar 0) fNil))))
def F_parse_steps (ad : Ad) : FnM := Fdef false 1 (m_parse_steps ad)
def m_format_order (ad : Ad) : SM := (sSeq (sIf (bNot (fTru (fCall 1 (F_is_order_form ad) (fCons (fVar 0) fNil)))) (sRaise "InvalidOperation") sNx) (sRet (fCall 1 (F_order_text ad) (fCons (fVar 0) fNil))))
def F_format_order (ad : Ad) : FnM := Fdef false 1 (m_format_order ad)
def m_parse_order (ad : Ad) : SM := (sSeq (sDrop (fCall 1 (F_require_text ad) (fCons (fVar 0) fNil))) (sRet (fCall 1 (F_order_in ad) (fCons (fVar 0) fNil))))
def F_parse_order (ad : Ad) : FnM := Fdef false 1 (m_parse_order ad)
def m_format_keep (ad : Ad) : SM := (sSeq (sIf (bNot (fTru (fCall 1 (F_are_keep_indices ad) (fCons (fVar 0) fNil)))) (sRaise "InvalidKeep") sNx) (sRet (fCall 1 (F_keep_text ad) (fCons (fVar 0) fNil))))
def F_format_keep (ad : Ad) : FnM := Fdef false 1 (m_format_keep ad)
def m_parse_keep (ad : Ad) : SM := (sSeq (sDrop (fCall 1 (F_require_text ad) (fCons (fVar 0) fNil))) (sSeq (sSet (fCall 1 (F_keep_in ad) (fCons (fVar 0) fNil)) (gN 1)) (sSeq (sIf (bNot (fTru (fCall 1 (F_are_keep_indices ad) (fCons (fVar 1) fNil)))) (sRaise "ParseError") sNx) (sSeq (sDrop (fCall 2 (F_require_same ad) (fCons (fVar 0) (fCons (fCall 1 (F_keep_text ad) (fCons (fVar 1) fNil)) fNil)))) (sRet (fVar 1))))))
def F_parse_keep (ad : Ad) : FnM := Fdef false 2 (m_parse_keep ad)
def m_format_amount (ad : Ad) : SM := (sSeq (sDrop (fCall 1 (F_require_scale ad) (fCons (fVar 0) fNil))) (sSeq (sIf (bNot (fTru (fMeth (alts_is_amount ad) (Str.ofString "is_amount") 2 (fVar 0) (fCons (fVar 1) fNil)))) (sRaise "InvalidOperation") sNx) (sRet (fCall 2 (F_amount_text ad) (fCons (fVar 0) (fCons (fVar 1) fNil))))))
def F_format_amount (ad : Ad) : FnM := Fdef false 2 (m_format_amount ad)
def m_parse_amount (ad : Ad) : SM := (sSeq (sDrop (fCall 1 (F_require_scale ad) (fCons (fVar 0) fNil))) (sSeq (sDrop (fCall 1 (F_require_text ad) (fCons (fVar 1) fNil))) (sRet (fCall 2 (F_amount_in ad) (fCons (fVar 0) (fCons (fVar 1) fNil))))))
def F_parse_amount (ad : Ad) : FnM := Fdef false 2 (m_parse_amount ad)
def m__law_dice (ad : Ad) : SM := (sSeq (sSet (fBin oAdd (fBin oMul (fC (.int 13)) (fVar 1)) (fC (.int 6))) (gN 2)) (sSeq (sIf (fB (fBin oLt (fVar 1) (fCb lenD (fCons (fVar 0) fNil)))) (sSet (fBin oIx (fVar 0) (fVar 1)) (gN 2)) sNx) (sSeq (sSet (fBin oMod (fCb intD (fCons (fCb absD (fCons (fVar 2) fNil)) fNil)) (fBin oPow (fBin oPow (fC (.int 10)) (fC (.int 60))) (fC (.int 12)))) (gN 3)) (sSeq (sSet (fBin oAdd (fBin oAdd (fBin oAdd (fBin oMul (fBin oMod (fCb intD (fCons (fVar 3) fNil)) (fC (.int 2147483497))) (fC (.int 40014))) (fBin oMul (fC (.int 1009)) (fVar 1))) (fBin oMul (fC (.int 5)) (fCb intD (fCons (fBin oLt (fVar 2) (fC (.int 0))) fNil)))) (fC (.int 29))) (gN 4)) (sRet (fLstL (fCons (fCb maxD (fCons (fC (.int 0)) (fCons (fBin oSub (fVar 3) (fBin oPow (fC (.int 10)) (fC (.int 18)))) fNil))) (fCons (fBin oMod (fCb intD (fCons (fVar 4) fNil)) (fC (.int 2147483489))) (fCons (fC (.int 0)) fNil)))))))))
def F__law_dice (ad : Ad) : FnM := Fdef true 5 (m__law_dice ad)
def m__law_pull (ad : Ad) : SM := (sSeq (sIf (fB (fBin oGt (fBin oIx (fVar 0) (fC (.int 0))) (fC (.int 0)))) (sSeq (sSet (fBin oMod (fCb intD (fCons (fBin oIx (fVar 0) (fC (.int 0))) fNil)) (fVar 1)) (gN 2)) (sSeq (sStore (fVar 0) (fC (.int 0)) (fBin oDiv (fBin oIx (fVar 0) (fC (.int 0))) (fVar 1))) (sRet (fVar 2)))) sNx) (sSeq (sStore (fVar 0) (fC (.int 2)) (fBin oAdd (fBin oIx (fVar 0) (fC (.int 2))) (fC (.int 1)))) (sSeq (sSet (fBin oMod (fCb intD (fCons (fBin oAdd (fBin oIx (fVar 0) (fC (.int 1))) (fBin oMul (fC (.int 1000133)) (fBin oIx (fVar 0) (fC (.int 2))))) fNil)) (fC (.int 2305843009213693951))) (gN 3)) (sSeq (sSet (fBin oMul (fBin oMod (fCb intD (fCons (fBin oMul (fVar 3) (fVar 3)) fNil)) (fC (.int 2305843009213693921))) (fVar 3)) (gN 4)) (sRet (fBin oMod (fCb intD (fCons (fBin oDiv (fBin oMod (fCb intD (fCons (fBin oAdd (fVar 4) (fBin oMul (fC (.int 7577)) (fBin oIx (fVar 0) (fC (.int 2))))) fNil)) (fC (.int 2305843009213693907))) (fC (.int 8192))) fNil)) (fVar 1)))))))
def F__law_pull (ad : Ad) : FnM := Fdef false 5 (m__law_pull ad)
def m__law_pick (ad : Ad) : SM := (sRet (fBin oIx (fVar 1) (fCall 2 (F__law_pull ad) (fCons (fVar 0) (fCons (fCb lenD (fCons (fVar 1) fNil)) fNil)))))
def F__law_pick (ad : Ad) : FnM := Fdef false 2 (m__law_pick ad)
def m__law_columns (ad : Ad) : SM := (sSeq (sPar 2 3 (fCons (fC (.str (Str.ofString "abcdefghijklmnopqrstuvwxyz"))) (fCons (fLstL fNil) fNil))) (sSeq (sFor (iRg1 (fVar 1)) (gN 4) (sSeq (sSet (fBin oIx (fVar 2) (fBin oAdd (fBin oMul (fC (.int 2)) (fVar 4)) (fCall 2 (F__law_pull ad) (fCons (fVar 0) (fCons (fC (.int 2)) fNil))))) (gN 5)) (sSeq (sFor (iRg1 (fBin oIx (fLst (fCons (fC (.int 0)) (fCons (fC (.int 0)) (fCons (fC (.int 1)) (fCons (fC (.int 2)) fNil))))) (fCall 2 (F__law_pull ad) (fCons (fVar 0) (fCons (fC (.int 4)) fNil))))) (gN 6) (sSet (fBin oAdd (fVar 5) (fBin oIx (fVar 2) (fCall 2 (F__law_pull ad) (fCons (fVar 0) (fCons (fC (.int 26)) fNil))))) (gN 5))) (sDrop (fAppend (fVar 3) (fVar 5)))))) (sRet (fCb tupleD (fCons (fVar 3) fNil)))))
def F__law_columns (ad : Ad) : FnM := Fdef false 7 (m__law_columns ad)
def m__law_some (ad : Ad) : SM := (sRet (fCb tupleD (fCons (fLc (iSeq (fVar 1)) (gN 3) (fB (fBin (oEq false) (fCall 2 (F__law_pull ad) (fCons (fVar 0) (fCons (fVar 2) fNil))) (fC (.int 0)))) (fVar 3) [3]) fNil)))
def F__law_some (ad : Ad) : FnM := Fdef false 4 (m__law_some ad)
def m__law_scale (ad : Ad) : SM := (sRet (fBin oIx (fLst (fCons (fTup (fCons (fC (.str (Str.ofString "sums"))) (fCons (fC (.int 1)) fNil))) (fCons (fTup (fCons (fC (.str (Str.ofString "classes"))) (fCons (fBin oAdd (fC (.int 1)) (fCall 2 (F__law_pull ad) (fCons (fVar 0) (fCons (fC (.int 4)) fNil)))) fNil))) (fCons (fTup (fCons (fC (.str (Str.ofString "odds"))) (fCons (fC (.int 1)) fNil))) fNil)))) (fCall 2 (F__law_pull ad) (fCons (fVar 0) (fCons (fC (.int 3)) fNil)))))
def F__law_scale (ad : Ad) : FnM := Fdef false 1 (m__law_scale ad)
def m__law_lowest (ad : Ad) : SM := (sSeq (sPar 2 3 (fCons (fVar 0) (fCons (fVar 1) fNil))) (sSeq (sWh fu__law_lowest_0 (fB (fBin oGt (fVar 3) (fC (.int 0)))) (sPar 2 3 (fCons (fVar 3) (fCons (fBin oMod (fCb intD (fCons (fVar 2) fNil)) (fVar 3)) fNil)))) (sRet (fTup (fCons (fBin oDiv (fVar 0) (fVar 2)) (fCons (fBin oDiv (fVar 1) (fVar 2)) fNil))))))
def F__law_lowest (ad : Ad) : FnM := Fdef false 4 (m__law_lowest ad)
def m__law_weight (ad : Ad) : SM := (sSeq (sIf (fB (fBin (oEq false) (fBin oIx (fVar 1) (fC (.int 0))) (fC (.str (Str.ofString "sums"))))) (sRet (fBin oAdd (fC (.int 1)) (fCall 2 (F__law_pull ad) (fCons (fVar 0) (fCons (fBin oIx (fLst (fCons (fC (.int 2)) (fCons (fC (.int 3)) (fCons (fC (.int 9)) (fCons (fBin oPow (fC (.int 10)) (fC (.int 30))) fNil))))) (fCall 2 (F__law_pull ad) (fCons (fVar 0) (fCons (fC (.int 4)) fNil)))) fNil))))) sNx) (sSeq (sIf (fB (fBin (oEq false) (fBin oIx (fVar 1) (fC (.int 0))) (fC (.str (Str.ofString "classes"))))) (sSeq (sSet (fLcL (iRg1 (fBin oIx (fVar 1) (fC (.int 1)))) (gN 4) fYes (fCall 2 (F__law_pull ad) (fCons (fVar 0) (fCons (fBin oIx (fLst (fCons (fC (.int 2)) (fCons (fC (.int 3)) (fCons (fC (.int 9)) fNil)))) (fCall 2 (F__law_pull ad) (fCons (fVar 0) (fCons (fC (.int 3)) fNil)))) fNil))) [4]) (gN 2)) (sSeq (sIf (fB (fBin (oEq false) (fLc (iSeq (fVar 2)) (gN 5) (fB (fBin oGt (fVar 5) (fC (.int 0)))) (fVar 5) [5]) (fLst fNil))) (sStore (fVar 2) (fCall 2 (F__law_pull ad) (fCons (fVar 0) (fCons (fCb lenD (fCons (fVar 2) fNil)) fNil))) (fC (.int 1))) sNx) (sRet (fCb tupleD (fCons (fVar 2) fNil))))) sNx) (sSeq (sSet (fBin oAdd (fC (.int 1)) (fCall 2 (F__law_pull ad) (fCons (fVar 0) (fCons (fBin oIx (fLst (fCons (fC (.int 1)) (fCons (fC (.int 3)) (fCons (fC (.int 12)) (fCons (fC (.int 999)) fNil))))) (fCall 2 (F__law_pull ad) (fCons (fVar 0) (fCons (fC (.int 4)) fNil)))) fNil)))) (gN 3)) (sRet (fCall 2 (F__law_lowest ad) (fCons (fBin oAdd (fBin oAdd (fVar 3) (fC (.int 1))) (fCall 2 (F__law_pull ad) (fCons (fVar 0) (fCons (fBin oIx (fLst (fCons (fC (.int 1)) (fCons (fC (.int 4)) (fCons (fC (.int 20)) (fCons (fC (.int 990000)) fNil))))) (fCall 2 (F__law_pull ad) (fCons (fVar 0) (fCons (fC (.int 4)) fNil)))) fNil)))) (fCons (fVar 3) fNil)))))))
def F__law_weight (ad : Ad) : FnM := Fdef false 6 (m__law_weight ad)
def m__law_made (ad : Ad) : SM := (sSeq (sIf (fB (fBin (oEq false) (fBin oIx (fVar 0) (fC (.int 0))) (fC (.str (Str.ofString "classes"))))) (sRet (fCall 1 (F_Scale_classes ad) (fCons (fBin oIx (fVar 0) (fC (.int 1))) fNil))) sNx) (sRet (fIf (fB (fBin (oEq false) (fBin oIx (fVar 0) (fC (.int 0))) (fC (.str (Str.ofString "sums"))))) (fCall 0 (F_Scale_sums ad) fNil) (fCall 0 (F_Scale_odds ad) fNil))))
def F__law_made (ad : Ad) : FnM := Fdef false 1 (m__law_made ad)
def m__law_amount (ad : Ad) : SM := (sSeq (sIf (fB (fBin (oEq false) (fBin oIx (fVar 1) (fC (.int 0))) (fC (.str (Str.ofString "sums"))))) (sSeq (sSet (fCall 2 (F__law_pull ad) (fCons (fVar 0) (fCons (fBin oIx (fLst (fCons (fC (.int 2)) (fCons (fC (.int 5)) (fCons (fBin oPow (fC (.int 10)) (fC (.int 40))) fNil)))) (fCall 2 (F__law_pull ad) (fCons (fVar 0) (fCons (fC (.int 3)) fNil)))) fNil))) (gN 2)) (sRet (fBin oSub (fVar 2) (fCall 2 (F__law_pull ad) (fCons (fVar 0) (fCons (fBin oIx (fLst (fCons (fC (.int 2)) (fCons (fC (.int 5)) (fCons (fBin oPow (fC (.int 10)) (fC (.int 40))) fNil)))) (fCall 2 (F__law_pull ad) (fCons (fVar 0) (fCons (fC (.int 3)) fNil)))) fNil)))))) sNx) (sSeq (sIf (fB (fBin (oEq false) (fBin oIx (fVar 1) (fC (.int 0))) (fC (.str (Str.ofString "classes"))))) (sRet (fCb tupleD (fCons (fLc (iRg1 (fBin oIx (fVar 1) (fC (.int 1)))) (gN 4) fYes (fBin oSub (fCall 2 (F__law_pull ad) (fCons (fVar 0) (fCons (fC (.int 4)) fNil))) (fCall 2 (F__law_pull ad) (fCons (fVar 0) (fCons (fC (.int 4)) fNil)))) [4]) fNil))) sNx) (sSeq (sSet (fBin oIx (fLst (fCons (fC (.int 3)) (fCons (fC (.int 12)) (fCons (fBin oPow (fC (.int 10)) (fC (.int 40))) fNil)))) (fCall 2 (F__law_pull ad) (fCons (fVar 0) (fCons (fC (.int 3)) fNil)))) (gN 3)) (sRet (fCall 2 (F__law_lowest ad) (fCons (fBin oAdd (fC (.int 1)) (fCall 2 (F__law_pull ad) (fCons (fVar 0) (fCons (fVar 3) fNil)))) (fCons (fBin oAdd (fC (.int 1)) (fCall 2 (F__law_pull ad) (fCons (fVar 0) (fCons (fVar 3) fNil)))) fNil)))))))
def F__law_amount (ad : Ad) : FnM := Fdef false 5 (m__law_amount ad)
def m__law_amount_text (ad : Ad) : SM := (sSeq (sIf (fB (fBin (oEq false) (fBin oIx (fVar 0) (fC (.int 0))) (fC (.str (Str.ofString "sums"))))) (sRet (fCb strD (fCons (fVar 1) fNil))) sNx) (sRet (fM1 joinD (fBin oDget (fC (dsp2 (Str.ofString "classes") (Str.ofString "/") (Str.ofString "odds") (Str.ofString ":"))) (fBin oIx (fVar 0) (fC (.int 0)))) (fLc (iSeq (fVar 1)) (gN 2) fYes (fCb strD (fCons (fVar 2) fNil)) [2]))))
def F__law_amount_text (ad : Ad) : FnM := Fdef false 3 (m__law_amount_text ad)
def m__law_columns_text (ad : Ad) : SM := (sRet (fIf (fB (fBin (oEq true) (fVar 0) (fTup fNil))) (fM1 joinD (fC (.str (Str.ofString " "))) (fCb listD (fCons (fVar 0) fNil))) (fC (.str (Str.ofString "-")))))
def F__law_columns_text (ad : Ad) : FnM := Fdef false 1 (m__law_columns_text ad)
def m__law_values_text (ad : Ad) : SM := (sRet (fIf (fB (fBin (oEq true) (fVar 0) (fTup fNil))) (fM1 joinD (fC (.str (Str.ofString " "))) (fLc (iSeq (fVar 0)) (gN 1) fYes (fCb strD (fCons (fVar 1) fNil)) [1])) (fC (.str (Str.ofString "-")))))
def F__law_values_text (ad : Ad) : FnM := Fdef false 2 (m__law_values_text ad)
def m__law_spoilt (ad : Ad) : SM := (sSeq (sSet (fLst (fCons (fC (.str (Str.ofString " "))) (fCons (fC (.str (Str.ofString "-"))) (fCons (fC (.str (Str.ofString "\n"))) (fCons (fC (.str (Str.ofString "/"))) (fCons (fC (.str (Str.ofString ":"))) (fCons (fC (.str (Str.ofString ";"))) (fCons (fC (.str (Str.ofString ","))) (fCons (fC (.str (Str.ofString "@"))) (fCons (fC (.str (Str.ofString ">"))) (fCons (fC (.str (Str.ofString "="))) (fCons (fC (.str (Str.ofString "0"))) (fCons (fC (.str (Str.ofString "1"))) (fCons (fC (.str (Str.ofString "7"))) (fCons (fC (.str (Str.ofString "a"))) (fCons (fC (.str (Str.ofString "b"))) (fCons (fC (.str (Str.ofString "c"))) (fCons (fC (.str (Str.ofString "z"))) (fCons (fC (.str (Str.ofString "A"))) fNil))))))))))))))))))) (gN 2)) (sSeq (sSet (fBin oAdd (fVar 2) (fLst (fCons (fC (.str (Str.ofString "  "))) (fCons (fC (.str (Str.ofString " - "))) (fCons (fC (.str (Str.ofString "all"))) (fCons (fC (.str (Str.ofString "of "))) (fCons (fC (.str (Str.ofString "\n  "))) fNil))))))) (gN 2)) (sSeq (sPar 3 4 (fCons (fCall 2 (F__law_pull ad) (fCons (fVar 0) (fCons (fBin oAdd (fCb lenD (fCons (fVar 1) fNil)) (fC (.int 1))) fNil))) (fCons (fCall 2 (F__law_pick ad) (fCons (fVar 0) (fCons (fVar 2) fNil))) fNil))) (sSeq (sSet (fCall 2 (F__law_pull ad) (fCons (fVar 0) (fCons (fC (.int 3)) fNil))) (gN 5)) (sRet (fBin oAdd (fBin oAdd (fSl (fVar 1) fNo (fPart (fVar 3))) (fBin oIx (fLst (fCons (fC (.str (Str.ofString ""))) (fCons (fVar 4) (fCons (fVar 4) fNil)))) (fVar 5))) (fSl (fVar 1) (fPart (fBin oAdd (fVar 3) (fCb intD (fCons (fBin oLt (fVar 5) (fC (.int 2))) fNil)))) fNo)))))))
def F__law_spoilt (ad : Ad) : FnM := Fdef false 6 (m__law_spoilt ad)
def m__law_step (ad : Ad) : SM := (sSeq (sSet (fCall 2 (F__law_columns ad) (fCons (fVar 0) (fCons (fBin oAdd (fC (.int 1)) (fCall 2 (F__law_pull ad) (fCons (fVar 0) (fCons (fC (.int 6)) fNil)))) fNil))) (gN 1)) (sSeq (sSet (fCall 2 (F__law_pull ad) (fCons (fVar 0) (fCons (fC (.int 3)) fNil))) (gN 2)) (sSeq (sIf (fB (fBin oLt (fVar 2) (fC (.int 2)))) (sRet (fTup (fCons (fBin oIx (fLst (fCons (fC (.str (Str.ofString "common"))) (fCons (fC (.str (Str.ofString "fixed"))) fNil))) (fVar 2)) (fCons (fBin oIx (fVar 1) (fC (.int 0))) fNil)))) sNx) (sRet (fTup (fCons (fC (.str (Str.ofString "pair"))) (fCons (fCall 3 (F__law_some ad) (fCons (fVar 0) (fCons (fVar 1) (fCons (fC (.int 2)) fNil)))) (fCons (fCall 3 (F__law_some ad) (fCons (fVar 0) (fCons (fVar 1) (fCons (fC (.int 2)) fNil)))) fNil))))))))
def F__law_step (ad : Ad) : FnM := Fdef false 3 (m__law_step ad)
def m__law_steps_text (ad : Ad) : SM := (sSeq (sSet (fLstL fNil) (gN 1)) (sSeq (sFor (iSeq (fVar 0)) (gN 2) (sIf (fB (fBin (oEq false) (fBin oIx (fVar 2) (fC (.int 0))) (fC (.str (Str.ofString "pair"))))) (sDrop (fAppend (fVar 1) (fBin oAdd (fBin oAdd (fBin oAdd (fC (.str (Str.ofString "pair "))) (fCall 1 (F__law_columns_text ad) (fCons (fBin oIx (fVar 2) (fC (.int 1))) fNil))) (fC (.str (Str.ofString " / ")))) (fCall 1 (F__law_columns_text ad) (fCons (fBin oIx (fVar 2) (fC (.int 2))) fNil))))) (sDrop (fAppend (fVar 1) (fBin oAdd (fBin oAdd (fBin oIx (fVar 2) (fC (.int 0))) (fC (.str (Str.ofString " ")))) (fBin oIx (fVar 2) (fC (.int 1)))))))) (sRet (fIf (fB (fBin (oEq true) (fVar 1) (fLst fNil))) (fM1 joinD (fC (.str (Str.ofString " ; "))) (fVar 1)) (fC (.str (Str.ofString "no steps")))))))
def F__law_steps_text (ad : Ad) : FnM := Fdef false 3 (m__law_steps_text ad)
def m__law_witness (ad : Ad) : SM := (sSeq (sPar 1 2 (fCons (fListL (fCall 2 (F__law_columns ad) (fCons (fVar 0) (fCons (fCall 2 (F__law_pull ad) (fCons (fVar 0) (fCons (fC (.int 9)) fNil))) fNil)))) (fCons fDctL fNil))) (sSeq (sWh fu__law_witness_0 (fB (fBin (oEq true) (fVar 1) (fLst fNil))) (sSeq (sSet (fPop1 (fVar 1) (fCall 2 (F__law_pull ad) (fCons (fVar 0) (fCons (fCb lenD (fCons (fVar 1) fNil)) fNil)))) (gN 3)) (sStore (fVar 2) (fVar 3) (fCall 2 (F__law_pick ad) (fCons (fVar 0) (fCons (fLst (fCons (fC (.str (Str.ofString ""))) (fCons (fC (.str (Str.ofString "a"))) (fCons (fC (.str (Str.ofString "b"))) (fCons (fC (.str (Str.ofString "c"))) (fCons (fC (.str (Str.ofString "ab"))) (fCons (fC (.str (Str.ofString "ac"))) (fCons (fC (.str (Str.ofString "bc"))) (fCons (fC (.str (Str.ofString "abc"))) fNil))))))))) fNil)))))) (sRet (fTup (fCons (fC (.str (Str.ofString "witness"))) (fCons (fCall 2 (F__law_pick ad) (fCons (fVar 0) (fCons (fLst (fCons (fC (.str (Str.ofString "labels"))) (fCons (fC (.str (Str.ofString "row"))) (fCons (fC (.str (Str.ofString "turn"))) (fCons (fC (.str (Str.ofString "triangles"))) fNil))))) fNil))) (fCons (fZ (fVar 2)) fNil)))))))
def F__law_witness (ad : Ad) : FnM := Fdef false 4 (m__law_witness ad)
def m__law_witness_text (ad : Ad) : SM := (sSeq (sSet (fLc (iSeq (fCb sortedD (fCons (fBin oIx (fVar 0) (fC (.int 2))) fNil))) (gN 2) fYes (fBin oAdd (fBin oAdd (fVar 2) (fC (.str (Str.ofString " ")))) (fIf (fB (fBin (oEq true) (fBin oDget (fBin oIx (fVar 0) (fC (.int 2))) (fVar 2)) (fC (.str (Str.ofString ""))))) (fBin oDget (fBin oIx (fVar 0) (fC (.int 2))) (fVar 2)) (fC (.str (Str.ofString "-"))))) [2]) (gN 1)) (sRet (fBin oAdd (fBin oAdd (fBin oAdd (fC (.str (Str.ofString "witness "))) (fBin oIx (fVar 0) (fC (.int 1)))) (fC (.str (Str.ofString ": ")))) (fIf (fB (fBin (oEq true) (fVar 1) (fLst fNil))) (fM1 joinD (fC (.str (Str.ofString ", "))) (fVar 1)) (fC (.str (Str.ofString "-")))))))
def F__law_witness_text (ad : Ad) : FnM := Fdef false 3 (m__law_witness_text ad)
def m__law_steps_right (ad : Ad) : SM := (sSeq (sSet (fCb tupleD (fCons (fLc (iRg1 (fCall 2 (F__law_pull ad) (fCons (fVar 0) (fCons (fC (.int 5)) fNil)))) (gN 7) fYes (fCall 1 (F__law_step ad) (fCons (fVar 0) fNil)) [7]) fNil)) (gN 1)) (sSeq (sPar 2 3 (fCons (fCall 1 (F__law_steps_text ad) (fCons (fVar 1) fNil)) (fCons (fCall 1 (F__law_witness ad) (fCons (fVar 0) fNil)) fNil))) (sSeq (sIf (bOr (fB (fBin (oEq true) (fCall 1 (F_format_steps ad) (fCons (fVar 1) fNil)) (fVar 2))) (fB (fBin (oEq true) (fCb reprD (fCons (fCall 1 (F_parse_steps ad) (fCons (fVar 2) fNil)) fNil)) (fCb reprD (fCons (fVar 1) fNil))))) (sRet (fC (.bl false))) sNx) (sSeq (sIf (bOr (fB (fBin (oEq true) (fCall 1 (F_format_order ad) (fCons (fTup (fCons (fC (.str (Str.ofString "chain"))) (fCons (fVar 1) fNil))) fNil)) (fBin oAdd (fC (.str (Str.ofString "chain "))) (fVar 2)))) (fB (fBin (oEq true) (fCall 1 (F_parse_order ad) (fCons (fBin oAdd (fC (.str (Str.ofString "chain "))) (fVar 2)) fNil)) (fTup (fCons (fC (.str (Str.ofString "chain"))) (fCons (fVar 1) fNil)))))) (sRet (fC (.bl false))) sNx) (sSeq (sPar 4 5 (fCons (fCall 1 (F__law_witness_text ad) (fCons (fVar 3) fNil)) (fCons (fCb reprD (fCons (fVar 3) fNil)) fNil))) (sSeq (sSet (fCall 1 (F_parse_order ad) (fCons (fVar 4) fNil)) (gN 6)) (sSeq (sIf (bOr (fB (fBin (oEq true) (fCall 1 (F_format_order ad) (fCons (fVar 3) fNil)) (fVar 4))) (bOr (fB (fBin oNeT (fVar 6) (fVar 3))) (bOr (fB (fBin (oEq true) (fCb listD (fCons (fBin oIx (fVar 6) (fC (.int 2))) fNil)) (fCb sortedD (fCons (fBin oIx (fVar 3) (fC (.int 2))) fNil)))) (fB (fBin (oEq true) (fCb reprD (fCons (fVar 3) fNil)) (fVar 5)))))) (sRet (fC (.bl false))) sNx) (sSeq (sFor (iRg1 (fC (.int 6))) (gN 7) (sSeq (sSet (fCall 2 (F__law_spoilt ad) (fCons (fVar 0) (fCons (fCall 2 (F__law_pick ad) (fCons (fVar 0) (fCons (fLst (fCons (fBin oAdd (fC (.str (Str.ofString "chain "))) (fVar 2)) (fCons (fVar 4) fNil))) fNil))) fNil))) (gN 8)) (sSeq (sSet (fRead "ParseError" (fCall 1 (F_parse_order ad) (fCons (fVar 8) fNil))) (gN 9)) (sSeq (sIf (bOr (bAnd (fB (fBin (oEq false) (fVar 9) (fLst fNil))) (fB (fBin (oIn false) (fVar 8) (fTup (fCons (fBin oAdd (fC (.str (Str.ofString "chain "))) (fVar 2)) (fCons (fVar 4) fNil)))))) (bAnd (fB (fBin (oEq true) (fVar 9) (fLst fNil))) (fB (fBin (oEq true) (fCall 1 (F_format_order ad) (fCons (fBin oIx (fVar 9) (fC (.int 0))) fNil)) (fVar 8))))) (sRet (fC (.bl false))) sNx) (sSeq (sSet (fCall 2 (F__law_spoilt ad) (fCons (fVar 0) (fCons (fVar 2) fNil))) (gN 8)) (sSeq (sSet (fRead "ParseError" (fCall 1 (F_parse_steps ad) (fCons (fVar 8) fNil))) (gN 9)) (sIf (bOr (bAnd (fB (fBin (oEq false) (fVar 9) (fLst fNil))) (fB (fBin (oEq false) (fVar 8) (fVar 2)))) (bAnd (fB (fBin (oEq true) (fVar 9) (fLst fNil))) (fB (fBin (oEq true) (fCall 1 (F_format_steps ad) (fCons (fBin oIx (fVar 9) (fC (.int 0))) fNil)) (fVar 8))))) (sRet (fC (.bl false))) sNx))))))) (sRet (fC (.bl true)))))))))))
def F__law_steps_right (ad : Ad) : FnM := Fdef false 10 (m__law_steps_right ad)
def m__law_keeps_right (ad : Ad) : SM := (sSeq (sSet (fLc (iRg1 (fCall 2 (F__law_pull ad) (fCons (fVar 0) (fCons (fC (.int 12)) fNil)))) (gN 6) (fB (fBin (oEq false) (fCall 2 (F__law_pull ad) (fCons (fVar 0) (fCons (fC (.int 2)) fNil))) (fC (.int 0)))) (fVar 6) [6]) (gN 1)) (sSeq (sSet (fCb tupleD (fCons (fBin oAdd (fVar 1) (fSl (fLst (fCons (fC (.int 150)) (fCons (fC (.int 199)) fNil))) fNo (fPart (fCall 2 (F__law_pull ad) (fCons (fVar 0) (fCons (fC (.int 3)) fNil)))))) fNil)) (gN 1)) (sSeq (sSet (fIf (fB (fBin (oEq true) (fVar 1) (fTup fNil))) (fM1 joinD (fC (.str (Str.ofString " "))) (fLc (iSeq (fVar 1)) (gN 6) fYes (fCb strD (fCons (fVar 6) fNil)) [6])) (fC (.str (Str.ofString "none")))) (gN 2)) (sSeq (sIf (bOr (fB (fBin (oEq true) (fCall 1 (F_format_keep ad) (fCons (fVar 1) fNil)) (fVar 2))) (fB (fBin (oEq true) (fCb reprD (fCons (fCall 1 (F_parse_keep ad) (fCons (fVar 2) fNil)) fNil)) (fCb reprD (fCons (fVar 1) fNil))))) (sRet (fC (.bl false))) sNx) (sSeq (sFor (iRg1 (fC (.int 6))) (gN 3) (sSeq (sSet (fCall 2 (F__law_spoilt ad) (fCons (fVar 0) (fCons (fVar 2) fNil))) (gN 4)) (sSeq (sSet (fRead "ParseError" (fCall 1 (F_parse_keep ad) (fCons (fVar 4) fNil))) (gN 5)) (sIf (bOr (bAnd (fB (fBin (oEq false) (fVar 5) (fLst fNil))) (fB (fBin (oEq false) (fVar 4) (fVar 2)))) (bAnd (fB (fBin (oEq true) (fVar 5) (fLst fNil))) (fB (fBin (oEq true) (fCall 1 (F_format_keep ad) (fCons (fBin oIx (fVar 5) (fC (.int 0))) fNil)) (fVar 4))))) (sRet (fC (.bl false))) sNx)))) (sRet (fC (.bl true))))))))
def F__law_keeps_right (ad : Ad) : FnM := Fdef false 7 (m__law_keeps_right ad)
def m__law_amounts_right (ad : Ad) : SM := (sSeq (sSet (fCall 1 (F__law_scale ad) (fCons (fVar 0) fNil)) (gN 1)) (sSeq (sSet (fTup (fCons (fCall 1 (F__law_made ad) (fCons (fVar 1) fNil)) (fCons (fCall 2 (F__law_amount ad) (fCons (fVar 0) (fCons (fVar 1) fNil))) fNil))) (gT 2 (gC (gN 2) (gC (gN 3) gO)))) (sSeq (sSet (fCall 2 (F__law_amount_text ad) (fCons (fVar 1) (fCons (fVar 3) fNil))) (gN 4)) (sSeq (sIf (bOr (fB (fBin (oEq true) (fCall 2 (F_format_amount ad) (fCons (fVar 2) (fCons (fVar 3) fNil))) (fVar 4))) (fB (fBin (oEq true) (fCb reprD (fCons (fCall 2 (F_parse_amount ad) (fCons (fVar 2) (fCons (fVar 4) fNil))) fNil)) (fCb reprD (fCons (fVar 3) fNil))))) (sRet (fC (.bl false))) sNx) (sSeq (sFor (iRg1 (fC (.int 6))) (gN 5) (sSeq (sSet (fCall 2 (F__law_spoilt ad) (fCons (fVar 0) (fCons (fVar 4) fNil))) (gN 6)) (sSeq (sSet (fRead "ParseError" (fCall 2 (F_parse_amount ad) (fCons (fVar 2) (fCons (fVar 6) fNil)))) (gN 7)) (sIf (bOr (bAnd (fB (fBin (oEq false) (fVar 7) (fLst fNil))) (fB (fBin (oEq false) (fVar 6) (fVar 4)))) (bAnd (fB (fBin (oEq true) (fVar 7) (fLst fNil))) (fB (fBin (oEq true) (fCall 2 (F_format_amount ad) (fCons (fVar 2) (fCons (fBin oIx (fVar 7) (fC (.int 0))) fNil))) (fVar 6))))) (sRet (fC (.bl false))) sNx)))) (sRet (fC (.bl true))))))))
def F__law_amounts_right (ad : Ad) : FnM := Fdef false 8 (m__law_amounts_right ad)
def m_law (ad : Ad) : SM := (sSeq (sFor (iRg1 (fCb maxD (fCons (fC (.int 1)) (fCons (fCb minD (fCons (fC (.int 8)) (fCons (fCb lenD (fCons (fVar 0) fNil)) fNil))) fNil)))) (gN 1) (sSeq (sSet (fCall 2 (F__law_dice ad) (fCons (fVar 0) (fCons (fVar 1) fNil))) (gN 2)) (sFor (iRg1 (fC (.int 2))) (gN 3) (sIf (bOr (bNot (fTru (fCall 1 (F__law_steps_right ad) (fCons (fVar 2) fNil)))) (bOr (bNot (fTru (fCall 1 (F__law_keeps_right ad) (fCons (fVar 2) fNil)))) (bNot (fTru (fCall 1 (F__law_amounts_right ad) (fCons (fVar 2) fNil)))))) (sRet (fC (.bl false))) sNx)))) (sSeq (sSet (fLst (fCons (fC (.str (Str.ofString ""))) (fCons (fC (.str (Str.ofString "-"))) (fCons (fC (.str (Str.ofString "chain"))) (fCons (fC (.str (Str.ofString "chain "))) (fCons (fC (.str (Str.ofString "no steps"))) (fCons (fC (.str (Str.ofString "chain -"))) (fCons (fC (.str (Str.ofString "witness labels"))) (fCons (fC (.str (Str.ofString "witness labels: "))) (fCons (fC (.str (Str.ofString "witness both: a a"))) fNil)))))))))) (gN 4)) (sSeq (sSet (fBin oAdd (fVar 4) (fLst (fCons (fC (.str (Str.ofString "witness labels: a a, a b"))) (fCons (fC (.str (Str.ofString "witness labels: b a, a b"))) (fCons (fC (.str (Str.ofString "witness labels: a ba"))) (fCons (fC (.str (Str.ofString "witness row: a  a"))) fNil)))))) (gN 4)) (sSeq (sIf (fB (fBin (oEq true) (fLc (iSeq (fVar 4)) (gN 8) (fB (fBin (oEq true) (fRead "ParseError" (fCall 1 (F_parse_order ad) (fCons (fVar 8) fNil))) (fLst fNil))) (fVar 8) [8]) (fLst fNil))) (sRet (fC (.bl false))) sNx) (sSeq (sSet (fLst (fCons (fC (.str (Str.ofString ""))) (fCons (fC (.str (Str.ofString "-"))) (fCons (fC (.str (Str.ofString "1 0"))) (fCons (fC (.str (Str.ofString "0 0"))) (fCons (fC (.str (Str.ofString "200"))) (fCons (fC (.str (Str.ofString "-1"))) (fCons (fC (.str (Str.ofString "01"))) (fCons (fC (.str (Str.ofString "0  1"))) (fCons (fC (.str (Str.ofString " 0"))) (fCons (fC (.str (Str.ofString "0 "))) (fCons (fC (.str (Str.ofString "0,1"))) (fCons (fC (.str (Str.ofString "+1"))) (fCons (fC (.str (Str.ofString "1_0"))) (fCons (fC (.str (Str.ofString "none none"))) fNil))))))))))))))) (gN 4)) (sSeq (sIf (fB (fBin (oEq true) (fLc (iSeq (fVar 4)) (gN 8) (fB (fBin (oEq true) (fRead "ParseError" (fCall 1 (F_parse_keep ad) (fCons (fVar 8) fNil))) (fLst fNil))) (fVar 8) [8]) (fLst fNil))) (sRet (fC (.bl false))) sNx) (sSeq (sSet (fTup (fCons (fCall 0 (F_Scale_odds ad) fNil) (fCons (fCall 1 (F_Scale_classes ad) (fCons (fC (.int 2)) fNil)) fNil))) (gT 2 (gC (gN 5) (gC (gN 6) gO)))) (sSeq (sSet (fLst (fCons (fC (.str (Str.ofString "4:2"))) (fCons (fC (.str (Str.ofString "0:1"))) (fCons (fC (.str (Str.ofString "3"))) (fCons (fC (.str (Str.ofString "3:2:1"))) (fCons (fC (.str (Str.ofString "-3:-2"))) (fCons (fC (.str (Str.ofString "3/2"))) (fCons (fC (.str (Str.ofString "2 :1"))) fNil)))))))) (gN 4)) (sSeq (sSet (fLc (iSeq (fVar 4)) (gN 8) fYes (fRead "ParseError" (fCall 2 (F_parse_amount ad) (fCons (fVar 5) (fCons (fVar 8) fNil)))) [8]) (gN 7)) (sSeq (sSet (fLst (fCons (fC (.str (Str.ofString "1"))) (fCons (fC (.str (Str.ofString "1/2/3"))) (fCons (fC (.str (Str.ofString "1:2"))) (fCons (fC (.str (Str.ofString "-0/1"))) (fCons (fC (.str (Str.ofString "1/"))) (fCons (fC (.str (Str.ofString "/1"))) fNil))))))) (gN 4)) (sSeq (sSet (fBin oAdd (fVar 7) (fLc (iSeq (fVar 4)) (gN 8) fYes (fRead "ParseError" (fCall 2 (F_parse_amount ad) (fCons (fVar 6) (fCons (fVar 8) fNil)))) [8])) (gN 7)) (sSeq (sIf (fB (fBin (oEq true) (fLc (iSeq (fVar 7)) (gN 9) (fB (fBin (oEq true) (fVar 9) (fLst fNil))) (fVar 9) [9]) (fLst fNil))) (sRet (fC (.bl false))) sNx) (sSeq (sSet (fLst (fCons (fCall 2 (F_parse_amount ad) (fCons (fVar 5) (fCons (fC (.str (Str.ofString "1:3"))) fNil))) (fCons (fCall 2 (F_parse_amount ad) (fCons (fVar 6) (fCons (fC (.str (Str.ofString "-1/0"))) fNil))) (fCons (fCall 1 (F_format_keep ad) (fCons (fTup (fCons (fC (.int 0)) (fCons (fC (.int 199)) fNil))) fNil)) fNil)))) (gN 7)) (sRet (fBin (oEq false) (fVar 7) (fLst (fCons (fTup (fCons (fC (.int 1)) (fCons (fC (.int 3)) fNil))) (fCons (fTup (fCons (fUn negD (fC (.int 1))) (fCons (fC (.int 0)) fNil))) (fCons (fC (.str (Str.ofString "0 199"))) fNil)))))))))))))))))))
def F_law (ad : Ad) : FnM := Fdef false 10 (m_law ad)
end M87

-- W87
/-! W87: the defs, the facts. Printed by gen.py. -/
namespace M87
open PySem PySem.Spec PyProof.Rows L2 DL
def top (i : Nat) : Stmt := PySem.Challenge.pw_mostkept_k87_texts_of_steps_and_keeps.main.body.getD i (.Pass ⟨0, 0, 0, 0⟩)
abbrev s_is_integer : Stmt := top 13
abbrev N_is_integer : List Str := [(Str.ofString "value")]
abbrev P_is_integer : List Str := [(Str.ofString "value")]
theorem S_is_integer : FnScope N_is_integer P_is_integer (defScope s_is_integer) := ⟨rfl, rfl, rfl, by decide +kernel, rfl, by decide +kernel, by decide +kernel⟩
abbrev s_is_index : Stmt := top 14
abbrev N_is_index : List Str := [(Str.ofString "total"), (Str.ofString "value")]
abbrev P_is_index : List Str := [(Str.ofString "total"), (Str.ofString "value")]
theorem S_is_index : FnScope N_is_index P_is_index (defScope s_is_index) := ⟨rfl, rfl, rfl, by decide +kernel, rfl, by decide +kernel, by decide +kernel⟩
abbrev s_is_name : Stmt := top 15
abbrev N_is_name : List Str := [(Str.ofString "value"), (Str.ofString "sign")]
abbrev P_is_name : List Str := [(Str.ofString "value")]
theorem S_is_name : FnScope N_is_name P_is_name (defScope s_is_name) := ⟨rfl, rfl, rfl, by decide +kernel, rfl, by decide +kernel, by decide +kernel⟩
abbrev s_are_columns : Stmt := top 16
abbrev N_are_columns : List Str := [(Str.ofString "value"), (Str.ofString "name"), (Str.ofString "one"), (Str.ofString "other")]
abbrev P_are_columns : List Str := [(Str.ofString "value")]
theorem S_are_columns : FnScope N_are_columns P_are_columns (defScope s_are_columns) := ⟨rfl, rfl, rfl, by decide +kernel, rfl, by decide +kernel, by decide +kernel⟩
abbrev s_common_divisor : Stmt := top 22
abbrev N_common_divisor : List Str := [(Str.ofString "one"), (Str.ofString "other")]
abbrev P_common_divisor : List Str := [(Str.ofString "one"), (Str.ofString "other")]
theorem S_common_divisor : FnScope N_common_divisor P_common_divisor (defScope s_common_divisor) := ⟨rfl, rfl, rfl, by decide +kernel, rfl, by decide +kernel, by decide +kernel⟩
abbrev s_is_fraction : Stmt := top 24
abbrev N_is_fraction : List Str := [(Str.ofString "value"), (Str.ofString "one")]
abbrev P_is_fraction : List Str := [(Str.ofString "value")]
theorem S_is_fraction : FnScope N_is_fraction P_is_fraction (defScope s_is_fraction) := ⟨rfl, rfl, rfl, by decide +kernel, rfl, by decide +kernel, by decide +kernel⟩
abbrev s_Scale___init__ : Stmt := inClass (top 25) 0
abbrev N_Scale___init__ : List Str := [(Str.ofString "self"), (Str.ofString "word"), (Str.ofString "size"), (Str.ofString "zero"), (Str.ofString "one")]
abbrev P_Scale___init__ : List Str := [(Str.ofString "self"), (Str.ofString "word"), (Str.ofString "size"), (Str.ofString "zero"), (Str.ofString "one")]
theorem S_Scale___init__ : FnScope N_Scale___init__ P_Scale___init__ (defScope s_Scale___init__) := ⟨rfl, rfl, rfl, by decide +kernel, rfl, by decide +kernel, by decide +kernel⟩
abbrev s_Scale_sums : Stmt := inClass (top 25) 1
abbrev N_Scale_sums : List Str := []
abbrev P_Scale_sums : List Str := []
theorem S_Scale_sums : FnScope N_Scale_sums P_Scale_sums (defScope s_Scale_sums) := ⟨rfl, rfl, rfl, by decide +kernel, rfl, by decide +kernel, by decide +kernel⟩
abbrev s_Scale_classes : Stmt := inClass (top 25) 2
abbrev N_Scale_classes : List Str := [(Str.ofString "size")]
abbrev P_Scale_classes : List Str := [(Str.ofString "size")]
theorem S_Scale_classes : FnScope N_Scale_classes P_Scale_classes (defScope s_Scale_classes) := ⟨rfl, rfl, rfl, by decide +kernel, rfl, by decide +kernel, by decide +kernel⟩
abbrev s_Scale_odds : Stmt := inClass (top 25) 3
abbrev N_Scale_odds : List Str := []
abbrev P_Scale_odds : List Str := []
theorem S_Scale_odds : FnScope N_Scale_odds P_Scale_odds (defScope s_Scale_odds) := ⟨rfl, rfl, rfl, by decide +kernel, rfl, by decide +kernel, by decide +kernel⟩
abbrev s_SumScale_has_form : Stmt := inClass (top 26) 0
abbrev N_SumScale_has_form : List Str := [(Str.ofString "self"), (Str.ofString "value")]
abbrev P_SumScale_has_form : List Str := [(Str.ofString "self"), (Str.ofString "value")]
theorem S_SumScale_has_form : FnScope N_SumScale_has_form P_SumScale_has_form (defScope s_SumScale_has_form) := ⟨rfl, rfl, rfl, by decide +kernel, rfl, by decide +kernel, by decide +kernel⟩
abbrev s_ClassScale_has_form : Stmt := inClass (top 27) 0
abbrev N_ClassScale_has_form : List Str := [(Str.ofString "self"), (Str.ofString "value"), (Str.ofString "one")]
abbrev P_ClassScale_has_form : List Str := [(Str.ofString "self"), (Str.ofString "value")]
theorem S_ClassScale_has_form : FnScope N_ClassScale_has_form P_ClassScale_has_form (defScope s_ClassScale_has_form) := ⟨rfl, rfl, rfl, by decide +kernel, rfl, by decide +kernel, by decide +kernel⟩
abbrev s_OddsScale_has_form : Stmt := inClass (top 28) 0
abbrev N_OddsScale_has_form : List Str := [(Str.ofString "self"), (Str.ofString "value")]
abbrev P_OddsScale_has_form : List Str := [(Str.ofString "self"), (Str.ofString "value")]
theorem S_OddsScale_has_form : FnScope N_OddsScale_has_form P_OddsScale_has_form (defScope s_OddsScale_has_form) := ⟨rfl, rfl, rfl, by decide +kernel, rfl, by decide +kernel, by decide +kernel⟩
abbrev s_Scale_is_amount : Stmt := inClass (top 25) 9
abbrev N_Scale_is_amount : List Str := [(Str.ofString "self"), (Str.ofString "value")]
abbrev P_Scale_is_amount : List Str := [(Str.ofString "self"), (Str.ofString "value")]
theorem S_Scale_is_amount : FnScope N_Scale_is_amount P_Scale_is_amount (defScope s_Scale_is_amount) := ⟨rfl, rfl, rfl, by decide +kernel, rfl, by decide +kernel, by decide +kernel⟩
abbrev s_Scale___eq__ : Stmt := inClass (top 25) 25
abbrev N_Scale___eq__ : List Str := [(Str.ofString "self"), (Str.ofString "other")]
abbrev P_Scale___eq__ : List Str := [(Str.ofString "self"), (Str.ofString "other")]
theorem S_Scale___eq__ : FnScope N_Scale___eq__ P_Scale___eq__ (defScope s_Scale___eq__) := ⟨rfl, rfl, rfl, by decide +kernel, rfl, by decide +kernel, by decide +kernel⟩
abbrev s_require_scale : Stmt := top 29
abbrev N_require_scale : List Str := [(Str.ofString "scale")]
abbrev P_require_scale : List Str := [(Str.ofString "scale")]
theorem S_require_scale : FnScope N_require_scale P_require_scale (defScope s_require_scale) := ⟨rfl, rfl, rfl, by decide +kernel, rfl, by decide +kernel, by decide +kernel⟩
abbrev s_are_indices : Stmt := top 30
abbrev N_are_indices : List Str := [(Str.ofString "total"), (Str.ofString "value"), (Str.ofString "index"), (Str.ofString "one"), (Str.ofString "other")]
abbrev P_are_indices : List Str := [(Str.ofString "total"), (Str.ofString "value")]
theorem S_are_indices : FnScope N_are_indices P_are_indices (defScope s_are_indices) := ⟨rfl, rfl, rfl, by decide +kernel, rfl, by decide +kernel, by decide +kernel⟩
abbrev s_is_step_form : Stmt := top 40
abbrev N_is_step_form : List Str := [(Str.ofString "value")]
abbrev P_is_step_form : List Str := [(Str.ofString "value")]
theorem S_is_step_form : FnScope N_is_step_form P_is_step_form (defScope s_is_step_form) := ⟨rfl, rfl, rfl, by decide +kernel, rfl, by decide +kernel, by decide +kernel⟩
abbrev s_are_step_forms : Stmt := top 41
abbrev N_are_step_forms : List Str := [(Str.ofString "value"), (Str.ofString "step")]
abbrev P_are_step_forms : List Str := [(Str.ofString "value")]
theorem S_are_step_forms : FnScope N_are_step_forms P_are_step_forms (defScope s_are_step_forms) := ⟨rfl, rfl, rfl, by decide +kernel, rfl, by decide +kernel, by decide +kernel⟩
abbrev s_are_makings : Stmt := top 42
abbrev N_are_makings : List Str := [(Str.ofString "value"), (Str.ofString "name"), (Str.ofString "making")]
abbrev P_are_makings : List Str := [(Str.ofString "value")]
theorem S_are_makings : FnScope N_are_makings P_are_makings (defScope s_are_makings) := ⟨rfl, rfl, rfl, by decide +kernel, rfl, by decide +kernel, by decide +kernel⟩
abbrev s_is_order_form : Stmt := top 43
abbrev N_is_order_form : List Str := [(Str.ofString "value")]
abbrev P_is_order_form : List Str := [(Str.ofString "value")]
theorem S_is_order_form : FnScope N_is_order_form P_is_order_form (defScope s_is_order_form) := ⟨rfl, rfl, rfl, by decide +kernel, rfl, by decide +kernel, by decide +kernel⟩
abbrev s_are_keep_indices : Stmt := top 44
abbrev N_are_keep_indices : List Str := [(Str.ofString "value")]
abbrev P_are_keep_indices : List Str := [(Str.ofString "value")]
theorem S_are_keep_indices : FnScope N_are_keep_indices P_are_keep_indices (defScope s_are_keep_indices) := ⟨rfl, rfl, rfl, by decide +kernel, rfl, by decide +kernel, by decide +kernel⟩
abbrev s_integer_in : Stmt := top 53
abbrev N_integer_in : List Str := [(Str.ofString "text"), (Str.ofString "figures"), (Str.ofString "sign")]
abbrev P_integer_in : List Str := [(Str.ofString "text")]
theorem S_integer_in : FnScope N_integer_in P_integer_in (defScope s_integer_in) := ⟨rfl, rfl, rfl, by decide +kernel, rfl, by decide +kernel, by decide +kernel⟩
abbrev s_require_text : Stmt := top 54
abbrev N_require_text : List Str := [(Str.ofString "text")]
abbrev P_require_text : List Str := [(Str.ofString "text")]
theorem S_require_text : FnScope N_require_text P_require_text (defScope s_require_text) := ⟨rfl, rfl, rfl, by decide +kernel, rfl, by decide +kernel, by decide +kernel⟩
abbrev s_require_same : Stmt := top 55
abbrev N_require_same : List Str := [(Str.ofString "text"), (Str.ofString "other")]
abbrev P_require_same : List Str := [(Str.ofString "text"), (Str.ofString "other")]
theorem S_require_same : FnScope N_require_same P_require_same (defScope s_require_same) := ⟨rfl, rfl, rfl, by decide +kernel, rfl, by decide +kernel, by decide +kernel⟩
abbrev s_columns_text : Stmt := top 56
abbrev N_columns_text : List Str := [(Str.ofString "columns")]
abbrev P_columns_text : List Str := [(Str.ofString "columns")]
theorem S_columns_text : FnScope N_columns_text P_columns_text (defScope s_columns_text) := ⟨rfl, rfl, rfl, by decide +kernel, rfl, by decide +kernel, by decide +kernel⟩
abbrev s_columns_in : Stmt := top 57
abbrev N_columns_in : List Str := [(Str.ofString "text")]
abbrev P_columns_in : List Str := [(Str.ofString "text")]
theorem S_columns_in : FnScope N_columns_in P_columns_in (defScope s_columns_in) := ⟨rfl, rfl, rfl, by decide +kernel, rfl, by decide +kernel, by decide +kernel⟩
abbrev s_values_text : Stmt := top 58
abbrev N_values_text : List Str := [(Str.ofString "values"), (Str.ofString "one")]
abbrev P_values_text : List Str := [(Str.ofString "values")]
theorem S_values_text : FnScope N_values_text P_values_text (defScope s_values_text) := ⟨rfl, rfl, rfl, by decide +kernel, rfl, by decide +kernel, by decide +kernel⟩
abbrev s_values_in : Stmt := top 59
abbrev N_values_in : List Str := [(Str.ofString "text"), (Str.ofString "word")]
abbrev P_values_in : List Str := [(Str.ofString "text")]
theorem S_values_in : FnScope N_values_in P_values_in (defScope s_values_in) := ⟨rfl, rfl, rfl, by decide +kernel, rfl, by decide +kernel, by decide +kernel⟩
abbrev s_keep_text : Stmt := top 60
abbrev N_keep_text : List Str := [(Str.ofString "keep")]
abbrev P_keep_text : List Str := [(Str.ofString "keep")]
theorem S_keep_text : FnScope N_keep_text P_keep_text (defScope s_keep_text) := ⟨rfl, rfl, rfl, by decide +kernel, rfl, by decide +kernel, by decide +kernel⟩
abbrev s_keep_in : Stmt := top 61
abbrev N_keep_in : List Str := [(Str.ofString "text")]
abbrev P_keep_in : List Str := [(Str.ofString "text")]
theorem S_keep_in : FnScope N_keep_in P_keep_in (defScope s_keep_in) := ⟨rfl, rfl, rfl, by decide +kernel, rfl, by decide +kernel, by decide +kernel⟩
abbrev s_amount_text : Stmt := top 62
abbrev N_amount_text : List Str := [(Str.ofString "scale"), (Str.ofString "amount"), (Str.ofString "one")]
abbrev P_amount_text : List Str := [(Str.ofString "scale"), (Str.ofString "amount")]
theorem S_amount_text : FnScope N_amount_text P_amount_text (defScope s_amount_text) := ⟨rfl, rfl, rfl, by decide +kernel, rfl, by decide +kernel, by decide +kernel⟩
abbrev s_amount_in : Stmt := top 63
abbrev N_amount_in : List Str := [(Str.ofString "scale"), (Str.ofString "text"), (Str.ofString "found"), (Str.ofString "word")]
abbrev P_amount_in : List Str := [(Str.ofString "scale"), (Str.ofString "text")]
theorem S_amount_in : FnScope N_amount_in P_amount_in (defScope s_amount_in) := ⟨rfl, rfl, rfl, by decide +kernel, rfl, by decide +kernel, by decide +kernel⟩
abbrev s_step_text : Stmt := top 64
abbrev N_step_text : List Str := [(Str.ofString "step")]
abbrev P_step_text : List Str := [(Str.ofString "step")]
theorem S_step_text : FnScope N_step_text P_step_text (defScope s_step_text) := ⟨rfl, rfl, rfl, by decide +kernel, rfl, by decide +kernel, by decide +kernel⟩
abbrev s_steps_text : Stmt := top 65
abbrev N_steps_text : List Str := [(Str.ofString "steps"), (Str.ofString "step")]
abbrev P_steps_text : List Str := [(Str.ofString "steps")]
theorem S_steps_text : FnScope N_steps_text P_steps_text (defScope s_steps_text) := ⟨rfl, rfl, rfl, by decide +kernel, rfl, by decide +kernel, by decide +kernel⟩
abbrev s_step_in : Stmt := top 66
abbrev N_step_in : List Str := [(Str.ofString "text"), (Str.ofString "word"), (Str.ofString "sign"), (Str.ofString "rest"), (Str.ofString "left"), (Str.ofString "other")]
abbrev P_step_in : List Str := [(Str.ofString "text")]
theorem S_step_in : FnScope N_step_in P_step_in (defScope s_step_in) := ⟨rfl, rfl, rfl, by decide +kernel, rfl, by decide +kernel, by decide +kernel⟩
abbrev s_steps_in : Stmt := top 67
abbrev N_steps_in : List Str := [(Str.ofString "text"), (Str.ofString "found"), (Str.ofString "part")]
abbrev P_steps_in : List Str := [(Str.ofString "text")]
theorem S_steps_in : FnScope N_steps_in P_steps_in (defScope s_steps_in) := ⟨rfl, rfl, rfl, by decide +kernel, rfl, by decide +kernel, by decide +kernel⟩
abbrev s_order_text : Stmt := top 69
abbrev N_order_text : List Str := [(Str.ofString "paper"), (Str.ofString "rows"), (Str.ofString "name")]
abbrev P_order_text : List Str := [(Str.ofString "paper")]
theorem S_order_text : FnScope N_order_text P_order_text (defScope s_order_text) := ⟨rfl, rfl, rfl, by decide +kernel, rfl, by decide +kernel, by decide +kernel⟩
abbrev s_making_in : Stmt := top 70
abbrev N_making_in : List Str := [(Str.ofString "text"), (Str.ofString "name"), (Str.ofString "sign"), (Str.ofString "making")]
abbrev P_making_in : List Str := [(Str.ofString "text")]
theorem S_making_in : FnScope N_making_in P_making_in (defScope s_making_in) := ⟨rfl, rfl, rfl, by decide +kernel, rfl, by decide +kernel, by decide +kernel⟩
abbrev s_order_in : Stmt := top 71
abbrev N_order_in : List Str := [(Str.ofString "text"), (Str.ofString "word"), (Str.ofString "sign"), (Str.ofString "rest"), (Str.ofString "problem"), (Str.ofString "told"), (Str.ofString "makings"), (Str.ofString "found"), (Str.ofString "row")]
abbrev P_order_in : List Str := [(Str.ofString "text")]
theorem S_order_in : FnScope N_order_in P_order_in (defScope s_order_in) := ⟨rfl, rfl, rfl, by decide +kernel, rfl, by decide +kernel, by decide +kernel⟩
abbrev s_format_steps : Stmt := top 72
abbrev N_format_steps : List Str := [(Str.ofString "steps")]
abbrev P_format_steps : List Str := [(Str.ofString "steps")]
theorem S_format_steps : FnScope N_format_steps P_format_steps (defScope s_format_steps) := ⟨rfl, rfl, rfl, by decide +kernel, rfl, by decide +kernel, by decide +kernel⟩
abbrev s_parse_steps : Stmt := top 73
abbrev N_parse_steps : List Str := [(Str.ofString "text")]
abbrev P_parse_steps : List Str := [(Str.ofString "text")]
theorem S_parse_steps : FnScope N_parse_steps P_parse_steps (defScope s_parse_steps) := ⟨rfl, rfl, rfl, by decide +kernel, rfl, by decide +kernel, by decide +kernel⟩
abbrev s_format_order : Stmt := top 74
abbrev N_format_order : List Str := [(Str.ofString "paper")]
abbrev P_format_order : List Str := [(Str.ofString "paper")]
theorem S_format_order : FnScope N_format_order P_format_order (defScope s_format_order) := ⟨rfl, rfl, rfl, by decide +kernel, rfl, by decide +kernel, by decide +kernel⟩
abbrev s_parse_order : Stmt := top 75
abbrev N_parse_order : List Str := [(Str.ofString "text")]
abbrev P_parse_order : List Str := [(Str.ofString "text")]
theorem S_parse_order : FnScope N_parse_order P_parse_order (defScope s_parse_order) := ⟨rfl, rfl, rfl, by decide +kernel, rfl, by decide +kernel, by decide +kernel⟩
abbrev s_format_keep : Stmt := top 76
abbrev N_format_keep : List Str := [(Str.ofString "keep")]
abbrev P_format_keep : List Str := [(Str.ofString "keep")]
theorem S_format_keep : FnScope N_format_keep P_format_keep (defScope s_format_keep) := ⟨rfl, rfl, rfl, by decide +kernel, rfl, by decide +kernel, by decide +kernel⟩
abbrev s_parse_keep : Stmt := top 77
abbrev N_parse_keep : List Str := [(Str.ofString "text"), (Str.ofString "found")]
abbrev P_parse_keep : List Str := [(Str.ofString "text")]
theorem S_parse_keep : FnScope N_parse_keep P_parse_keep (defScope s_parse_keep) := ⟨rfl, rfl, rfl, by decide +kernel, rfl, by decide +kernel, by decide +kernel⟩
abbrev s_format_amount : Stmt := top 78
abbrev N_format_amount : List Str := [(Str.ofString "scale"), (Str.ofString "amount")]
abbrev P_format_amount : List Str := [(Str.ofString "scale"), (Str.ofString "amount")]
theorem S_format_amount : FnScope N_format_amount P_format_amount (defScope s_format_amount) := ⟨rfl, rfl, rfl, by decide +kernel, rfl, by decide +kernel, by decide +kernel⟩
abbrev s_parse_amount : Stmt := top 79
abbrev N_parse_amount : List Str := [(Str.ofString "scale"), (Str.ofString "text")]
abbrev P_parse_amount : List Str := [(Str.ofString "scale"), (Str.ofString "text")]
theorem S_parse_amount : FnScope N_parse_amount P_parse_amount (defScope s_parse_amount) := ⟨rfl, rfl, rfl, by decide +kernel, rfl, by decide +kernel, by decide +kernel⟩
abbrev s__law_dice : Stmt := top 81
abbrev N__law_dice : List Str := [(Str.ofString "_law_script"), (Str.ofString "_law_at"), (Str.ofString "_law_cell"), (Str.ofString "_law_great"), (Str.ofString "_law_mixed")]
abbrev P__law_dice : List Str := [(Str.ofString "_law_script"), (Str.ofString "_law_at")]
theorem S__law_dice : FnScope N__law_dice P__law_dice (defScope s__law_dice) := ⟨rfl, rfl, rfl, by decide +kernel, rfl, by decide +kernel, by decide +kernel⟩
abbrev s__law_pull : Stmt := top 82
abbrev N__law_pull : List Str := [(Str.ofString "_law_dice_here"), (Str.ofString "_law_total"), (Str.ofString "_law_found"), (Str.ofString "_law_one"), (Str.ofString "_law_two")]
abbrev P__law_pull : List Str := [(Str.ofString "_law_dice_here"), (Str.ofString "_law_total")]
theorem S__law_pull : FnScope N__law_pull P__law_pull (defScope s__law_pull) := ⟨rfl, rfl, rfl, by decide +kernel, rfl, by decide +kernel, by decide +kernel⟩
abbrev s__law_pick : Stmt := top 83
abbrev N__law_pick : List Str := [(Str.ofString "_law_dice_here"), (Str.ofString "_law_items")]
abbrev P__law_pick : List Str := [(Str.ofString "_law_dice_here"), (Str.ofString "_law_items")]
theorem S__law_pick : FnScope N__law_pick P__law_pick (defScope s__law_pick) := ⟨rfl, rfl, rfl, by decide +kernel, rfl, by decide +kernel, by decide +kernel⟩
abbrev s__law_columns : Stmt := top 84
abbrev N__law_columns : List Str := [(Str.ofString "_law_dice_here"), (Str.ofString "_law_total"), (Str.ofString "_law_signs"), (Str.ofString "_law_found"), (Str.ofString "_law_at"), (Str.ofString "_law_word"), (Str.ofString "_law_turn")]
abbrev P__law_columns : List Str := [(Str.ofString "_law_dice_here"), (Str.ofString "_law_total")]
theorem S__law_columns : FnScope N__law_columns P__law_columns (defScope s__law_columns) := ⟨rfl, rfl, rfl, by decide +kernel, rfl, by decide +kernel, by decide +kernel⟩
abbrev s__law_some : Stmt := top 85
abbrev N__law_some : List Str := [(Str.ofString "_law_dice_here"), (Str.ofString "_law_columns_here"), (Str.ofString "_law_share"), (Str.ofString "_law_name")]
abbrev P__law_some : List Str := [(Str.ofString "_law_dice_here"), (Str.ofString "_law_columns_here"), (Str.ofString "_law_share")]
theorem S__law_some : FnScope N__law_some P__law_some (defScope s__law_some) := ⟨rfl, rfl, rfl, by decide +kernel, rfl, by decide +kernel, by decide +kernel⟩
abbrev s__law_scale : Stmt := top 86
abbrev N__law_scale : List Str := [(Str.ofString "_law_dice_here")]
abbrev P__law_scale : List Str := [(Str.ofString "_law_dice_here")]
theorem S__law_scale : FnScope N__law_scale P__law_scale (defScope s__law_scale) := ⟨rfl, rfl, rfl, by decide +kernel, rfl, by decide +kernel, by decide +kernel⟩
abbrev s__law_lowest : Stmt := top 87
abbrev N__law_lowest : List Str := [(Str.ofString "_law_top"), (Str.ofString "_law_bottom"), (Str.ofString "_law_one"), (Str.ofString "_law_other")]
abbrev P__law_lowest : List Str := [(Str.ofString "_law_top"), (Str.ofString "_law_bottom")]
theorem S__law_lowest : FnScope N__law_lowest P__law_lowest (defScope s__law_lowest) := ⟨rfl, rfl, rfl, by decide +kernel, rfl, by decide +kernel, by decide +kernel⟩
abbrev s__law_weight : Stmt := top 88
abbrev N__law_weight : List Str := [(Str.ofString "_law_dice_here"), (Str.ofString "_law_measure"), (Str.ofString "_law_found"), (Str.ofString "_law_bottom"), (Str.ofString "_law_turn"), (Str.ofString "_law_one")]
abbrev P__law_weight : List Str := [(Str.ofString "_law_dice_here"), (Str.ofString "_law_measure")]
theorem S__law_weight : FnScope N__law_weight P__law_weight (defScope s__law_weight) := ⟨rfl, rfl, rfl, by decide +kernel, rfl, by decide +kernel, by decide +kernel⟩
abbrev s__law_made : Stmt := top 89
abbrev N__law_made : List Str := [(Str.ofString "_law_measure")]
abbrev P__law_made : List Str := [(Str.ofString "_law_measure")]
theorem S__law_made : FnScope N__law_made P__law_made (defScope s__law_made) := ⟨rfl, rfl, rfl, by decide +kernel, rfl, by decide +kernel, by decide +kernel⟩
abbrev s__law_amount : Stmt := top 90
abbrev N__law_amount : List Str := [(Str.ofString "_law_dice_here"), (Str.ofString "_law_measure"), (Str.ofString "_law_found"), (Str.ofString "_law_big"), (Str.ofString "_law_turn")]
abbrev P__law_amount : List Str := [(Str.ofString "_law_dice_here"), (Str.ofString "_law_measure")]
theorem S__law_amount : FnScope N__law_amount P__law_amount (defScope s__law_amount) := ⟨rfl, rfl, rfl, by decide +kernel, rfl, by decide +kernel, by decide +kernel⟩
abbrev s__law_amount_text : Stmt := top 91
abbrev N__law_amount_text : List Str := [(Str.ofString "_law_measure"), (Str.ofString "_law_amount_here"), (Str.ofString "_law_one")]
abbrev P__law_amount_text : List Str := [(Str.ofString "_law_measure"), (Str.ofString "_law_amount_here")]
theorem S__law_amount_text : FnScope N__law_amount_text P__law_amount_text (defScope s__law_amount_text) := ⟨rfl, rfl, rfl, by decide +kernel, rfl, by decide +kernel, by decide +kernel⟩
abbrev s__law_columns_text : Stmt := top 92
abbrev N__law_columns_text : List Str := [(Str.ofString "_law_columns_here")]
abbrev P__law_columns_text : List Str := [(Str.ofString "_law_columns_here")]
theorem S__law_columns_text : FnScope N__law_columns_text P__law_columns_text (defScope s__law_columns_text) := ⟨rfl, rfl, rfl, by decide +kernel, rfl, by decide +kernel, by decide +kernel⟩
abbrev s__law_values_text : Stmt := top 93
abbrev N__law_values_text : List Str := [(Str.ofString "_law_values"), (Str.ofString "_law_one")]
abbrev P__law_values_text : List Str := [(Str.ofString "_law_values")]
theorem S__law_values_text : FnScope N__law_values_text P__law_values_text (defScope s__law_values_text) := ⟨rfl, rfl, rfl, by decide +kernel, rfl, by decide +kernel, by decide +kernel⟩
abbrev s__law_spoilt : Stmt := top 94
abbrev N__law_spoilt : List Str := [(Str.ofString "_law_dice_here"), (Str.ofString "_law_text"), (Str.ofString "_law_signs"), (Str.ofString "_law_at"), (Str.ofString "_law_sign"), (Str.ofString "_law_way")]
abbrev P__law_spoilt : List Str := [(Str.ofString "_law_dice_here"), (Str.ofString "_law_text")]
theorem S__law_spoilt : FnScope N__law_spoilt P__law_spoilt (defScope s__law_spoilt) := ⟨rfl, rfl, rfl, by decide +kernel, rfl, by decide +kernel, by decide +kernel⟩
abbrev s__law_read : Stmt := top 95
abbrev N__law_read : List Str := [(Str.ofString "_law_call")]
abbrev P__law_read : List Str := [(Str.ofString "_law_call")]
theorem S__law_read : FnScope N__law_read P__law_read (defScope s__law_read) := ⟨rfl, rfl, rfl, by decide +kernel, rfl, by decide +kernel, by decide +kernel⟩
abbrev s__law_step : Stmt := top 96
abbrev N__law_step : List Str := [(Str.ofString "_law_dice_here"), (Str.ofString "_law_columns_here"), (Str.ofString "_law_way")]
abbrev P__law_step : List Str := [(Str.ofString "_law_dice_here")]
theorem S__law_step : FnScope N__law_step P__law_step (defScope s__law_step) := ⟨rfl, rfl, rfl, by decide +kernel, rfl, by decide +kernel, by decide +kernel⟩
abbrev s__law_steps_text : Stmt := top 97
abbrev N__law_steps_text : List Str := [(Str.ofString "_law_some_here"), (Str.ofString "_law_found"), (Str.ofString "_law_one")]
abbrev P__law_steps_text : List Str := [(Str.ofString "_law_some_here")]
theorem S__law_steps_text : FnScope N__law_steps_text P__law_steps_text (defScope s__law_steps_text) := ⟨rfl, rfl, rfl, by decide +kernel, rfl, by decide +kernel, by decide +kernel⟩
abbrev s__law_witness : Stmt := top 98
abbrev N__law_witness : List Str := [(Str.ofString "_law_dice_here"), (Str.ofString "_law_columns_here"), (Str.ofString "_law_makings"), (Str.ofString "_law_name")]
abbrev P__law_witness : List Str := [(Str.ofString "_law_dice_here")]
theorem S__law_witness : FnScope N__law_witness P__law_witness (defScope s__law_witness) := ⟨rfl, rfl, rfl, by decide +kernel, rfl, by decide +kernel, by decide +kernel⟩
abbrev s__law_witness_text : Stmt := top 99
abbrev N__law_witness_text : List Str := [(Str.ofString "_law_paper"), (Str.ofString "_law_rows"), (Str.ofString "_law_name")]
abbrev P__law_witness_text : List Str := [(Str.ofString "_law_paper")]
theorem S__law_witness_text : FnScope N__law_witness_text P__law_witness_text (defScope s__law_witness_text) := ⟨rfl, rfl, rfl, by decide +kernel, rfl, by decide +kernel, by decide +kernel⟩
abbrev s__law_steps_right : Stmt := top 100
abbrev N__law_steps_right : List Str := [(Str.ofString "_law_dice_here"), (Str.ofString "_law_some_here"), (Str.ofString "_law_text"), (Str.ofString "_law_paper"), (Str.ofString "_law_told"), (Str.ofString "_law_kept"), (Str.ofString "_law_again"), (Str.ofString "_law_turn"), (Str.ofString "_law_bent"), (Str.ofString "_law_found")]
abbrev P__law_steps_right : List Str := [(Str.ofString "_law_dice_here")]
theorem S__law_steps_right : FnScope N__law_steps_right P__law_steps_right (defScope s__law_steps_right) := ⟨rfl, rfl, rfl, by decide +kernel, rfl, by decide +kernel, by decide +kernel⟩
abbrev s__law_keeps_right : Stmt := top 101
abbrev N__law_keeps_right : List Str := [(Str.ofString "_law_dice_here"), (Str.ofString "_law_members"), (Str.ofString "_law_text"), (Str.ofString "_law_turn"), (Str.ofString "_law_bent"), (Str.ofString "_law_found"), (Str.ofString "_law_at")]
abbrev P__law_keeps_right : List Str := [(Str.ofString "_law_dice_here")]
theorem S__law_keeps_right : FnScope N__law_keeps_right P__law_keeps_right (defScope s__law_keeps_right) := ⟨rfl, rfl, rfl, by decide +kernel, rfl, by decide +kernel, by decide +kernel⟩
abbrev s__law_amounts_right : Stmt := top 102
abbrev N__law_amounts_right : List Str := [(Str.ofString "_law_dice_here"), (Str.ofString "_law_measure"), (Str.ofString "_law_meter"), (Str.ofString "_law_amount_here"), (Str.ofString "_law_text"), (Str.ofString "_law_turn"), (Str.ofString "_law_bent"), (Str.ofString "_law_found")]
abbrev P__law_amounts_right : List Str := [(Str.ofString "_law_dice_here")]
theorem S__law_amounts_right : FnScope N__law_amounts_right P__law_amounts_right (defScope s__law_amounts_right) := ⟨rfl, rfl, rfl, by decide +kernel, rfl, by decide +kernel, by decide +kernel⟩
abbrev s_law : Stmt := top 103
abbrev N_law : List Str := [(Str.ofString "_law_script"), (Str.ofString "_law_at"), (Str.ofString "_law_dice_here"), (Str.ofString "_law_turn"), (Str.ofString "_law_bad"), (Str.ofString "_law_odds"), (Str.ofString "_law_two"), (Str.ofString "_law_told"), (Str.ofString "_law_text"), (Str.ofString "_law_one")]
abbrev P_law : List Str := [(Str.ofString "_law_script")]
theorem S_law : FnScope N_law P_law (defScope s_law) := ⟨rfl, rfl, rfl, by decide +kernel, rfl, by decide +kernel, by decide +kernel⟩
structure Facts (P : Program) (w : World) (K : PySem.W.Frag) (mg : MG) (base : Heap) (T : List (Addr × Str)) where
  ad : Ad
  a_is_integer : Addr
  d_is_integer : FuncData
  f_is_integer : FunD K (Str.ofString "is_integer") (Str.ofString "is_integer") (defArgs s_is_integer) (defBody s_is_integer) (defScope s_is_integer) [] [] a_is_integer d_is_integer
  g_is_integer : mg (Str.ofString "is_integer") = some (.ref a_is_integer)
  a_is_index : Addr
  d_is_index : FuncData
  f_is_index : FunD K (Str.ofString "is_index") (Str.ofString "is_index") (defArgs s_is_index) (defBody s_is_index) (defScope s_is_index) [] [] a_is_index d_is_index
  g_is_index : mg (Str.ofString "is_index") = some (.ref a_is_index)
  a_is_name : Addr
  d_is_name : FuncData
  f_is_name : FunD K (Str.ofString "is_name") (Str.ofString "is_name") (defArgs s_is_name) (defBody s_is_name) (defScope s_is_name) [] [] a_is_name d_is_name
  g_is_name : mg (Str.ofString "is_name") = some (.ref a_is_name)
  a_are_columns : Addr
  d_are_columns : FuncData
  f_are_columns : FunD K (Str.ofString "are_columns") (Str.ofString "are_columns") (defArgs s_are_columns) (defBody s_are_columns) (defScope s_are_columns) [] [] a_are_columns d_are_columns
  g_are_columns : mg (Str.ofString "are_columns") = some (.ref a_are_columns)
  a_common_divisor : Addr
  d_common_divisor : FuncData
  f_common_divisor : FunD K (Str.ofString "common_divisor") (Str.ofString "common_divisor") (defArgs s_common_divisor) (defBody s_common_divisor) (defScope s_common_divisor) [] [] a_common_divisor d_common_divisor
  g_common_divisor : mg (Str.ofString "common_divisor") = some (.ref a_common_divisor)
  a_is_fraction : Addr
  d_is_fraction : FuncData
  f_is_fraction : FunD K (Str.ofString "is_fraction") (Str.ofString "is_fraction") (defArgs s_is_fraction) (defBody s_is_fraction) (defScope s_is_fraction) [] [] a_is_fraction d_is_fraction
  g_is_fraction : mg (Str.ofString "is_fraction") = some (.ref a_is_fraction)
  a_Scale___init__ : Addr
  d_Scale___init__ : FuncData
  f_Scale___init__ : FunD K (Str.ofString "__init__") (Str.ofString "Scale.__init__") (defArgs s_Scale___init__) (defBody s_Scale___init__) (defScope s_Scale___init__) [] [] a_Scale___init__ d_Scale___init__
  a_Scale_sums : Addr
  d_Scale_sums : FuncData
  f_Scale_sums : FunD K (Str.ofString "sums") (Str.ofString "Scale.sums") (defArgs s_Scale_sums) (defBody s_Scale_sums) (defScope s_Scale_sums) [] [] a_Scale_sums d_Scale_sums
  a_Scale_classes : Addr
  d_Scale_classes : FuncData
  f_Scale_classes : FunD K (Str.ofString "classes") (Str.ofString "Scale.classes") (defArgs s_Scale_classes) (defBody s_Scale_classes) (defScope s_Scale_classes) [] [] a_Scale_classes d_Scale_classes
  a_Scale_odds : Addr
  d_Scale_odds : FuncData
  f_Scale_odds : FunD K (Str.ofString "odds") (Str.ofString "Scale.odds") (defArgs s_Scale_odds) (defBody s_Scale_odds) (defScope s_Scale_odds) [] [] a_Scale_odds d_Scale_odds
  a_SumScale_has_form : Addr
  d_SumScale_has_form : FuncData
  f_SumScale_has_form : FunD K (Str.ofString "has_form") (Str.ofString "SumScale.has_form") (defArgs s_SumScale_has_form) (defBody s_SumScale_has_form) (defScope s_SumScale_has_form) [] [] a_SumScale_has_form d_SumScale_has_form
  a_ClassScale_has_form : Addr
  d_ClassScale_has_form : FuncData
  f_ClassScale_has_form : FunD K (Str.ofString "has_form") (Str.ofString "ClassScale.has_form") (defArgs s_ClassScale_has_form) (defBody s_ClassScale_has_form) (defScope s_ClassScale_has_form) [] [] a_ClassScale_has_form d_ClassScale_has_form
  a_OddsScale_has_form : Addr
  d_OddsScale_has_form : FuncData
  f_OddsScale_has_form : FunD K (Str.ofString "has_form") (Str.ofString "OddsScale.has_form") (defArgs s_OddsScale_has_form) (defBody s_OddsScale_has_form) (defScope s_OddsScale_has_form) [] [] a_OddsScale_has_form d_OddsScale_has_form
  a_Scale_is_amount : Addr
  d_Scale_is_amount : FuncData
  f_Scale_is_amount : FunD K (Str.ofString "is_amount") (Str.ofString "Scale.is_amount") (defArgs s_Scale_is_amount) (defBody s_Scale_is_amount) (defScope s_Scale_is_amount) [] [] a_Scale_is_amount d_Scale_is_amount
  a_Scale___eq__ : Addr
  d_Scale___eq__ : FuncData
  f_Scale___eq__ : FunD K (Str.ofString "__eq__") (Str.ofString "Scale.__eq__") (defArgs s_Scale___eq__) (defBody s_Scale___eq__) (defScope s_Scale___eq__) [] [] a_Scale___eq__ d_Scale___eq__
  a_require_scale : Addr
  d_require_scale : FuncData
  f_require_scale : FunD K (Str.ofString "require_scale") (Str.ofString "require_scale") (defArgs s_require_scale) (defBody s_require_scale) (defScope s_require_scale) [] [] a_require_scale d_require_scale
  g_require_scale : mg (Str.ofString "require_scale") = some (.ref a_require_scale)
  a_are_indices : Addr
  d_are_indices : FuncData
  f_are_indices : FunD K (Str.ofString "are_indices") (Str.ofString "are_indices") (defArgs s_are_indices) (defBody s_are_indices) (defScope s_are_indices) [] [] a_are_indices d_are_indices
  g_are_indices : mg (Str.ofString "are_indices") = some (.ref a_are_indices)
  a_is_step_form : Addr
  d_is_step_form : FuncData
  f_is_step_form : FunD K (Str.ofString "is_step_form") (Str.ofString "is_step_form") (defArgs s_is_step_form) (defBody s_is_step_form) (defScope s_is_step_form) [] [] a_is_step_form d_is_step_form
  g_is_step_form : mg (Str.ofString "is_step_form") = some (.ref a_is_step_form)
  a_are_step_forms : Addr
  d_are_step_forms : FuncData
  f_are_step_forms : FunD K (Str.ofString "are_step_forms") (Str.ofString "are_step_forms") (defArgs s_are_step_forms) (defBody s_are_step_forms) (defScope s_are_step_forms) [] [] a_are_step_forms d_are_step_forms
  g_are_step_forms : mg (Str.ofString "are_step_forms") = some (.ref a_are_step_forms)
  a_are_makings : Addr
  d_are_makings : FuncData
  f_are_makings : FunD K (Str.ofString "are_makings") (Str.ofString "are_makings") (defArgs s_are_makings) (defBody s_are_makings) (defScope s_are_makings) [] [] a_are_makings d_are_makings
  g_are_makings : mg (Str.ofString "are_makings") = some (.ref a_are_makings)
  a_is_order_form : Addr
  d_is_order_form : FuncData
  f_is_order_form : FunD K (Str.ofString "is_order_form") (Str.ofString "is_order_form") (defArgs s_is_order_form) (defBody s_is_order_form) (defScope s_is_order_form) [] [] a_is_order_form d_is_order_form
  g_is_order_form : mg (Str.ofString "is_order_form") = some (.ref a_is_order_form)
  a_are_keep_indices : Addr
  d_are_keep_indices : FuncData
  f_are_keep_indices : FunD K (Str.ofString "are_keep_indices") (Str.ofString "are_keep_indices") (defArgs s_are_keep_indices) (defBody s_are_keep_indices) (defScope s_are_keep_indices) [] [] a_are_keep_indices d_are_keep_indices
  g_are_keep_indices : mg (Str.ofString "are_keep_indices") = some (.ref a_are_keep_indices)
  a_integer_in : Addr
  d_integer_in : FuncData
  f_integer_in : FunD K (Str.ofString "integer_in") (Str.ofString "integer_in") (defArgs s_integer_in) (defBody s_integer_in) (defScope s_integer_in) [] [] a_integer_in d_integer_in
  g_integer_in : mg (Str.ofString "integer_in") = some (.ref a_integer_in)
  a_require_text : Addr
  d_require_text : FuncData
  f_require_text : FunD K (Str.ofString "require_text") (Str.ofString "require_text") (defArgs s_require_text) (defBody s_require_text) (defScope s_require_text) [] [] a_require_text d_require_text
  g_require_text : mg (Str.ofString "require_text") = some (.ref a_require_text)
  a_require_same : Addr
  d_require_same : FuncData
  f_require_same : FunD K (Str.ofString "require_same") (Str.ofString "require_same") (defArgs s_require_same) (defBody s_require_same) (defScope s_require_same) [] [] a_require_same d_require_same
  g_require_same : mg (Str.ofString "require_same") = some (.ref a_require_same)
  a_columns_text : Addr
  d_columns_text : FuncData
  f_columns_text : FunD K (Str.ofString "columns_text") (Str.ofString "columns_text") (defArgs s_columns_text) (defBody s_columns_text) (defScope s_columns_text) [] [] a_columns_text d_columns_text
  g_columns_text : mg (Str.ofString "columns_text") = some (.ref a_columns_text)
  a_columns_in : Addr
  d_columns_in : FuncData
  f_columns_in : FunD K (Str.ofString "columns_in") (Str.ofString "columns_in") (defArgs s_columns_in) (defBody s_columns_in) (defScope s_columns_in) [] [] a_columns_in d_columns_in
  g_columns_in : mg (Str.ofString "columns_in") = some (.ref a_columns_in)
  a_values_text : Addr
  d_values_text : FuncData
  f_values_text : FunD K (Str.ofString "values_text") (Str.ofString "values_text") (defArgs s_values_text) (defBody s_values_text) (defScope s_values_text) [] [] a_values_text d_values_text
  g_values_text : mg (Str.ofString "values_text") = some (.ref a_values_text)
  a_values_in : Addr
  d_values_in : FuncData
  f_values_in : FunD K (Str.ofString "values_in") (Str.ofString "values_in") (defArgs s_values_in) (defBody s_values_in) (defScope s_values_in) [] [] a_values_in d_values_in
  g_values_in : mg (Str.ofString "values_in") = some (.ref a_values_in)
  a_keep_text : Addr
  d_keep_text : FuncData
  f_keep_text : FunD K (Str.ofString "keep_text") (Str.ofString "keep_text") (defArgs s_keep_text) (defBody s_keep_text) (defScope s_keep_text) [] [] a_keep_text d_keep_text
  g_keep_text : mg (Str.ofString "keep_text") = some (.ref a_keep_text)
  a_keep_in : Addr
  d_keep_in : FuncData
  f_keep_in : FunD K (Str.ofString "keep_in") (Str.ofString "keep_in") (defArgs s_keep_in) (defBody s_keep_in) (defScope s_keep_in) [] [] a_keep_in d_keep_in
  g_keep_in : mg (Str.ofString "keep_in") = some (.ref a_keep_in)
  a_amount_text : Addr
  d_amount_text : FuncData
  f_amount_text : FunD K (Str.ofString "amount_text") (Str.ofString "amount_text") (defArgs s_amount_text) (defBody s_amount_text) (defScope s_amount_text) [] [] a_amount_text d_amount_text
  g_amount_text : mg (Str.ofString "amount_text") = some (.ref a_amount_text)
  a_amount_in : Addr
  d_amount_in : FuncData
  f_amount_in : FunD K (Str.ofString "amount_in") (Str.ofString "amount_in") (defArgs s_amount_in) (defBody s_amount_in) (defScope s_amount_in) [] [] a_amount_in d_amount_in
  g_amount_in : mg (Str.ofString "amount_in") = some (.ref a_amount_in)
  a_step_text : Addr
  d_step_text : FuncData
  f_step_text : FunD K (Str.ofString "step_text") (Str.ofString "step_text") (defArgs s_step_text) (defBody s_step_text) (defScope s_step_text) [] [] a_step_text d_step_text
  g_step_text : mg (Str.ofString "step_text") = some (.ref a_step_text)
  a_steps_text : Addr
  d_steps_text : FuncData
  f_steps_text : FunD K (Str.ofString "steps_text") (Str.ofString "steps_text") (defArgs s_steps_text) (defBody s_steps_text) (defScope s_steps_text) [] [] a_steps_text d_steps_text
  g_steps_text : mg (Str.ofString "steps_text") = some (.ref a_steps_text)
  a_step_in : Addr
  d_step_in : FuncData
  f_step_in : FunD K (Str.ofString "step_in") (Str.ofString "step_in") (defArgs s_step_in) (defBody s_step_in) (defScope s_step_in) [] [] a_step_in d_step_in
  g_step_in : mg (Str.ofString "step_in") = some (.ref a_step_in)
  a_steps_in : Addr
  d_steps_in : FuncData
  f_steps_in : FunD K (Str.ofString "steps_in") (Str.ofString "steps_in") (defArgs s_steps_in) (defBody s_steps_in) (defScope s_steps_in) [] [] a_steps_in d_steps_in
  g_steps_in : mg (Str.ofString "steps_in") = some (.ref a_steps_in)
  a_order_text : Addr
  d_order_text : FuncData
  f_order_text : FunD K (Str.ofString "order_text") (Str.ofString "order_text") (defArgs s_order_text) (defBody s_order_text) (defScope s_order_text) [] [] a_order_text d_order_text
  g_order_text : mg (Str.ofString "order_text") = some (.ref a_order_text)
  a_making_in : Addr
  d_making_in : FuncData
  f_making_in : FunD K (Str.ofString "making_in") (Str.ofString "making_in") (defArgs s_making_in) (defBody s_making_in) (defScope s_making_in) [] [] a_making_in d_making_in
  g_making_in : mg (Str.ofString "making_in") = some (.ref a_making_in)
  a_order_in : Addr
  d_order_in : FuncData
  f_order_in : FunD K (Str.ofString "order_in") (Str.ofString "order_in") (defArgs s_order_in) (defBody s_order_in) (defScope s_order_in) [] [] a_order_in d_order_in
  g_order_in : mg (Str.ofString "order_in") = some (.ref a_order_in)
  a_format_steps : Addr
  d_format_steps : FuncData
  f_format_steps : FunD K (Str.ofString "format_steps") (Str.ofString "format_steps") (defArgs s_format_steps) (defBody s_format_steps) (defScope s_format_steps) [] [] a_format_steps d_format_steps
  g_format_steps : mg (Str.ofString "format_steps") = some (.ref a_format_steps)
  a_parse_steps : Addr
  d_parse_steps : FuncData
  f_parse_steps : FunD K (Str.ofString "parse_steps") (Str.ofString "parse_steps") (defArgs s_parse_steps) (defBody s_parse_steps) (defScope s_parse_steps) [] [] a_parse_steps d_parse_steps
  g_parse_steps : mg (Str.ofString "parse_steps") = some (.ref a_parse_steps)
  a_format_order : Addr
  d_format_order : FuncData
  f_format_order : FunD K (Str.ofString "format_order") (Str.ofString "format_order") (defArgs s_format_order) (defBody s_format_order) (defScope s_format_order) [] [] a_format_order d_format_order
  g_format_order : mg (Str.ofString "format_order") = some (.ref a_format_order)
  a_parse_order : Addr
  d_parse_order : FuncData
  f_parse_order : FunD K (Str.ofString "parse_order") (Str.ofString "parse_order") (defArgs s_parse_order) (defBody s_parse_order) (defScope s_parse_order) [] [] a_parse_order d_parse_order
  g_parse_order : mg (Str.ofString "parse_order") = some (.ref a_parse_order)
  a_format_keep : Addr
  d_format_keep : FuncData
  f_format_keep : FunD K (Str.ofString "format_keep") (Str.ofString "format_keep") (defArgs s_format_keep) (defBody s_format_keep) (defScope s_format_keep) [] [] a_format_keep d_format_keep
  g_format_keep : mg (Str.ofString "format_keep") = some (.ref a_format_keep)
  a_parse_keep : Addr
  d_parse_keep : FuncData
  f_parse_keep : FunD K (Str.ofString "parse_keep") (Str.ofString "parse_keep") (defArgs s_parse_keep) (defBody s_parse_keep) (defScope s_parse_keep) [] [] a_parse_keep d_parse_keep
  g_parse_keep : mg (Str.ofString "parse_keep") = some (.ref a_parse_keep)
  a_format_amount : Addr
  d_format_amount : FuncData
  f_format_amount : FunD K (Str.ofString "format_amount") (Str.ofString "format_amount") (defArgs s_format_amount) (defBody s_format_amount) (defScope s_format_amount) [] [] a_format_amount d_format_amount
  g_format_amount : mg (Str.ofString "format_amount") = some (.ref a_format_amount)
  a_parse_amount : Addr
  d_parse_amount : FuncData
  f_parse_amount : FunD K (Str.ofString "parse_amount") (Str.ofString "parse_amount") (defArgs s_parse_amount) (defBody s_parse_amount) (defScope s_parse_amount) [] [] a_parse_amount d_parse_amount
  g_parse_amount : mg (Str.ofString "parse_amount") = some (.ref a_parse_amount)
  a__law_dice : Addr
  d__law_dice : FuncData
  f__law_dice : FunD K (Str.ofString "_law_dice") (Str.ofString "_law_dice") (defArgs s__law_dice) (defBody s__law_dice) (defScope s__law_dice) [] [] a__law_dice d__law_dice
  g__law_dice : mg (Str.ofString "_law_dice") = some (.ref a__law_dice)
  a__law_pull : Addr
  d__law_pull : FuncData
  f__law_pull : FunD K (Str.ofString "_law_pull") (Str.ofString "_law_pull") (defArgs s__law_pull) (defBody s__law_pull) (defScope s__law_pull) [] [] a__law_pull d__law_pull
  g__law_pull : mg (Str.ofString "_law_pull") = some (.ref a__law_pull)
  a__law_pick : Addr
  d__law_pick : FuncData
  f__law_pick : FunD K (Str.ofString "_law_pick") (Str.ofString "_law_pick") (defArgs s__law_pick) (defBody s__law_pick) (defScope s__law_pick) [] [] a__law_pick d__law_pick
  g__law_pick : mg (Str.ofString "_law_pick") = some (.ref a__law_pick)
  a__law_columns : Addr
  d__law_columns : FuncData
  f__law_columns : FunD K (Str.ofString "_law_columns") (Str.ofString "_law_columns") (defArgs s__law_columns) (defBody s__law_columns) (defScope s__law_columns) [] [] a__law_columns d__law_columns
  g__law_columns : mg (Str.ofString "_law_columns") = some (.ref a__law_columns)
  a__law_some : Addr
  d__law_some : FuncData
  f__law_some : FunD K (Str.ofString "_law_some") (Str.ofString "_law_some") (defArgs s__law_some) (defBody s__law_some) (defScope s__law_some) [] [] a__law_some d__law_some
  g__law_some : mg (Str.ofString "_law_some") = some (.ref a__law_some)
  a__law_scale : Addr
  d__law_scale : FuncData
  f__law_scale : FunD K (Str.ofString "_law_scale") (Str.ofString "_law_scale") (defArgs s__law_scale) (defBody s__law_scale) (defScope s__law_scale) [] [] a__law_scale d__law_scale
  g__law_scale : mg (Str.ofString "_law_scale") = some (.ref a__law_scale)
  a__law_lowest : Addr
  d__law_lowest : FuncData
  f__law_lowest : FunD K (Str.ofString "_law_lowest") (Str.ofString "_law_lowest") (defArgs s__law_lowest) (defBody s__law_lowest) (defScope s__law_lowest) [] [] a__law_lowest d__law_lowest
  g__law_lowest : mg (Str.ofString "_law_lowest") = some (.ref a__law_lowest)
  a__law_weight : Addr
  d__law_weight : FuncData
  f__law_weight : FunD K (Str.ofString "_law_weight") (Str.ofString "_law_weight") (defArgs s__law_weight) (defBody s__law_weight) (defScope s__law_weight) [] [] a__law_weight d__law_weight
  g__law_weight : mg (Str.ofString "_law_weight") = some (.ref a__law_weight)
  a__law_made : Addr
  d__law_made : FuncData
  f__law_made : FunD K (Str.ofString "_law_made") (Str.ofString "_law_made") (defArgs s__law_made) (defBody s__law_made) (defScope s__law_made) [] [] a__law_made d__law_made
  g__law_made : mg (Str.ofString "_law_made") = some (.ref a__law_made)
  a__law_amount : Addr
  d__law_amount : FuncData
  f__law_amount : FunD K (Str.ofString "_law_amount") (Str.ofString "_law_amount") (defArgs s__law_amount) (defBody s__law_amount) (defScope s__law_amount) [] [] a__law_amount d__law_amount
  g__law_amount : mg (Str.ofString "_law_amount") = some (.ref a__law_amount)
  a__law_amount_text : Addr
  d__law_amount_text : FuncData
  f__law_amount_text : FunD K (Str.ofString "_law_amount_text") (Str.ofString "_law_amount_text") (defArgs s__law_amount_text) (defBody s__law_amount_text) (defScope s__law_amount_text) [] [] a__law_amount_text d__law_amount_text
  g__law_amount_text : mg (Str.ofString "_law_amount_text") = some (.ref a__law_amount_text)
  a__law_columns_text : Addr
  d__law_columns_text : FuncData
  f__law_columns_text : FunD K (Str.ofString "_law_columns_text") (Str.ofString "_law_columns_text") (defArgs s__law_columns_text) (defBody s__law_columns_text) (defScope s__law_columns_text) [] [] a__law_columns_text d__law_columns_text
  g__law_columns_text : mg (Str.ofString "_law_columns_text") = some (.ref a__law_columns_text)
  a__law_values_text : Addr
  d__law_values_text : FuncData
  f__law_values_text : FunD K (Str.ofString "_law_values_text") (Str.ofString "_law_values_text") (defArgs s__law_values_text) (defBody s__law_values_text) (defScope s__law_values_text) [] [] a__law_values_text d__law_values_text
  g__law_values_text : mg (Str.ofString "_law_values_text") = some (.ref a__law_values_text)
  a__law_spoilt : Addr
  d__law_spoilt : FuncData
  f__law_spoilt : FunD K (Str.ofString "_law_spoilt") (Str.ofString "_law_spoilt") (defArgs s__law_spoilt) (defBody s__law_spoilt) (defScope s__law_spoilt) [] [] a__law_spoilt d__law_spoilt
  g__law_spoilt : mg (Str.ofString "_law_spoilt") = some (.ref a__law_spoilt)
  a__law_read : Addr
  d__law_read : FuncData
  f__law_read : FunD K (Str.ofString "_law_read") (Str.ofString "_law_read") (defArgs s__law_read) (defBody s__law_read) (defScope s__law_read) [] [] a__law_read d__law_read
  g__law_read : mg (Str.ofString "_law_read") = some (.ref a__law_read)
  a__law_step : Addr
  d__law_step : FuncData
  f__law_step : FunD K (Str.ofString "_law_step") (Str.ofString "_law_step") (defArgs s__law_step) (defBody s__law_step) (defScope s__law_step) [] [] a__law_step d__law_step
  g__law_step : mg (Str.ofString "_law_step") = some (.ref a__law_step)
  a__law_steps_text : Addr
  d__law_steps_text : FuncData
  f__law_steps_text : FunD K (Str.ofString "_law_steps_text") (Str.ofString "_law_steps_text") (defArgs s__law_steps_text) (defBody s__law_steps_text) (defScope s__law_steps_text) [] [] a__law_steps_text d__law_steps_text
  g__law_steps_text : mg (Str.ofString "_law_steps_text") = some (.ref a__law_steps_text)
  a__law_witness : Addr
  d__law_witness : FuncData
  f__law_witness : FunD K (Str.ofString "_law_witness") (Str.ofString "_law_witness") (defArgs s__law_witness) (defBody s__law_witness) (defScope s__law_witness) [] [] a__law_witness d__law_witness
  g__law_witness : mg (Str.ofString "_law_witness") = some (.ref a__law_witness)
  a__law_witness_text : Addr
  d__law_witness_text : FuncData
  f__law_witness_text : FunD K (Str.ofString "_law_witness_text") (Str.ofString "_law_witness_text") (defArgs s__law_witness_text) (defBody s__law_witness_text) (defScope s__law_witness_text) [] [] a__law_witness_text d__law_witness_text
  g__law_witness_text : mg (Str.ofString "_law_witness_text") = some (.ref a__law_witness_text)
  a__law_steps_right : Addr
  d__law_steps_right : FuncData
  f__law_steps_right : FunD K (Str.ofString "_law_steps_right") (Str.ofString "_law_steps_right") (defArgs s__law_steps_right) (defBody s__law_steps_right) (defScope s__law_steps_right) [] [] a__law_steps_right d__law_steps_right
  g__law_steps_right : mg (Str.ofString "_law_steps_right") = some (.ref a__law_steps_right)
  tc__law_steps_right : Addr
  tp__law_steps_right : Addr
  tb__law_steps_right : LamX.TabB base mg tc__law_steps_right tp__law_steps_right
  cd__law_steps_right : d__law_steps_right.code = .ref tc__law_steps_right
  mT__law_steps_right : ∀ (L a : Addr) (cd : Value), (tp__law_steps_right, (envOfC (Str.ofString "_law_steps_right") (defScope s__law_steps_right) L a cd).qual ++ "<lambda>") ∈ T
  uT__law_steps_right : ∀ (L a : Addr) (cd : Value), ∀ p ∈ T, p.1 = tp__law_steps_right → p.2 = (envOfC (Str.ofString "_law_steps_right") (defScope s__law_steps_right) L a cd).qual ++ "<lambda>"
  a__law_keeps_right : Addr
  d__law_keeps_right : FuncData
  f__law_keeps_right : FunD K (Str.ofString "_law_keeps_right") (Str.ofString "_law_keeps_right") (defArgs s__law_keeps_right) (defBody s__law_keeps_right) (defScope s__law_keeps_right) [] [] a__law_keeps_right d__law_keeps_right
  g__law_keeps_right : mg (Str.ofString "_law_keeps_right") = some (.ref a__law_keeps_right)
  tc__law_keeps_right : Addr
  tp__law_keeps_right : Addr
  tb__law_keeps_right : LamX.TabB base mg tc__law_keeps_right tp__law_keeps_right
  cd__law_keeps_right : d__law_keeps_right.code = .ref tc__law_keeps_right
  mT__law_keeps_right : ∀ (L a : Addr) (cd : Value), (tp__law_keeps_right, (envOfC (Str.ofString "_law_keeps_right") (defScope s__law_keeps_right) L a cd).qual ++ "<lambda>") ∈ T
  uT__law_keeps_right : ∀ (L a : Addr) (cd : Value), ∀ p ∈ T, p.1 = tp__law_keeps_right → p.2 = (envOfC (Str.ofString "_law_keeps_right") (defScope s__law_keeps_right) L a cd).qual ++ "<lambda>"
  a__law_amounts_right : Addr
  d__law_amounts_right : FuncData
  f__law_amounts_right : FunD K (Str.ofString "_law_amounts_right") (Str.ofString "_law_amounts_right") (defArgs s__law_amounts_right) (defBody s__law_amounts_right) (defScope s__law_amounts_right) [] [] a__law_amounts_right d__law_amounts_right
  g__law_amounts_right : mg (Str.ofString "_law_amounts_right") = some (.ref a__law_amounts_right)
  tc__law_amounts_right : Addr
  tp__law_amounts_right : Addr
  tb__law_amounts_right : LamX.TabB base mg tc__law_amounts_right tp__law_amounts_right
  cd__law_amounts_right : d__law_amounts_right.code = .ref tc__law_amounts_right
  mT__law_amounts_right : ∀ (L a : Addr) (cd : Value), (tp__law_amounts_right, (envOfC (Str.ofString "_law_amounts_right") (defScope s__law_amounts_right) L a cd).qual ++ "<lambda>") ∈ T
  uT__law_amounts_right : ∀ (L a : Addr) (cd : Value), ∀ p ∈ T, p.1 = tp__law_amounts_right → p.2 = (envOfC (Str.ofString "_law_amounts_right") (defScope s__law_amounts_right) L a cd).qual ++ "<lambda>"
  a_law : Addr
  d_law : FuncData
  f_law : FunD K (Str.ofString "law") (Str.ofString "law") (defArgs s_law) (defBody s_law) (defScope s_law) [] [] a_law d_law
  g_law : mg (Str.ofString "law") = some (.ref a_law)
  tc_law : Addr
  tp_law : Addr
  tb_law : LamX.TabB base mg tc_law tp_law
  cd_law : d_law.code = .ref tc_law
  mT_law : ∀ (L a : Addr) (cd : Value), (tp_law, (envOfC (Str.ofString "law") (defScope s_law) L a cd).qual ++ "<lambda>") ∈ T
  uT_law : ∀ (L a : Addr) (cd : Value), ∀ p ∈ T, p.1 = tp_law → p.2 = (envOfC (Str.ofString "law") (defScope s_law) L a cd).qual ++ "<lambda>"
  c_SIGNS : Gcon K mg (Str.ofString "SIGNS") c_SIGNS
  c_MOST_SIGNS : Gcon K mg (Str.ofString "MOST_SIGNS") c_MOST_SIGNS
  c_MOST_COLUMNS : Gcon K mg (Str.ofString "MOST_COLUMNS") c_MOST_COLUMNS
  c_MAX_SIZE : Gcon K mg (Str.ofString "MAX_SIZE") c_MAX_SIZE
  c_SUMS : Gcon K mg (Str.ofString "SUMS") c_SUMS
  c_CLASSES : Gcon K mg (Str.ofString "CLASSES") c_CLASSES
  c_ODDS : Gcon K mg (Str.ofString "ODDS") c_ODDS
  c_MOST_ROWS : Gcon K mg (Str.ofString "MOST_ROWS") c_MOST_ROWS
  c_COMMON : Gcon K mg (Str.ofString "COMMON") c_COMMON
  c_FIXED : Gcon K mg (Str.ofString "FIXED") c_FIXED
  c_PAIR : Gcon K mg (Str.ofString "PAIR") c_PAIR
  c_CHAIN : Gcon K mg (Str.ofString "CHAIN") c_CHAIN
  c_WITNESS : Gcon K mg (Str.ofString "WITNESS") c_WITNESS
  c_WORDS : Gcon K mg (Str.ofString "WORDS") c_WORDS
  c_MAKINGS : Gcon K mg (Str.ofString "MAKINGS") c_MAKINGS
  c_NOTHING : Gcon K mg (Str.ofString "NOTHING") c_NOTHING
  c_NONE : Gcon K mg (Str.ofString "NONE") c_NONE
  c_NO_STEPS : Gcon K mg (Str.ofString "NO_STEPS") c_NO_STEPS
  c_SIDES : Gcon K mg (Str.ofString "SIDES") c_SIDES
  c_STEPS : Gcon K mg (Str.ofString "STEPS") c_STEPS
  c_FIGURES : Gcon K mg (Str.ofString "FIGURES") c_FIGURES
  c_MOST_FIGURES : Gcon K mg (Str.ofString "MOST_FIGURES") c_MOST_FIGURES
  n_isinstance : mg (Str.ofString "isinstance") = none
  n_int : mg (Str.ofString "int") = none
  n_bool : mg (Str.ofString "bool") = none
  n_str : mg (Str.ofString "str") = none
  n_tuple : mg (Str.ofString "tuple") = none
  n_list : mg (Str.ofString "list") = none
  n_dict : mg (Str.ofString "dict") = none
  n_len : mg (Str.ofString "len") = none
  n_all : mg (Str.ofString "all") = none
  n_zip : mg (Str.ofString "zip") = none
  n_range : mg (Str.ofString "range") = none
  n_sorted : mg (Str.ofString "sorted") = none
  n_abs : mg (Str.ofString "abs") = none
  n_max : mg (Str.ofString "max") = none
  n_min : mg (Str.ofString "min") = none
  n_repr : mg (Str.ofString "repr") = none
  n_sum : mg (Str.ofString "sum") = none
  a_Scale : Addr
  g_Scale : mg (Str.ofString "Scale") = some (.ref a_Scale)
  isi_Scale : IsiOk K (.ref a_Scale) (isi_Scale ad)
  mc_Scale : Value
  rd_Scale : ClX.CRead K a_Scale mc_Scale
  p_Scale_sums : Addr
  sm_Scale_sums : SMet K a_Scale mc_Scale (Str.ofString "sums") p_Scale_sums a_Scale_sums
  p_Scale_classes : Addr
  sm_Scale_classes : SMet K a_Scale mc_Scale (Str.ofString "classes") p_Scale_classes a_Scale_classes
  p_Scale_odds : Addr
  sm_Scale_odds : SMet K a_Scale mc_Scale (Str.ofString "odds") p_Scale_odds a_Scale_odds
  g_SumScale : mg (Str.ofString "SumScale") = some (.ref ad.C_SumScale)
  cl_SumScale : Cls K ad.C_SumScale
  mk_SumScale : Mk K ad.C_SumScale a_Scale___init__
  me_SumScale_has_form : Meth K ad.C_SumScale (Str.ofString "has_form") a_SumScale_has_form
  me_SumScale_is_amount : Meth K ad.C_SumScale (Str.ofString "is_amount") a_Scale_is_amount
  eq_SumScale : PySem.W.findIn K (.ref ad.C_SumScale) (cmpInfo .Eq).2.1 = some (some (.ref a_Scale___eq__))
  g_ClassScale : mg (Str.ofString "ClassScale") = some (.ref ad.C_ClassScale)
  cl_ClassScale : Cls K ad.C_ClassScale
  mk_ClassScale : Mk K ad.C_ClassScale a_Scale___init__
  me_ClassScale_has_form : Meth K ad.C_ClassScale (Str.ofString "has_form") a_ClassScale_has_form
  me_ClassScale_is_amount : Meth K ad.C_ClassScale (Str.ofString "is_amount") a_Scale_is_amount
  eq_ClassScale : PySem.W.findIn K (.ref ad.C_ClassScale) (cmpInfo .Eq).2.1 = some (some (.ref a_Scale___eq__))
  g_OddsScale : mg (Str.ofString "OddsScale") = some (.ref ad.C_OddsScale)
  cl_OddsScale : Cls K ad.C_OddsScale
  mk_OddsScale : Mk K ad.C_OddsScale a_Scale___init__
  me_OddsScale_has_form : Meth K ad.C_OddsScale (Str.ofString "has_form") a_OddsScale_has_form
  me_OddsScale_is_amount : Meth K ad.C_OddsScale (Str.ofString "is_amount") a_Scale_is_amount
  eq_OddsScale : PySem.W.findIn K (.ref ad.C_OddsScale) (cmpInfo .Eq).2.1 = some (some (.ref a_Scale___eq__))
  ef : PySem.W.isFn K (.ref a_Scale___eq__) = true
  nd : (clsI ad).Nodup
  nf : ∀ C ∈ clsI ad, ∀ C' ∈ clsI ad, PySem.W.notFirst K C (.ref C') = true
  fld_own_word : ∀ C ∈ clsI ad, Cls K C ∧ NoAttr K C (Str.ofString "own_word")
  fld_own_size : ∀ C ∈ clsI ad, Cls K C ∧ NoAttr K C (Str.ofString "own_size")
  fld_own_zero : ∀ C ∈ clsI ad, Cls K C ∧ NoAttr K C (Str.ofString "own_zero")
  fld_own_one : ∀ C ∈ clsI ad, Cls K C ∧ NoAttr K C (Str.ofString "own_one")
  x_InvalidScale : Addr
  g_InvalidScale : mg (Str.ofString "InvalidScale") = some (.ref x_InvalidScale)
  xi_InvalidScale : PySem.W.excIn K x_InvalidScale He.veBase "ValueError.__new__" = true
  xk_InvalidScale : PySem.W.keepIn K (.ref x_InvalidScale) = true
  xs_InvalidScale : PySem.W.subIn K (.ref x_InvalidScale) (.type "BaseException") = some true
  xt_InvalidScale : PySem.W.typeIn K (.ref x_InvalidScale) = some (.type "type")
  x_InvalidStep : Addr
  g_InvalidStep : mg (Str.ofString "InvalidStep") = some (.ref x_InvalidStep)
  xi_InvalidStep : PySem.W.excIn K x_InvalidStep He.veBase "ValueError.__new__" = true
  xk_InvalidStep : PySem.W.keepIn K (.ref x_InvalidStep) = true
  xs_InvalidStep : PySem.W.subIn K (.ref x_InvalidStep) (.type "BaseException") = some true
  xt_InvalidStep : PySem.W.typeIn K (.ref x_InvalidStep) = some (.type "type")
  x_InvalidKeep : Addr
  g_InvalidKeep : mg (Str.ofString "InvalidKeep") = some (.ref x_InvalidKeep)
  xi_InvalidKeep : PySem.W.excIn K x_InvalidKeep He.veBase "ValueError.__new__" = true
  xk_InvalidKeep : PySem.W.keepIn K (.ref x_InvalidKeep) = true
  xs_InvalidKeep : PySem.W.subIn K (.ref x_InvalidKeep) (.type "BaseException") = some true
  xt_InvalidKeep : PySem.W.typeIn K (.ref x_InvalidKeep) = some (.type "type")
  x_InvalidOperation : Addr
  g_InvalidOperation : mg (Str.ofString "InvalidOperation") = some (.ref x_InvalidOperation)
  xi_InvalidOperation : PySem.W.excIn K x_InvalidOperation He.veBase "ValueError.__new__" = true
  xk_InvalidOperation : PySem.W.keepIn K (.ref x_InvalidOperation) = true
  xs_InvalidOperation : PySem.W.subIn K (.ref x_InvalidOperation) (.type "BaseException") = some true
  xt_InvalidOperation : PySem.W.typeIn K (.ref x_InvalidOperation) = some (.type "type")
  x_ParseError : Addr
  g_ParseError : mg (Str.ofString "ParseError") = some (.ref x_ParseError)
  xi_ParseError : PySem.W.excIn K x_ParseError He.veBase "ValueError.__new__" = true
  xk_ParseError : PySem.W.keepIn K (.ref x_ParseError) = true
  xs_ParseError : PySem.W.subIn K (.ref x_ParseError) (.type "BaseException") = some true
  xt_ParseError : PySem.W.typeIn K (.ref x_ParseError) = some (.type "type")
  te_ParseError : PySem.W.exmOne K (.ref x_ParseError) (.ref x_ParseError) = some true
section
variable {P : Program} {w : World} {K : PySem.W.Frag} {mg : MG} {base : Heap} {T : List (Addr × Str)}
theorem b_is_integer (FA : Facts P w K mg base T) : Binds K FA.d_is_integer P_is_integer [] := FA.f_is_integer.bindsN fun _ _ _ _ _ _ us hl => match us, hl with | [_], _ => rfl
theorem b_is_index (FA : Facts P w K mg base T) : Binds K FA.d_is_index P_is_index [] := FA.f_is_index.bindsN fun _ _ _ _ _ _ us hl => match us, hl with | [_, _], _ => rfl
theorem b_is_name (FA : Facts P w K mg base T) : Binds K FA.d_is_name P_is_name [] := FA.f_is_name.bindsN fun _ _ _ _ _ _ us hl => match us, hl with | [_], _ => rfl
theorem b_are_columns (FA : Facts P w K mg base T) : Binds K FA.d_are_columns P_are_columns [] := FA.f_are_columns.bindsN fun _ _ _ _ _ _ us hl => match us, hl with | [_], _ => rfl
theorem b_common_divisor (FA : Facts P w K mg base T) : Binds K FA.d_common_divisor P_common_divisor [] := FA.f_common_divisor.bindsN fun _ _ _ _ _ _ us hl => match us, hl with | [_, _], _ => rfl
theorem b_is_fraction (FA : Facts P w K mg base T) : Binds K FA.d_is_fraction P_is_fraction [] := FA.f_is_fraction.bindsN fun _ _ _ _ _ _ us hl => match us, hl with | [_], _ => rfl
theorem b_Scale___init__ (FA : Facts P w K mg base T) : Binds K FA.d_Scale___init__ P_Scale___init__ [] := FA.f_Scale___init__.bindsN fun _ _ _ _ _ _ us hl => match us, hl with | [_, _, _, _, _], _ => rfl
theorem b_Scale_sums (FA : Facts P w K mg base T) : Binds K FA.d_Scale_sums P_Scale_sums [] := FA.f_Scale_sums.bindsN fun _ _ _ _ _ _ us hl => match us, hl with | [], _ => rfl
theorem b_Scale_classes (FA : Facts P w K mg base T) : Binds K FA.d_Scale_classes P_Scale_classes [] := FA.f_Scale_classes.bindsN fun _ _ _ _ _ _ us hl => match us, hl with | [_], _ => rfl
theorem b_Scale_odds (FA : Facts P w K mg base T) : Binds K FA.d_Scale_odds P_Scale_odds [] := FA.f_Scale_odds.bindsN fun _ _ _ _ _ _ us hl => match us, hl with | [], _ => rfl
theorem b_SumScale_has_form (FA : Facts P w K mg base T) : Binds K FA.d_SumScale_has_form P_SumScale_has_form [] := FA.f_SumScale_has_form.bindsN fun _ _ _ _ _ _ us hl => match us, hl with | [_, _], _ => rfl
theorem b_ClassScale_has_form (FA : Facts P w K mg base T) : Binds K FA.d_ClassScale_has_form P_ClassScale_has_form [] := FA.f_ClassScale_has_form.bindsN fun _ _ _ _ _ _ us hl => match us, hl with | [_, _], _ => rfl
theorem b_OddsScale_has_form (FA : Facts P w K mg base T) : Binds K FA.d_OddsScale_has_form P_OddsScale_has_form [] := FA.f_OddsScale_has_form.bindsN fun _ _ _ _ _ _ us hl => match us, hl with | [_, _], _ => rfl
theorem b_Scale_is_amount (FA : Facts P w K mg base T) : Binds K FA.d_Scale_is_amount P_Scale_is_amount [] := FA.f_Scale_is_amount.bindsN fun _ _ _ _ _ _ us hl => match us, hl with | [_, _], _ => rfl
theorem b_Scale___eq__ (FA : Facts P w K mg base T) : Binds K FA.d_Scale___eq__ P_Scale___eq__ [] := FA.f_Scale___eq__.bindsN fun _ _ _ _ _ _ us hl => match us, hl with | [_, _], _ => rfl
theorem b_require_scale (FA : Facts P w K mg base T) : Binds K FA.d_require_scale P_require_scale [] := FA.f_require_scale.bindsN fun _ _ _ _ _ _ us hl => match us, hl with | [_], _ => rfl
theorem b_are_indices (FA : Facts P w K mg base T) : Binds K FA.d_are_indices P_are_indices [] := FA.f_are_indices.bindsN fun _ _ _ _ _ _ us hl => match us, hl with | [_, _], _ => rfl
theorem b_is_step_form (FA : Facts P w K mg base T) : Binds K FA.d_is_step_form P_is_step_form [] := FA.f_is_step_form.bindsN fun _ _ _ _ _ _ us hl => match us, hl with | [_], _ => rfl
theorem b_are_step_forms (FA : Facts P w K mg base T) : Binds K FA.d_are_step_forms P_are_step_forms [] := FA.f_are_step_forms.bindsN fun _ _ _ _ _ _ us hl => match us, hl with | [_], _ => rfl
theorem b_are_makings (FA : Facts P w K mg base T) : Binds K FA.d_are_makings P_are_makings [] := FA.f_are_makings.bindsN fun _ _ _ _ _ _ us hl => match us, hl with | [_], _ => rfl
theorem b_is_order_form (FA : Facts P w K mg base T) : Binds K FA.d_is_order_form P_is_order_form [] := FA.f_is_order_form.bindsN fun _ _ _ _ _ _ us hl => match us, hl with | [_], _ => rfl
theorem b_are_keep_indices (FA : Facts P w K mg base T) : Binds K FA.d_are_keep_indices P_are_keep_indices [] := FA.f_are_keep_indices.bindsN fun _ _ _ _ _ _ us hl => match us, hl with | [_], _ => rfl
theorem b_integer_in (FA : Facts P w K mg base T) : Binds K FA.d_integer_in P_integer_in [] := FA.f_integer_in.bindsN fun _ _ _ _ _ _ us hl => match us, hl with | [_], _ => rfl
theorem b_require_text (FA : Facts P w K mg base T) : Binds K FA.d_require_text P_require_text [] := FA.f_require_text.bindsN fun _ _ _ _ _ _ us hl => match us, hl with | [_], _ => rfl
theorem b_require_same (FA : Facts P w K mg base T) : Binds K FA.d_require_same P_require_same [] := FA.f_require_same.bindsN fun _ _ _ _ _ _ us hl => match us, hl with | [_, _], _ => rfl
theorem b_columns_text (FA : Facts P w K mg base T) : Binds K FA.d_columns_text P_columns_text [] := FA.f_columns_text.bindsN fun _ _ _ _ _ _ us hl => match us, hl with | [_], _ => rfl
theorem b_columns_in (FA : Facts P w K mg base T) : Binds K FA.d_columns_in P_columns_in [] := FA.f_columns_in.bindsN fun _ _ _ _ _ _ us hl => match us, hl with | [_], _ => rfl
theorem b_values_text (FA : Facts P w K mg base T) : Binds K FA.d_values_text P_values_text [] := FA.f_values_text.bindsN fun _ _ _ _ _ _ us hl => match us, hl with | [_], _ => rfl
theorem b_values_in (FA : Facts P w K mg base T) : Binds K FA.d_values_in P_values_in [] := FA.f_values_in.bindsN fun _ _ _ _ _ _ us hl => match us, hl with | [_], _ => rfl
theorem b_keep_text (FA : Facts P w K mg base T) : Binds K FA.d_keep_text P_keep_text [] := FA.f_keep_text.bindsN fun _ _ _ _ _ _ us hl => match us, hl with | [_], _ => rfl
theorem b_keep_in (FA : Facts P w K mg base T) : Binds K FA.d_keep_in P_keep_in [] := FA.f_keep_in.bindsN fun _ _ _ _ _ _ us hl => match us, hl with | [_], _ => rfl
theorem b_amount_text (FA : Facts P w K mg base T) : Binds K FA.d_amount_text P_amount_text [] := FA.f_amount_text.bindsN fun _ _ _ _ _ _ us hl => match us, hl with | [_, _], _ => rfl
theorem b_amount_in (FA : Facts P w K mg base T) : Binds K FA.d_amount_in P_amount_in [] := FA.f_amount_in.bindsN fun _ _ _ _ _ _ us hl => match us, hl with | [_, _], _ => rfl
theorem b_step_text (FA : Facts P w K mg base T) : Binds K FA.d_step_text P_step_text [] := FA.f_step_text.bindsN fun _ _ _ _ _ _ us hl => match us, hl with | [_], _ => rfl
theorem b_steps_text (FA : Facts P w K mg base T) : Binds K FA.d_steps_text P_steps_text [] := FA.f_steps_text.bindsN fun _ _ _ _ _ _ us hl => match us, hl with | [_], _ => rfl
theorem b_step_in (FA : Facts P w K mg base T) : Binds K FA.d_step_in P_step_in [] := FA.f_step_in.bindsN fun _ _ _ _ _ _ us hl => match us, hl with | [_], _ => rfl
theorem b_steps_in (FA : Facts P w K mg base T) : Binds K FA.d_steps_in P_steps_in [] := FA.f_steps_in.bindsN fun _ _ _ _ _ _ us hl => match us, hl with | [_], _ => rfl
theorem b_order_text (FA : Facts P w K mg base T) : Binds K FA.d_order_text P_order_text [] := FA.f_order_text.bindsN fun _ _ _ _ _ _ us hl => match us, hl with | [_], _ => rfl
theorem b_making_in (FA : Facts P w K mg base T) : Binds K FA.d_making_in P_making_in [] := FA.f_making_in.bindsN fun _ _ _ _ _ _ us hl => match us, hl with | [_], _ => rfl
theorem b_order_in (FA : Facts P w K mg base T) : Binds K FA.d_order_in P_order_in [] := FA.f_order_in.bindsN fun _ _ _ _ _ _ us hl => match us, hl with | [_], _ => rfl
theorem b_format_steps (FA : Facts P w K mg base T) : Binds K FA.d_format_steps P_format_steps [] := FA.f_format_steps.bindsN fun _ _ _ _ _ _ us hl => match us, hl with | [_], _ => rfl
theorem b_parse_steps (FA : Facts P w K mg base T) : Binds K FA.d_parse_steps P_parse_steps [] := FA.f_parse_steps.bindsN fun _ _ _ _ _ _ us hl => match us, hl with | [_], _ => rfl
theorem b_format_order (FA : Facts P w K mg base T) : Binds K FA.d_format_order P_format_order [] := FA.f_format_order.bindsN fun _ _ _ _ _ _ us hl => match us, hl with | [_], _ => rfl
theorem b_parse_order (FA : Facts P w K mg base T) : Binds K FA.d_parse_order P_parse_order [] := FA.f_parse_order.bindsN fun _ _ _ _ _ _ us hl => match us, hl with | [_], _ => rfl
theorem b_format_keep (FA : Facts P w K mg base T) : Binds K FA.d_format_keep P_format_keep [] := FA.f_format_keep.bindsN fun _ _ _ _ _ _ us hl => match us, hl with | [_], _ => rfl
theorem b_parse_keep (FA : Facts P w K mg base T) : Binds K FA.d_parse_keep P_parse_keep [] := FA.f_parse_keep.bindsN fun _ _ _ _ _ _ us hl => match us, hl with | [_], _ => rfl
theorem b_format_amount (FA : Facts P w K mg base T) : Binds K FA.d_format_amount P_format_amount [] := FA.f_format_amount.bindsN fun _ _ _ _ _ _ us hl => match us, hl with | [_, _], _ => rfl
theorem b_parse_amount (FA : Facts P w K mg base T) : Binds K FA.d_parse_amount P_parse_amount [] := FA.f_parse_amount.bindsN fun _ _ _ _ _ _ us hl => match us, hl with | [_, _], _ => rfl
theorem b__law_dice (FA : Facts P w K mg base T) : Binds K FA.d__law_dice P__law_dice [] := FA.f__law_dice.bindsN fun _ _ _ _ _ _ us hl => match us, hl with | [_, _], _ => rfl
theorem b__law_pull (FA : Facts P w K mg base T) : Binds K FA.d__law_pull P__law_pull [] := FA.f__law_pull.bindsN fun _ _ _ _ _ _ us hl => match us, hl with | [_, _], _ => rfl
theorem b__law_pick (FA : Facts P w K mg base T) : Binds K FA.d__law_pick P__law_pick [] := FA.f__law_pick.bindsN fun _ _ _ _ _ _ us hl => match us, hl with | [_, _], _ => rfl
theorem b__law_columns (FA : Facts P w K mg base T) : Binds K FA.d__law_columns P__law_columns [] := FA.f__law_columns.bindsN fun _ _ _ _ _ _ us hl => match us, hl with | [_, _], _ => rfl
theorem b__law_some (FA : Facts P w K mg base T) : Binds K FA.d__law_some P__law_some [] := FA.f__law_some.bindsN fun _ _ _ _ _ _ us hl => match us, hl with | [_, _, _], _ => rfl
theorem b__law_scale (FA : Facts P w K mg base T) : Binds K FA.d__law_scale P__law_scale [] := FA.f__law_scale.bindsN fun _ _ _ _ _ _ us hl => match us, hl with | [_], _ => rfl
theorem b__law_lowest (FA : Facts P w K mg base T) : Binds K FA.d__law_lowest P__law_lowest [] := FA.f__law_lowest.bindsN fun _ _ _ _ _ _ us hl => match us, hl with | [_, _], _ => rfl
theorem b__law_weight (FA : Facts P w K mg base T) : Binds K FA.d__law_weight P__law_weight [] := FA.f__law_weight.bindsN fun _ _ _ _ _ _ us hl => match us, hl with | [_, _], _ => rfl
theorem b__law_made (FA : Facts P w K mg base T) : Binds K FA.d__law_made P__law_made [] := FA.f__law_made.bindsN fun _ _ _ _ _ _ us hl => match us, hl with | [_], _ => rfl
theorem b__law_amount (FA : Facts P w K mg base T) : Binds K FA.d__law_amount P__law_amount [] := FA.f__law_amount.bindsN fun _ _ _ _ _ _ us hl => match us, hl with | [_, _], _ => rfl
theorem b__law_amount_text (FA : Facts P w K mg base T) : Binds K FA.d__law_amount_text P__law_amount_text [] := FA.f__law_amount_text.bindsN fun _ _ _ _ _ _ us hl => match us, hl with | [_, _], _ => rfl
theorem b__law_columns_text (FA : Facts P w K mg base T) : Binds K FA.d__law_columns_text P__law_columns_text [] := FA.f__law_columns_text.bindsN fun _ _ _ _ _ _ us hl => match us, hl with | [_], _ => rfl
theorem b__law_values_text (FA : Facts P w K mg base T) : Binds K FA.d__law_values_text P__law_values_text [] := FA.f__law_values_text.bindsN fun _ _ _ _ _ _ us hl => match us, hl with | [_], _ => rfl
theorem b__law_spoilt (FA : Facts P w K mg base T) : Binds K FA.d__law_spoilt P__law_spoilt [] := FA.f__law_spoilt.bindsN fun _ _ _ _ _ _ us hl => match us, hl with | [_, _], _ => rfl
theorem b__law_read (FA : Facts P w K mg base T) : Binds K FA.d__law_read P__law_read [] := FA.f__law_read.bindsN fun _ _ _ _ _ _ us hl => match us, hl with | [_], _ => rfl
theorem b__law_step (FA : Facts P w K mg base T) : Binds K FA.d__law_step P__law_step [] := FA.f__law_step.bindsN fun _ _ _ _ _ _ us hl => match us, hl with | [_], _ => rfl
theorem b__law_steps_text (FA : Facts P w K mg base T) : Binds K FA.d__law_steps_text P__law_steps_text [] := FA.f__law_steps_text.bindsN fun _ _ _ _ _ _ us hl => match us, hl with | [_], _ => rfl
theorem b__law_witness (FA : Facts P w K mg base T) : Binds K FA.d__law_witness P__law_witness [] := FA.f__law_witness.bindsN fun _ _ _ _ _ _ us hl => match us, hl with | [_], _ => rfl
theorem b__law_witness_text (FA : Facts P w K mg base T) : Binds K FA.d__law_witness_text P__law_witness_text [] := FA.f__law_witness_text.bindsN fun _ _ _ _ _ _ us hl => match us, hl with | [_], _ => rfl
theorem b__law_steps_right (FA : Facts P w K mg base T) : Binds K FA.d__law_steps_right P__law_steps_right [] := FA.f__law_steps_right.bindsN fun _ _ _ _ _ _ us hl => match us, hl with | [_], _ => rfl
theorem b__law_keeps_right (FA : Facts P w K mg base T) : Binds K FA.d__law_keeps_right P__law_keeps_right [] := FA.f__law_keeps_right.bindsN fun _ _ _ _ _ _ us hl => match us, hl with | [_], _ => rfl
theorem b__law_amounts_right (FA : Facts P w K mg base T) : Binds K FA.d__law_amounts_right P__law_amounts_right [] := FA.f__law_amounts_right.bindsN fun _ _ _ _ _ _ us hl => match us, hl with | [_], _ => rfl
theorem b_law (FA : Facts P w K mg base T) : Binds K FA.d_law P_law [] := FA.f_law.bindsN fun _ _ _ _ _ _ us hl => match us, hl with | [_], _ => rfl
end
end M87

-- V87_0
/-! V87_0: the walks. Printed by gen.py. -/
namespace M87
open PySem PySem.Spec PyProof.Rows L2 DL
section
variable {P : Program} {w : World} {K : PySem.W.Frag} {mg : MG} {base : Heap} {T : List (Addr × Str)}
theorem ok_is_integer (FA : Facts P w K mg base T) : FnOk P w K mg base (L2.CX P w) 1 FA.a_is_integer FA.d_is_integer P_is_integer (spD K mg T 1 (F_is_integer FA.ad)) :=
  fnD false FA.f_is_integer S_is_integer (fun cdv hcd A outer s H E R W hT hr tk => (dss_one (ds_ret (de_and (de_isi isiT_ok (.ty _) FA.n_isinstance (de_var 0 (pv 0)) (pe_bltn rfl FA.n_int (by rfl) rfl)) (de_one (de_not (de_isi isiT_ok (.ty _) FA.n_isinstance (de_var 0 (pv 0)) (pe_bltn rfl FA.n_bool (by rfl) rfl))))))))
theorem ok_is_index (FA : Facts P w K mg base T) : FnOk P w K mg base (L2.CX P w) 2 FA.a_is_index FA.d_is_index P_is_index (spD K mg T 2 (F_is_index FA.ad)) :=
  fnD false FA.f_is_index S_is_index (fun cdv hcd A outer s H E R W hT hr tk => (dss_one (ds_ret (de_and (de_call hT (ok_is_integer FA) (tkE tk) (hr.mono (show (1 : Nat) ≤ 1 from by decide)) FA.g_is_integer FA.f_is_integer.kp (b_is_integer FA) (da_cons (de_var 1 (pv 1)) da_nil)) (de_one (de_chain2 op_leD op_ltD og_cmp og_cmp de_int (de_var 1 (pv 1)) (de_var 0 (pv 0))))))))
theorem ok_is_name (FA : Facts P w K mg base T) : FnOk P w K mg base (L2.CX P w) 1 FA.a_is_name FA.d_is_name P_is_name (spD K mg T 1 (F_is_name FA.ad)) :=
  fnD false FA.f_is_name S_is_name (fun cdv hcd A outer s H E R W hT hr tk => (dss_cons (ds_if (PW.pt (dw_or (dt_not (dt_tru (de_isi isiT_ok (.ty _) FA.n_isinstance (de_var 0 (pv 0)) (pe_bltn rfl FA.n_str (by rfl) rfl)))) (dw_or1 (dt_not (dt_chain2 op_leD op_leD og_cmp og_cmp de_int (de_cb call_len cg_len FA.n_len (da_cons (de_var 0 (pv 0)) da_nil) (by rfl)) (de_gl (FA.c_MOST_SIGNS))))))) (dss_one (ds_ret de_bl)) dss_nil) (dss_one (ds_ret (de_cb (cr_all rfl) cg_all FA.n_all (da_cons (de_lc (own := [((Str.ofString "sign"), 1)]) rfl S_is_name.nd (di_seq (de_var 0 (pv 0))) (blkOk_by (by rfl)) (fun R s H C cl fp hT1 => (dg_name S_is_name.nd (i := 1) rfl (.inl rfl) (show (1 : Nat) < 2 from by decide))) (fun R s H C cl fp hT1 => dts_nil) (fun R s H C cl fp hT1 => (de_cmp op_inD2 og_in (de_var 1 (pv 1)) (de_gl (FA.c_SIGNS)) (by first | exact nomark _ | rfl)))) da_nil) (by rfl))))))
theorem ok_are_columns (FA : Facts P w K mg base T) : FnOk P w K mg base (L2.CX P w) 2 FA.a_are_columns FA.d_are_columns P_are_columns (spD K mg T 1 (F_are_columns FA.ad)) :=
  fnD false FA.f_are_columns S_are_columns (fun cdv hcd A outer s H E R W hT hr tk => (dss_cons (ds_if (PW.pt (dw_or (dt_not (dt_tru (de_isi isiT_ok (.ty _) FA.n_isinstance (de_var 0 (pv 0)) (pe_bltn rfl FA.n_tuple (by rfl) rfl)))) (dw_or (dt_cmp op_gtD og_cmp (de_cb call_len cg_len FA.n_len (da_cons (de_var 0 (pv 0)) da_nil) (by rfl)) (de_gl (FA.c_MOST_COLUMNS)) (by first | exact nomark _ | rfl)) (dw_or1 (dt_not (dt_tru (de_cb (cr_all rfl) cg_all FA.n_all (da_cons (de_lc (own := [((Str.ofString "name"), 1)]) rfl S_are_columns.nd (di_seq (de_var 0 (pv 0))) (blkOk_by (by rfl)) (fun R s H C cl fp hT1 => (dg_name S_are_columns.nd (i := 1) rfl (.inl rfl) (show (1 : Nat) < 4 from by decide))) (fun R s H C cl fp hT1 => dts_nil) (fun R s H C cl fp hT1 => (de_call (hT1.trans hT) (ok_is_name FA) tk_no (hr.mono (show (1 : Nat) ≤ 1 from by decide)) FA.g_is_name FA.f_is_name.kp (b_is_name FA) (da_cons (de_var 1 (pv 1)) da_nil)))) da_nil) (by rfl)))))))) (dss_one (ds_ret de_bl)) dss_nil) (dss_one (ds_ret (de_cb (cr_all rfl) cg_all FA.n_all (da_cons (de_lc (own := [((Str.ofString "one"), 2), ((Str.ofString "other"), 3)]) rfl S_are_columns.nd (di_zip FA.n_zip (de_var 0 (pv 0)) (de_sl (de_var 0 (pv 0)) (do_part de_int) do_no)) (blkOk_by (by rfl)) (fun R s H C cl fp hT1 => (dg_tp (m := 2) rfl (dgs_cons (dg_name S_are_columns.nd (i := 2) rfl (.inl rfl) (show (2 : Nat) < 4 from by decide)) (dgs_cons (dg_name S_are_columns.nd (i := 3) rfl (.inl rfl) (show (3 : Nat) < 4 from by decide)) dgs_nil)))) (fun R s H C cl fp hT1 => dts_nil) (fun R s H C cl fp hT1 => (de_cmp op_ltD og_cmp (de_var 2 (pv 2)) (de_var 3 (pv 3)) (by first | exact nomark _ | rfl)))) da_nil) (by rfl))))))
theorem ok_common_divisor (FA : Facts P w K mg base T) : FnOk P w K mg base (L2.CX P w) 1 FA.a_common_divisor FA.d_common_divisor P_common_divisor (spD K mg T 2 (F_common_divisor FA.ad)) :=
  fnD false FA.f_common_divisor S_common_divisor (fun cdv hcd A outer s H E R W hT hr tk => (dss_cons (ds_while fu_common_divisor_0 (passes_of rfl) (dt_cmp op_gtD og_cmp (de_var 1 (pv 1)) de_int (by first | exact nomark _ | rfl)) (dss_one (ds_par (ps_par rfl S_common_divisor.nd (i := 0) (j := 1) rfl rfl (by decide) rfl rfl (da_cons (de_var 1 (pv 1)) (da_cons (de_bin op_mod og_mod (de_ct call_intD cg_int FA.n_int (da_cons (de_var 0 (pv 0)) da_nil) (by rfl)) (de_var 1 (pv 1))) da_nil)) (by rfl)) (show (0 : Nat) < 2 from by decide) (show (1 : Nat) < 2 from by decide)))) (dss_one (ds_ret (de_var 0 (pv 0))))))
theorem ok_is_fraction (FA : Facts P w K mg base T) : FnOk P w K mg base (L2.CX P w) 2 FA.a_is_fraction FA.d_is_fraction P_is_fraction (spD K mg T 1 (F_is_fraction FA.ad)) :=
  fnD false FA.f_is_fraction S_is_fraction (fun cdv hcd A outer s H E R W hT hr tk => (dss_cons (ds_if (PW.pt (dw_or (dt_not (dt_tru (de_isi isiT_ok (.ty _) FA.n_isinstance (de_var 0 (pv 0)) (pe_bltn rfl FA.n_tuple (by rfl) rfl)))) (dw_or (dt_cmp (op_ne2 (huD hr)) og_ne (de_cb call_len cg_len FA.n_len (da_cons (de_var 0 (pv 0)) da_nil) (by rfl)) de_int (by first | exact nomark _ | rfl)) (dw_or1 (dt_not (dt_tru (de_cb (cr_all rfl) cg_all FA.n_all (da_cons (de_lc (own := [((Str.ofString "one"), 1)]) rfl S_is_fraction.nd (di_seq (de_var 0 (pv 0))) (blkOk_by (by rfl)) (fun R s H C cl fp hT1 => (dg_name S_is_fraction.nd (i := 1) rfl (.inl rfl) (show (1 : Nat) < 2 from by decide))) (fun R s H C cl fp hT1 => dts_nil) (fun R s H C cl fp hT1 => (de_and (de_call (hT1.trans hT) (ok_is_integer FA) tk_no (hr.mono (show (1 : Nat) ≤ 1 from by decide)) FA.g_is_integer FA.f_is_integer.kp (b_is_integer FA) (da_cons (de_var 1 (pv 1)) da_nil)) (de_one (de_cmp op_gtD og_cmp (de_var 1 (pv 1)) de_int (by first | exact nomark _ | rfl)))))) da_nil) (by rfl)))))))) (dss_one (ds_ret de_bl)) dss_nil) (dss_one (ds_ret (de_cmp (op_eq2 (huD hr)) og_eq (de_call hT (ok_common_divisor FA) (tkE tk) (hr.mono (show (1 : Nat) ≤ 1 from by decide)) FA.g_common_divisor FA.f_common_divisor.kp (b_common_divisor FA) (da_cons (de_ix (de_var 0 (pv 0)) de_int) (da_cons (de_ix (de_var 0 (pv 0)) de_int) da_nil))) de_int (by first | exact nomark _ | rfl))))))
theorem ok_Scale___init__ (FA : Facts P w K mg base T) : FnOk P w K mg base (L2.CX P w) 1 FA.a_Scale___init__ FA.d_Scale___init__ P_Scale___init__ (spD K mg T 5 (F_Scale___init__ FA.ad)) :=
  fnD false FA.f_Scale___init__ S_Scale___init__ (fun cdv hcd A outer s H E R W hT hr tk => (dss_cons (ds_fld (FA.fld_own_word) (de_var 0 (pv 0)) (de_var 1 (pv 1))) (dss_cons (ds_fld (FA.fld_own_size) (de_var 0 (pv 0)) (de_var 2 (pv 2))) (dss_cons (ds_fld (FA.fld_own_zero) (de_var 0 (pv 0)) (de_var 3 (pv 3))) (dss_one (ds_fld (FA.fld_own_one) (de_var 0 (pv 0)) (de_var 4 (pv 4))))))))
theorem ok_Scale_sums (FA : Facts P w K mg base T) : FnOk P w K mg base (L2.CX P w) 3 FA.a_Scale_sums FA.d_Scale_sums P_Scale_sums (spD K mg T 0 (F_Scale_sums FA.ad)) :=
  fnD false FA.f_Scale_sums S_Scale_sums (fun cdv hcd A outer s H E R W hT hr tk => (dss_one (ds_ret (de_make hT FA.mk_SumScale (ok_Scale___init__ FA) (tkE tk) (hr.mono (show (2 : Nat) ≤ 2 from by decide)) FA.g_SumScale (b_Scale___init__ FA) (da_cons (de_gl (FA.c_SUMS)) (da_cons de_int (da_cons de_int (da_cons de_int da_nil))))))))
theorem ok_Scale_classes (FA : Facts P w K mg base T) : FnOk P w K mg base (L2.CX P w) 3 FA.a_Scale_classes FA.d_Scale_classes P_Scale_classes (spD K mg T 1 (F_Scale_classes FA.ad)) :=
  fnD false FA.f_Scale_classes S_Scale_classes (fun cdv hcd A outer s H E R W hT hr tk => (dss_cons (ds_if (PW.pt (dw_or (dt_not (dt_tru (de_call hT (ok_is_integer FA) (tkE tk) (hr.mono (show (1 : Nat) ≤ 2 from by decide)) FA.g_is_integer FA.f_is_integer.kp (b_is_integer FA) (da_cons (de_var 0 (pv 0)) da_nil)))) (dw_or1 (dt_not (dt_chain2 op_leD op_leD og_cmp og_cmp de_int (de_var 0 (pv 0)) (de_gl (FA.c_MAX_SIZE))))))) (dss_one ds_never) dss_nil) (dss_one (ds_ret (de_make hT FA.mk_ClassScale (ok_Scale___init__ FA) (tkE tk) (hr.mono (show (2 : Nat) ≤ 2 from by decide)) FA.g_ClassScale (b_Scale___init__ FA) (da_cons (de_gl (FA.c_CLASSES)) (da_cons (de_var 0 (pv 0)) (da_cons (de_bin op_mulD og_mul (de_tup (da_cons de_int da_nil)) (de_var 0 (pv 0))) (da_cons (de_bin op_addD og_add (de_tup (da_cons de_int da_nil)) (de_bin op_mulD og_mul (de_tup (da_cons de_int da_nil)) (de_bin op_sub og_sub (de_var 0 (pv 0)) de_int))) da_nil)))))))))
theorem ok_Scale_odds (FA : Facts P w K mg base T) : FnOk P w K mg base (L2.CX P w) 3 FA.a_Scale_odds FA.d_Scale_odds P_Scale_odds (spD K mg T 0 (F_Scale_odds FA.ad)) :=
  fnD false FA.f_Scale_odds S_Scale_odds (fun cdv hcd A outer s H E R W hT hr tk => (dss_one (ds_ret (de_make hT FA.mk_OddsScale (ok_Scale___init__ FA) (tkE tk) (hr.mono (show (2 : Nat) ≤ 2 from by decide)) FA.g_OddsScale (b_Scale___init__ FA) (da_cons (de_gl (FA.c_ODDS)) (da_cons de_int (da_cons (de_tup (da_cons de_int (da_cons de_int da_nil))) (da_cons (de_tup (da_cons de_int (da_cons de_int da_nil))) da_nil))))))))
end
end M87

-- V87_1
/-! V87_1: the walks. Printed by gen.py. -/
namespace M87
open PySem PySem.Spec PyProof.Rows L2 DL
section
variable {P : Program} {w : World} {K : PySem.W.Frag} {mg : MG} {base : Heap} {T : List (Addr × Str)}
theorem ok_SumScale_has_form (FA : Facts P w K mg base T) : FnOk P w K mg base (L2.CX P w) 2 FA.a_SumScale_has_form FA.d_SumScale_has_form P_SumScale_has_form (spD K mg T 2 (F_SumScale_has_form FA.ad)) :=
  fnD false FA.f_SumScale_has_form S_SumScale_has_form (fun cdv hcd A outer s H E R W hT hr tk => (dss_one (ds_ret (de_call hT (ok_is_integer FA) (tkE tk) (hr.mono (show (1 : Nat) ≤ 1 from by decide)) FA.g_is_integer FA.f_is_integer.kp (b_is_integer FA) (da_cons (de_var 1 (pv 1)) da_nil)))))
theorem ok_ClassScale_has_form (FA : Facts P w K mg base T) : FnOk P w K mg base (L2.CX P w) 2 FA.a_ClassScale_has_form FA.d_ClassScale_has_form P_ClassScale_has_form (spD K mg T 2 (F_ClassScale_has_form FA.ad)) :=
  fnD false FA.f_ClassScale_has_form S_ClassScale_has_form (fun cdv hcd A outer s H E R W hT hr tk => (dss_cons (ds_if (PW.pt (dw_or (dt_not (dt_tru (de_isi isiT_ok (.ty _) FA.n_isinstance (de_var 1 (pv 1)) (pe_bltn rfl FA.n_tuple (by rfl) rfl)))) (dw_or1 (dt_cmp (op_ne2 (huD hr)) og_ne (de_cb call_len cg_len FA.n_len (da_cons (de_var 1 (pv 1)) da_nil) (by rfl)) (de_fld (FA.fld_own_size) (de_var 0 (pv 0))) (by first | exact nomark _ | rfl))))) (dss_one (ds_ret de_bl)) dss_nil) (dss_one (ds_ret (de_cb (cr_all rfl) cg_all FA.n_all (da_cons (de_lc (own := [((Str.ofString "one"), 2)]) rfl S_ClassScale_has_form.nd (di_seq (de_var 1 (pv 1))) (blkOk_by (by rfl)) (fun R s H C cl fp hT1 => (dg_name S_ClassScale_has_form.nd (i := 2) rfl (.inl rfl) (show (2 : Nat) < 3 from by decide))) (fun R s H C cl fp hT1 => dts_nil) (fun R s H C cl fp hT1 => (de_call (hT1.trans hT) (ok_is_integer FA) tk_no (hr.mono (show (1 : Nat) ≤ 1 from by decide)) FA.g_is_integer FA.f_is_integer.kp (b_is_integer FA) (da_cons (de_var 2 (pv 2)) da_nil)))) da_nil) (by rfl))))))
theorem ok_OddsScale_has_form (FA : Facts P w K mg base T) : FnOk P w K mg base (L2.CX P w) 3 FA.a_OddsScale_has_form FA.d_OddsScale_has_form P_OddsScale_has_form (spD K mg T 2 (F_OddsScale_has_form FA.ad)) :=
  fnD false FA.f_OddsScale_has_form S_OddsScale_has_form (fun cdv hcd A outer s H E R W hT hr tk => (dss_one (ds_ret (de_call hT (ok_is_fraction FA) (tkE tk) (hr.mono (show (2 : Nat) ≤ 2 from by decide)) FA.g_is_fraction FA.f_is_fraction.kp (b_is_fraction FA) (da_cons (de_var 1 (pv 1)) da_nil)))))
theorem ok_Scale_is_amount (FA : Facts P w K mg base T) : FnOk P w K mg base (L2.CX P w) 4 FA.a_Scale_is_amount FA.d_Scale_is_amount P_Scale_is_amount (spD K mg T 2 (F_Scale_is_amount FA.ad)) :=
  fnD false FA.f_Scale_is_amount S_Scale_is_amount (fun cdv hcd A outer s H E R W hT hr tk => (dss_one (ds_ret (de_meth hT rfl (fun C Fn h => by rcases alt3 h with ⟨rfl, rfl⟩ | ⟨rfl, rfl⟩ | ⟨rfl, rfl⟩; exact (pe_methE (de_var 0 (pv 0)) FA.cl_SumScale FA.me_SumScale_has_form (ok_SumScale_has_form FA) (hr.mono (show (2 : Nat) ≤ 3 from by decide)) (b_SumScale_has_form FA) (tkE tk) (da_cons (de_var 1 (pv 1)) da_nil)); exact (pe_methE (de_var 0 (pv 0)) FA.cl_ClassScale FA.me_ClassScale_has_form (ok_ClassScale_has_form FA) (hr.mono (show (2 : Nat) ≤ 3 from by decide)) (b_ClassScale_has_form FA) (tkE tk) (da_cons (de_var 1 (pv 1)) da_nil)); exact (pe_methE (de_var 0 (pv 0)) FA.cl_OddsScale FA.me_OddsScale_has_form (ok_OddsScale_has_form FA) (hr.mono (show (3 : Nat) ≤ 3 from by decide)) (b_OddsScale_has_form FA) (tkE tk) (da_cons (de_var 1 (pv 1)) da_nil)))))))
theorem ok_Scale___eq__ (FA : Facts P w K mg base T) : FnOk P w K mg base (L2.CX P w) 1 FA.a_Scale___eq__ FA.d_Scale___eq__ P_Scale___eq__ (spD K mg T 2 (F_Scale___eq__ FA.ad)) :=
  fnD false FA.f_Scale___eq__ S_Scale___eq__ (fun cdv hcd A outer s H E R W hT hr tk => (dss_one (ds_ret (de_and (de_isi FA.isi_Scale (.own _) FA.n_isinstance (de_var 1 (pv 1)) (pe_glob rfl FA.g_Scale rfl)) (de_and (de_cmp (op_eq2 (huD hr)) og_eq (de_fld (FA.fld_own_word) (de_var 0 (pv 0))) (de_fld (FA.fld_own_word) (de_var 1 (pv 1))) (by first | exact nomark _ | rfl)) (de_one (de_cmp (op_eq2 (huD hr)) og_eq (de_fld (FA.fld_own_size) (de_var 0 (pv 0))) (de_fld (FA.fld_own_size) (de_var 1 (pv 1))) (by first | exact nomark _ | rfl))))))))
theorem hcsEq (FA : Facts P w K mg base T) : ∀ C Fn, (C, Fn) ∈ altsEq FA.ad → ∀ C' ∈ clsI FA.ad, PySem.W.notFirst K C (.ref C') = true := fun C Fn h C' h2 => FA.nf C (by rcases alt3 h with ⟨rfl, rfl⟩ | ⟨rfl, rfl⟩ | ⟨rfl, rfl⟩ <;> simp [clsI]) C' h2
theorem eqOk {X : Cx} {T : List (Addr × Str)} (FA : Facts X.prog X.w X.K X.mg X.base T) (hr : Room 1 X.A) : ∀ C Fn, (C, Fn) ∈ altsEq FA.ad → OpR X (compareOp .Eq) (rOwnI X.K X.mg T C 2 Fn) := fun C Fn h => by
  rcases alt3 h with ⟨rfl, rfl⟩ | ⟨rfl, rfl⟩ | ⟨rfl, rfl⟩
  exact op_ownI (ps := P_Scale___eq__) (fun _ _ => rfl) FA.eq_SumScale FA.ef (ok_Scale___eq__ FA) hr (b_Scale___eq__ FA)
  exact op_ownI (ps := P_Scale___eq__) (fun _ _ => rfl) FA.eq_ClassScale FA.ef (ok_Scale___eq__ FA) hr (b_Scale___eq__ FA)
  exact op_ownI (ps := P_Scale___eq__) (fun _ _ => rfl) FA.eq_OddsScale FA.ef (ok_Scale___eq__ FA) hr (b_Scale___eq__ FA)
theorem ok_require_scale (FA : Facts P w K mg base T) : FnOk P w K mg base (L2.CX P w) 1 FA.a_require_scale FA.d_require_scale P_require_scale (spD K mg T 1 (F_require_scale FA.ad)) :=
  fnD false FA.f_require_scale S_require_scale (fun cdv hcd A outer s H E R W hT hr tk => (dss_one (ds_if (dt_not (dt_tru (de_isi FA.isi_Scale (.own _) FA.n_isinstance (de_var 0 (pv 0)) (pe_glob rfl FA.g_Scale rfl)))) (dss_one (ds_raise "InvalidScale" rfl rfl tk F.excBase_ValueError FA.xi_InvalidScale FA.g_InvalidScale FA.xk_InvalidScale (raises_own FA.xs_InvalidScale FA.xt_InvalidScale))) dss_nil)))
theorem ok_are_indices (FA : Facts P w K mg base T) : FnOk P w K mg base (L2.CX P w) 3 FA.a_are_indices FA.d_are_indices P_are_indices (spD K mg T 2 (F_are_indices FA.ad)) :=
  fnD false FA.f_are_indices S_are_indices (fun cdv hcd A outer s H E R W hT hr tk => (dss_cons (ds_if (PW.pt (dw_or (dt_not (dt_tru (de_isi isiT_ok (.ty _) FA.n_isinstance (de_var 1 (pv 1)) (pe_bltn rfl FA.n_tuple (by rfl) rfl)))) (dw_or1 (dt_not (dt_tru (de_cb (cr_all rfl) cg_all FA.n_all (da_cons (de_lc (own := [((Str.ofString "index"), 2)]) rfl S_are_indices.nd (di_seq (de_var 1 (pv 1))) (blkOk_by (by rfl)) (fun R s H C cl fp hT1 => (dg_name S_are_indices.nd (i := 2) rfl (.inl rfl) (show (2 : Nat) < 5 from by decide))) (fun R s H C cl fp hT1 => dts_nil) (fun R s H C cl fp hT1 => (de_call (hT1.trans hT) (ok_is_index FA) tk_no (hr.mono (show (2 : Nat) ≤ 2 from by decide)) FA.g_is_index FA.f_is_index.kp (b_is_index FA) (da_cons (de_var 0 (pv 0)) (da_cons (de_var 2 (pv 2)) da_nil))))) da_nil) (by rfl))))))) (dss_one (ds_ret de_bl)) dss_nil) (dss_one (ds_ret (de_cb (cr_all rfl) cg_all FA.n_all (da_cons (de_lc (own := [((Str.ofString "one"), 3), ((Str.ofString "other"), 4)]) rfl S_are_indices.nd (di_zip FA.n_zip (de_var 1 (pv 1)) (de_sl (de_var 1 (pv 1)) (do_part de_int) do_no)) (blkOk_by (by rfl)) (fun R s H C cl fp hT1 => (dg_tp (m := 2) rfl (dgs_cons (dg_name S_are_indices.nd (i := 3) rfl (.inl rfl) (show (3 : Nat) < 5 from by decide)) (dgs_cons (dg_name S_are_indices.nd (i := 4) rfl (.inl rfl) (show (4 : Nat) < 5 from by decide)) dgs_nil)))) (fun R s H C cl fp hT1 => dts_nil) (fun R s H C cl fp hT1 => (de_cmp op_ltD og_cmp (de_var 3 (pv 3)) (de_var 4 (pv 4)) (by first | exact nomark _ | rfl)))) da_nil) (by rfl))))))
theorem ok_is_step_form (FA : Facts P w K mg base T) : FnOk P w K mg base (L2.CX P w) 3 FA.a_is_step_form FA.d_is_step_form P_is_step_form (spD K mg T 1 (F_is_step_form FA.ad)) :=
  fnD false FA.f_is_step_form S_is_step_form (fun cdv hcd A outer s H E R W hT hr tk => (dss_cons (ds_if (PW.pt (dw_or (dt_not (dt_tru (de_isi isiT_ok (.ty _) FA.n_isinstance (de_var 0 (pv 0)) (pe_bltn rfl FA.n_tuple (by rfl) rfl)))) (dw_or (dt_cmp op_ltD og_cmp (de_cb call_len cg_len FA.n_len (da_cons (de_var 0 (pv 0)) da_nil) (by rfl)) de_int (by first | exact nomark _ | rfl)) (dw_or1 (dt_not (dt_tru (de_isi isiT_ok (.ty _) FA.n_isinstance (de_ix (de_var 0 (pv 0)) de_int) (pe_bltn rfl FA.n_str (by rfl) rfl)))))))) (dss_one (ds_ret de_bl)) dss_nil) (dss_cons (ds_if (dt_cmp (op_eq2 (huD hr)) og_eq (de_ix (de_var 0 (pv 0)) de_int) (de_gl (FA.c_PAIR)) (by first | exact nomark _ | rfl)) (dss_one (ds_ret (de_and (de_cmp (op_eq2 (huD hr)) og_eq (de_cb call_len cg_len FA.n_len (da_cons (de_var 0 (pv 0)) da_nil) (by rfl)) de_int (by first | exact nomark _ | rfl)) (de_and (de_call hT (ok_are_columns FA) (tkE tk) (hr.mono (show (2 : Nat) ≤ 2 from by decide)) FA.g_are_columns FA.f_are_columns.kp (b_are_columns FA) (da_cons (de_ix (de_var 0 (pv 0)) de_int) da_nil)) (de_one (de_call hT (ok_are_columns FA) (tkE tk) (hr.mono (show (2 : Nat) ≤ 2 from by decide)) FA.g_are_columns FA.f_are_columns.kp (b_are_columns FA) (da_cons (de_ix (de_var 0 (pv 0)) de_int) da_nil))))))) dss_nil) (dss_one (ds_ret (de_and (de_cmp op_inD2 og_in (de_ix (de_var 0 (pv 0)) de_int) (de_tup (da_cons (de_gl (FA.c_COMMON)) (da_cons (de_gl (FA.c_FIXED)) da_nil))) (by first | exact nomark _ | rfl)) (de_and (de_cmp (op_eq2 (huD hr)) og_eq (de_cb call_len cg_len FA.n_len (da_cons (de_var 0 (pv 0)) da_nil) (by rfl)) de_int (by first | exact nomark _ | rfl)) (de_one (de_call hT (ok_is_name FA) (tkE tk) (hr.mono (show (1 : Nat) ≤ 2 from by decide)) FA.g_is_name FA.f_is_name.kp (b_is_name FA) (da_cons (de_ix (de_var 0 (pv 0)) de_int) da_nil))))))))))
end
end M87

-- V87_2
/-! V87_2: the walks. Printed by gen.py. -/
namespace M87
open PySem PySem.Spec PyProof.Rows L2 DL
section
variable {P : Program} {w : World} {K : PySem.W.Frag} {mg : MG} {base : Heap} {T : List (Addr × Str)}
theorem ok_are_step_forms (FA : Facts P w K mg base T) : FnOk P w K mg base (L2.CX P w) 4 FA.a_are_step_forms FA.d_are_step_forms P_are_step_forms (spD K mg T 1 (F_are_step_forms FA.ad)) :=
  fnD false FA.f_are_step_forms S_are_step_forms (fun cdv hcd A outer s H E R W hT hr tk => (dss_one (ds_ret (de_and (de_isi isiT_ok (.ty _) FA.n_isinstance (de_var 0 (pv 0)) (pe_bltn rfl FA.n_tuple (by rfl) rfl)) (de_one (de_cb (cr_all rfl) cg_all FA.n_all (da_cons (de_lc (own := [((Str.ofString "step"), 1)]) rfl S_are_step_forms.nd (di_seq (de_var 0 (pv 0))) (blkOk_by (by rfl)) (fun R s H C cl fp hT1 => (dg_name S_are_step_forms.nd (i := 1) rfl (.inl rfl) (show (1 : Nat) < 2 from by decide))) (fun R s H C cl fp hT1 => dts_nil) (fun R s H C cl fp hT1 => (de_call (hT1.trans hT) (ok_is_step_form FA) tk_no (hr.mono (show (3 : Nat) ≤ 3 from by decide)) FA.g_is_step_form FA.f_is_step_form.kp (b_is_step_form FA) (da_cons (de_var 1 (pv 1)) da_nil)))) da_nil) (by rfl)))))))
theorem ok_are_makings (FA : Facts P w K mg base T) : FnOk P w K mg base (L2.CX P w) 3 FA.a_are_makings FA.d_are_makings P_are_makings (spD K mg T 1 (F_are_makings FA.ad)) :=
  fnD false FA.f_are_makings S_are_makings (fun cdv hcd A outer s H E R W hT hr tk => (dss_cons (ds_if (PW.pt (dw_or (dt_not (dt_tru (de_isi isiT_ok (.ty _) FA.n_isinstance (de_var 0 (pv 0)) (pe_bltn rfl FA.n_dict (by rfl) rfl)))) (dw_or1 (dt_not (dt_tru (de_cb (cr_all rfl) cg_all FA.n_all (da_cons (de_lcK (own := [((Str.ofString "name"), 1)]) walk_keys rfl S_are_makings.nd (pi_lkeys (pv 0)) (blkOk_by (by rfl)) (fun R s H C cl fp hT1 => (dg_name S_are_makings.nd (i := 1) rfl (.inl rfl) (show (1 : Nat) < 3 from by decide))) (fun R s H C cl fp hT1 => dts_nil) (fun R s H C cl fp hT1 => (de_call (hT1.trans hT) (ok_is_name FA) tk_no (hr.mono (show (1 : Nat) ≤ 2 from by decide)) FA.g_is_name FA.f_is_name.kp (b_is_name FA) (da_cons (de_var 1 (pv 1)) da_nil)))) da_nil) (by rfl))))))) (dss_one (ds_ret de_bl)) dss_nil) (dss_cons (ds_if (dt_not (dt_tru (de_call hT (ok_are_columns FA) (tkE tk) (hr.mono (show (2 : Nat) ≤ 2 from by decide)) FA.g_are_columns FA.f_are_columns.kp (b_are_columns FA) (da_cons (de_ct call_tuple_of cg_tuple FA.n_tuple (da_cons (de_cb (call_sortD rfl) cg_sorted FA.n_sorted (da_cons (de_ct (call_listD2 rfl) cg_list FA.n_list (da_cons (de_var 0 (pv 0)) da_nil) (by rfl)) da_nil) (by rfl)) da_nil) (by rfl)) da_nil)))) (dss_one (ds_ret de_bl)) dss_nil) (dss_one (ds_ret (de_cb (cr_all rfl) cg_all FA.n_all (da_cons (de_lcK (own := [((Str.ofString "making"), 2)]) walk_vals rfl S_are_makings.nd (pi_lvals (pv 0)) (blkOk_by (by rfl)) (fun R s H C cl fp hT1 => (dg_name S_are_makings.nd (i := 2) rfl (.inl rfl) (show (2 : Nat) < 3 from by decide))) (fun R s H C cl fp hT1 => dts_nil) (fun R s H C cl fp hT1 => (de_and (de_isi isiT_ok (.ty _) FA.n_isinstance (de_var 2 (pv 2)) (pe_bltn rfl FA.n_str (by rfl) rfl)) (de_one (de_cmp op_inD2 og_in (de_var 2 (pv 2)) (de_gl (FA.c_MAKINGS)) (by first | exact nomark _ | rfl)))))) da_nil) (by rfl)))))))
theorem ok_is_order_form (FA : Facts P w K mg base T) : FnOk P w K mg base (L2.CX P w) 5 FA.a_is_order_form FA.d_is_order_form P_is_order_form (spD K mg T 1 (F_is_order_form FA.ad)) :=
  fnD false FA.f_is_order_form S_is_order_form (fun cdv hcd A outer s H E R W hT hr tk => (dss_cons (ds_if (PW.pt (dw_or (dt_not (dt_tru (de_isi isiT_ok (.ty _) FA.n_isinstance (de_var 0 (pv 0)) (pe_bltn rfl FA.n_tuple (by rfl) rfl)))) (dw_or (dt_cmp op_ltD og_cmp (de_cb call_len cg_len FA.n_len (da_cons (de_var 0 (pv 0)) da_nil) (by rfl)) de_int (by first | exact nomark _ | rfl)) (dw_or1 (dt_not (dt_tru (de_isi isiT_ok (.ty _) FA.n_isinstance (de_ix (de_var 0 (pv 0)) de_int) (pe_bltn rfl FA.n_str (by rfl) rfl)))))))) (dss_one (ds_ret de_bl)) dss_nil) (dss_cons (ds_if (dt_cmp (op_eq2 (huD hr)) og_eq (de_ix (de_var 0 (pv 0)) de_int) (de_gl (FA.c_CHAIN)) (by first | exact nomark _ | rfl)) (dss_one (ds_ret (de_and (de_cmp (op_eq2 (huD hr)) og_eq (de_cb call_len cg_len FA.n_len (da_cons (de_var 0 (pv 0)) da_nil) (by rfl)) de_int (by first | exact nomark _ | rfl)) (de_one (de_call hT (ok_are_step_forms FA) (tkE tk) (hr.mono (show (4 : Nat) ≤ 4 from by decide)) FA.g_are_step_forms FA.f_are_step_forms.kp (b_are_step_forms FA) (da_cons (de_ix (de_var 0 (pv 0)) de_int) da_nil)))))) dss_nil) (dss_cons (ds_if (PW.pt (dw_or (dt_cmp (op_ne2 (huD hr)) og_ne (de_ix (de_var 0 (pv 0)) de_int) (de_gl (FA.c_WITNESS)) (by first | exact nomark _ | rfl)) (dw_or (dt_cmp (op_ne2 (huD hr)) og_ne (de_cb call_len cg_len FA.n_len (da_cons (de_var 0 (pv 0)) da_nil) (by rfl)) de_int (by first | exact nomark _ | rfl)) (dw_or1 (dt_not (dt_tru (de_isi isiT_ok (.ty _) FA.n_isinstance (de_ix (de_var 0 (pv 0)) de_int) (pe_bltn rfl FA.n_str (by rfl) rfl)))))))) (dss_one (ds_ret de_bl)) dss_nil) (dss_one (ds_ret (de_and (de_cmp op_inD2 og_in (de_ix (de_var 0 (pv 0)) de_int) (de_gl (FA.c_WORDS)) (by first | exact nomark _ | rfl)) (de_one (de_call hT (ok_are_makings FA) (tkE tk) (hr.mono (show (3 : Nat) ≤ 4 from by decide)) FA.g_are_makings FA.f_are_makings.kp (b_are_makings FA) (da_cons (de_ix (de_var 0 (pv 0)) de_int) da_nil))))))))))
theorem ok_are_keep_indices (FA : Facts P w K mg base T) : FnOk P w K mg base (L2.CX P w) 4 FA.a_are_keep_indices FA.d_are_keep_indices P_are_keep_indices (spD K mg T 1 (F_are_keep_indices FA.ad)) :=
  fnD false FA.f_are_keep_indices S_are_keep_indices (fun cdv hcd A outer s H E R W hT hr tk => (dss_one (ds_ret (de_call hT (ok_are_indices FA) (tkE tk) (hr.mono (show (3 : Nat) ≤ 3 from by decide)) FA.g_are_indices FA.f_are_indices.kp (b_are_indices FA) (da_cons (de_gl (FA.c_MOST_ROWS)) (da_cons (de_var 0 (pv 0)) da_nil))))))
theorem ok_integer_in (FA : Facts P w K mg base T) : FnOk P w K mg base (L2.CX P w) 1 FA.a_integer_in FA.d_integer_in P_integer_in (spD K mg T 1 (F_integer_in FA.ad)) :=
  fnD false FA.f_integer_in S_integer_in (fun cdv hcd A outer s H E R W hT hr tk => (dss_cons (ds_set S_integer_in.nd (i := 1) rfl (.inl rfl) (show (1 : Nat) < 3 from by decide) (de_if (dt_tru (de_starts (de_var 0 (pv 0)) (de_gl (FA.c_NOTHING)))) (de_sl (de_var 0 (pv 0)) (do_part de_int) do_no) (de_var 0 (pv 0)))) (dss_cons (ds_if (PW.pt (dw_or (dt_not (dt_chain2 op_leD op_leD og_cmp og_cmp de_int (de_cb call_len cg_len FA.n_len (da_cons (de_var 1 (pv 1)) da_nil) (by rfl)) (de_gl (FA.c_MOST_FIGURES)))) (dw_or1 (dt_not (dt_tru (de_cb (cr_all rfl) cg_all FA.n_all (da_cons (de_lc (own := [((Str.ofString "sign"), 2)]) rfl S_integer_in.nd (di_seq (de_var 1 (pv 1))) (blkOk_by (by rfl)) (fun R s H C cl fp hT1 => (dg_name S_integer_in.nd (i := 2) rfl (.inl rfl) (show (2 : Nat) < 3 from by decide))) (fun R s H C cl fp hT1 => dts_nil) (fun R s H C cl fp hT1 => (de_cmp op_inD2 og_in (de_var 2 (pv 2)) (de_gl (FA.c_FIGURES)) (by first | exact nomark _ | rfl)))) da_nil) (by rfl))))))) (dss_one (ds_raise "ParseError" rfl rfl tk F.excBase_ValueError FA.xi_ParseError FA.g_ParseError FA.xk_ParseError (raises_own FA.xs_ParseError FA.xt_ParseError))) dss_nil) (dss_one (ds_ret (de_ct call_intD cg_int FA.n_int (da_cons (de_var 0 (pv 0)) da_nil) (by rfl)))))))
theorem ok_require_text (FA : Facts P w K mg base T) : FnOk P w K mg base (L2.CX P w) 1 FA.a_require_text FA.d_require_text P_require_text (spD K mg T 1 (F_require_text FA.ad)) :=
  fnD false FA.f_require_text S_require_text (fun cdv hcd A outer s H E R W hT hr tk => (dss_one (ds_if (dt_not (dt_tru (de_isi isiT_ok (.ty _) FA.n_isinstance (de_var 0 (pv 0)) (pe_bltn rfl FA.n_str (by rfl) rfl)))) (dss_one (ds_raise "ParseError" rfl rfl tk F.excBase_ValueError FA.xi_ParseError FA.g_ParseError FA.xk_ParseError (raises_own FA.xs_ParseError FA.xt_ParseError))) dss_nil)))
theorem ok_require_same (FA : Facts P w K mg base T) : FnOk P w K mg base (L2.CX P w) 1 FA.a_require_same FA.d_require_same P_require_same (spD K mg T 2 (F_require_same FA.ad)) :=
  fnD false FA.f_require_same S_require_same (fun cdv hcd A outer s H E R W hT hr tk => (dss_one (ds_if (dt_cmp (op_ne2 (huD hr)) og_ne (de_var 0 (pv 0)) (de_var 1 (pv 1)) (by first | exact nomark _ | rfl)) (dss_one (ds_raise "ParseError" rfl rfl tk F.excBase_ValueError FA.xi_ParseError FA.g_ParseError FA.xk_ParseError (raises_own FA.xs_ParseError FA.xt_ParseError))) dss_nil)))
theorem ok_columns_text (FA : Facts P w K mg base T) : FnOk P w K mg base (L2.CX P w) 1 FA.a_columns_text FA.d_columns_text P_columns_text (spD K mg T 1 (F_columns_text FA.ad)) :=
  fnD false FA.f_columns_text S_columns_text (fun cdv hcd A outer s H E R W hT hr tk => (dss_one (ds_ret (de_if (dt_cmp (op_ne2 (huD hr)) og_ne (de_var 0 (pv 0)) (de_tup da_nil) (by first | exact nomark _ | rfl)) (de_join de_str (de_var 0 (pv 0))) (de_gl (FA.c_NOTHING))))))
theorem ok_columns_in (FA : Facts P w K mg base T) : FnOk P w K mg base (L2.CX P w) 1 FA.a_columns_in FA.d_columns_in P_columns_in (spD K mg T 1 (F_columns_in FA.ad)) :=
  fnD false FA.f_columns_in S_columns_in (fun cdv hcd A outer s H E R W hT hr tk => (dss_one (ds_ret (de_if (dt_cmp (op_eq2 (huD hr)) og_eq (de_var 0 (pv 0)) (de_gl (FA.c_NOTHING)) (by first | exact nomark _ | rfl)) (de_tup da_nil) (de_ct call_tuple_of cg_tuple FA.n_tuple (da_cons (de_split (de_var 0 (pv 0)) de_str) da_nil) (by rfl))))))
theorem ok_values_text (FA : Facts P w K mg base T) : FnOk P w K mg base (L2.CX P w) 1 FA.a_values_text FA.d_values_text P_values_text (spD K mg T 1 (F_values_text FA.ad)) :=
  fnD false FA.f_values_text S_values_text (fun cdv hcd A outer s H E R W hT hr tk => (dss_one (ds_ret (de_if (dt_cmp (op_ne2 (huD hr)) og_ne (de_var 0 (pv 0)) (de_tup da_nil) (by first | exact nomark _ | rfl)) (de_join de_str (de_lc (own := [((Str.ofString "one"), 1)]) rfl S_values_text.nd (di_seq (de_var 0 (pv 0))) (blkOk_by (by rfl)) (fun R s H C cl fp hT1 => (dg_name S_values_text.nd (i := 1) rfl (.inl rfl) (show (1 : Nat) < 2 from by decide))) (fun R s H C cl fp hT1 => dts_nil) (fun R s H C cl fp hT1 => (de_ct call_strD cg_str FA.n_str (da_cons (de_var 1 (pv 1)) da_nil) (by rfl))))) (de_gl (FA.c_NOTHING))))))
theorem ok_values_in (FA : Facts P w K mg base T) : FnOk P w K mg base (L2.CX P w) 2 FA.a_values_in FA.d_values_in P_values_in (spD K mg T 1 (F_values_in FA.ad)) :=
  fnD false FA.f_values_in S_values_in (fun cdv hcd A outer s H E R W hT hr tk => (dss_one (ds_ret (de_if (dt_cmp (op_eq2 (huD hr)) og_eq (de_var 0 (pv 0)) (de_gl (FA.c_NOTHING)) (by first | exact nomark _ | rfl)) (de_tup da_nil) (de_ct call_tuple_of cg_tuple FA.n_tuple (da_cons (de_lcX (own := [((Str.ofString "word"), 1)]) rfl rfl tk rfl S_values_in.nd (di_seq (de_split (de_var 0 (pv 0)) de_str)) (blkOk_by (by rfl)) (fun R s H C cl fp hT1 => (dg_name S_values_in.nd (i := 1) rfl (.inl rfl) (show (1 : Nat) < 2 from by decide))) (fun R W s H C cl fp E hT1 tkb => dts_nil) (fun R W s H C cl fp E hT1 tkb => (de_call (hT1.trans hT) (ok_integer_in FA) tkb (hr.mono (show (1 : Nat) ≤ 1 from by decide)) FA.g_integer_in FA.f_integer_in.kp (b_integer_in FA) (da_cons (de_var 1 (pv 1)) da_nil)))) da_nil) (by rfl))))))
theorem ok_keep_text (FA : Facts P w K mg base T) : FnOk P w K mg base (L2.CX P w) 2 FA.a_keep_text FA.d_keep_text P_keep_text (spD K mg T 1 (F_keep_text FA.ad)) :=
  fnD false FA.f_keep_text S_keep_text (fun cdv hcd A outer s H E R W hT hr tk => (dss_one (ds_ret (de_if (dt_cmp (op_ne2 (huD hr)) og_ne (de_var 0 (pv 0)) (de_tup da_nil) (by first | exact nomark _ | rfl)) (de_call hT (ok_values_text FA) (tkE tk) (hr.mono (show (1 : Nat) ≤ 1 from by decide)) FA.g_values_text FA.f_values_text.kp (b_values_text FA) (da_cons (de_var 0 (pv 0)) da_nil)) (de_gl (FA.c_NONE))))))
end
end M87

-- V87_3
/-! V87_3: the walks. Printed by gen.py. -/
namespace M87
open PySem PySem.Spec PyProof.Rows L2 DL
section
variable {P : Program} {w : World} {K : PySem.W.Frag} {mg : MG} {base : Heap} {T : List (Addr × Str)}
theorem ok_keep_in (FA : Facts P w K mg base T) : FnOk P w K mg base (L2.CX P w) 3 FA.a_keep_in FA.d_keep_in P_keep_in (spD K mg T 1 (F_keep_in FA.ad)) :=
  fnD false FA.f_keep_in S_keep_in (fun cdv hcd A outer s H E R W hT hr tk => (dss_one (ds_ret (de_if (dt_cmp (op_eq2 (huD hr)) og_eq (de_var 0 (pv 0)) (de_gl (FA.c_NONE)) (by first | exact nomark _ | rfl)) (de_tup da_nil) (de_call hT (ok_values_in FA) (tkE tk) (hr.mono (show (2 : Nat) ≤ 2 from by decide)) FA.g_values_in FA.f_values_in.kp (b_values_in FA) (da_cons (de_var 0 (pv 0)) da_nil))))))
theorem ok_amount_text (FA : Facts P w K mg base T) : FnOk P w K mg base (L2.CX P w) 4 FA.a_amount_text FA.d_amount_text P_amount_text (spD K mg T 2 (F_amount_text FA.ad)) :=
  fnD false FA.f_amount_text S_amount_text (fun cdv hcd A outer s H E R W hT hr tk => (dss_cons (ds_if (dt_eqO hT rfl (hcsEq FA) (fun C Fn h => eqOk FA (hr.mono (show (1 : Nat) ≤ 3 from by decide)) C Fn h) (de_var 0 (pv 0)) (de_smeth0 (pl := plainOf _ _) hT FA.g_Scale FA.rd_Scale FA.sm_Scale_sums (ok_Scale_sums FA) (tkE tk) (hr.mono (show (3 : Nat) ≤ 3 from by decide)) FA.f_Scale_sums.kp (b_Scale_sums FA) (ht := by rfl))) (dss_one (ds_ret (de_ct call_strD cg_str FA.n_str (da_cons (de_var 1 (pv 1)) da_nil) (by rfl)))) dss_nil) (dss_one (ds_ret (de_join (de_if (dt_eqO hT rfl (hcsEq FA) (fun C Fn h => eqOk FA (hr.mono (show (1 : Nat) ≤ 3 from by decide)) C Fn h) (de_var 0 (pv 0)) (de_smeth0 (pl := plainOf _ _) hT FA.g_Scale FA.rd_Scale FA.sm_Scale_odds (ok_Scale_odds FA) (tkE tk) (hr.mono (show (3 : Nat) ≤ 3 from by decide)) FA.f_Scale_odds.kp (b_Scale_odds FA) (ht := by rfl))) de_str de_str) (de_lc (own := [((Str.ofString "one"), 2)]) rfl S_amount_text.nd (di_seq (de_var 1 (pv 1))) (blkOk_by (by rfl)) (fun R s H C cl fp hT1 => (dg_name S_amount_text.nd (i := 2) rfl (.inl rfl) (show (2 : Nat) < 3 from by decide))) (fun R s H C cl fp hT1 => dts_nil) (fun R s H C cl fp hT1 => (de_ct call_strD cg_str FA.n_str (da_cons (de_var 2 (pv 2)) da_nil) (by rfl)))))))))
theorem ok_amount_in (FA : Facts P w K mg base T) : FnOk P w K mg base (L2.CX P w) 5 FA.a_amount_in FA.d_amount_in P_amount_in (spD K mg T 2 (F_amount_in FA.ad)) :=
  fnD false FA.f_amount_in S_amount_in (fun cdv hcd A outer s H E R W hT hr tk => (dss_cons (ds_if (dt_eqO hT rfl (hcsEq FA) (fun C Fn h => eqOk FA (hr.mono (show (1 : Nat) ≤ 4 from by decide)) C Fn h) (de_var 0 (pv 0)) (de_smeth0 (pl := plainOf _ _) hT FA.g_Scale FA.rd_Scale FA.sm_Scale_sums (ok_Scale_sums FA) (tkE tk) (hr.mono (show (3 : Nat) ≤ 4 from by decide)) FA.f_Scale_sums.kp (b_Scale_sums FA) (ht := by rfl))) (dss_one (ds_set S_amount_in.nd (i := 2) rfl (.inl rfl) (show (2 : Nat) < 4 from by decide) (de_call hT (ok_integer_in FA) (tkE tk) (hr.mono (show (1 : Nat) ≤ 4 from by decide)) FA.g_integer_in FA.f_integer_in.kp (b_integer_in FA) (da_cons (de_var 1 (pv 1)) da_nil)))) (dss_one (ds_set S_amount_in.nd (i := 2) rfl (.inl rfl) (show (2 : Nat) < 4 from by decide) (de_ct call_tuple_of cg_tuple FA.n_tuple (da_cons (de_lcX (own := [((Str.ofString "word"), 3)]) rfl rfl tk rfl S_amount_in.nd (di_seq (de_split (de_var 1 (pv 1)) (de_if (dt_eqO hT rfl (hcsEq FA) (fun C Fn h => eqOk FA (hr.mono (show (1 : Nat) ≤ 4 from by decide)) C Fn h) (de_var 0 (pv 0)) (de_smeth0 (pl := plainOf _ _) hT FA.g_Scale FA.rd_Scale FA.sm_Scale_odds (ok_Scale_odds FA) (tkE tk) (hr.mono (show (3 : Nat) ≤ 4 from by decide)) FA.f_Scale_odds.kp (b_Scale_odds FA) (ht := by rfl))) de_str de_str))) (blkOk_by (by rfl)) (fun R s H C cl fp hT1 => (dg_name S_amount_in.nd (i := 3) rfl (.inl rfl) (show (3 : Nat) < 4 from by decide))) (fun R W s H C cl fp E hT1 tkb => dts_nil) (fun R W s H C cl fp E hT1 tkb => (de_call (hT1.trans hT) (ok_integer_in FA) tkb (hr.mono (show (1 : Nat) ≤ 4 from by decide)) FA.g_integer_in FA.f_integer_in.kp (b_integer_in FA) (da_cons (de_var 3 (pv 3)) da_nil)))) da_nil) (by rfl))))) (dss_cons (ds_if (dt_not (dt_tru (de_meth hT rfl (fun C Fn h => by rcases alt3 h with ⟨rfl, rfl⟩ | ⟨rfl, rfl⟩ | ⟨rfl, rfl⟩; exact (pe_methE (de_var 0 (pv 0)) FA.cl_SumScale FA.me_SumScale_is_amount (ok_Scale_is_amount FA) (hr.mono (show (4 : Nat) ≤ 4 from by decide)) (b_Scale_is_amount FA) (tkE tk) (da_cons (de_var 2 (pv 2)) da_nil)); exact (pe_methE (de_var 0 (pv 0)) FA.cl_ClassScale FA.me_ClassScale_is_amount (ok_Scale_is_amount FA) (hr.mono (show (4 : Nat) ≤ 4 from by decide)) (b_Scale_is_amount FA) (tkE tk) (da_cons (de_var 2 (pv 2)) da_nil)); exact (pe_methE (de_var 0 (pv 0)) FA.cl_OddsScale FA.me_OddsScale_is_amount (ok_Scale_is_amount FA) (hr.mono (show (4 : Nat) ≤ 4 from by decide)) (b_Scale_is_amount FA) (tkE tk) (da_cons (de_var 2 (pv 2)) da_nil)))))) (dss_one (ds_raise "ParseError" rfl rfl tk F.excBase_ValueError FA.xi_ParseError FA.g_ParseError FA.xk_ParseError (raises_own FA.xs_ParseError FA.xt_ParseError))) dss_nil) (dss_cons (ds_expr (de_call hT (ok_require_same FA) (tkE tk) (hr.mono (show (1 : Nat) ≤ 4 from by decide)) FA.g_require_same FA.f_require_same.kp (b_require_same FA) (da_cons (de_var 1 (pv 1)) (da_cons (de_call hT (ok_amount_text FA) (tkE tk) (hr.mono (show (4 : Nat) ≤ 4 from by decide)) FA.g_amount_text FA.f_amount_text.kp (b_amount_text FA) (da_cons (de_var 0 (pv 0)) (da_cons (de_var 2 (pv 2)) da_nil))) da_nil)))) (dss_one (ds_ret (de_var 2 (pv 2))))))))
theorem ok_step_text (FA : Facts P w K mg base T) : FnOk P w K mg base (L2.CX P w) 2 FA.a_step_text FA.d_step_text P_step_text (spD K mg T 1 (F_step_text FA.ad)) :=
  fnD false FA.f_step_text S_step_text (fun cdv hcd A outer s H E R W hT hr tk => (dss_cons (ds_if (dt_cmp (op_eq2 (huD hr)) og_eq (de_ix (de_var 0 (pv 0)) de_int) (de_gl (FA.c_PAIR)) (by first | exact nomark _ | rfl)) (dss_one (ds_ret (de_joined (.cons (de_fmt (de_gl (FA.c_PAIR))) (.cons de_str (.cons (de_fmt (de_call hT (ok_columns_text FA) (tkE tk) (hr.mono (show (1 : Nat) ≤ 1 from by decide)) FA.g_columns_text FA.f_columns_text.kp (b_columns_text FA) (da_cons (de_ix (de_var 0 (pv 0)) de_int) da_nil))) (.cons (de_fmt (de_gl (FA.c_SIDES))) (.cons (de_fmt (de_call hT (ok_columns_text FA) (tkE tk) (hr.mono (show (1 : Nat) ≤ 1 from by decide)) FA.g_columns_text FA.f_columns_text.kp (b_columns_text FA) (da_cons (de_ix (de_var 0 (pv 0)) de_int) da_nil))) .nil)))))))) dss_nil) (dss_one (ds_ret (de_joined (.cons (de_fmt (de_ix (de_var 0 (pv 0)) de_int)) (.cons de_str (.cons (de_fmt (de_ix (de_var 0 (pv 0)) de_int)) .nil))))))))
theorem ok_steps_text (FA : Facts P w K mg base T) : FnOk P w K mg base (L2.CX P w) 3 FA.a_steps_text FA.d_steps_text P_steps_text (spD K mg T 1 (F_steps_text FA.ad)) :=
  fnD false FA.f_steps_text S_steps_text (fun cdv hcd A outer s H E R W hT hr tk => (dss_one (ds_ret (de_if (dt_cmp (op_ne2 (huD hr)) og_ne (de_var 0 (pv 0)) (de_tup da_nil) (by first | exact nomark _ | rfl)) (de_join (de_gl (FA.c_STEPS)) (de_lc (own := [((Str.ofString "step"), 1)]) rfl S_steps_text.nd (di_seq (de_var 0 (pv 0))) (blkOk_by (by rfl)) (fun R s H C cl fp hT1 => (dg_name S_steps_text.nd (i := 1) rfl (.inl rfl) (show (1 : Nat) < 2 from by decide))) (fun R s H C cl fp hT1 => dts_nil) (fun R s H C cl fp hT1 => (de_call (hT1.trans hT) (ok_step_text FA) tk_no (hr.mono (show (2 : Nat) ≤ 2 from by decide)) FA.g_step_text FA.f_step_text.kp (b_step_text FA) (da_cons (de_var 1 (pv 1)) da_nil))))) (de_gl (FA.c_NO_STEPS))))))
theorem ok_step_in (FA : Facts P w K mg base T) : FnOk P w K mg base (L2.CX P w) 2 FA.a_step_in FA.d_step_in P_step_in (spD K mg T 1 (F_step_in FA.ad)) :=
  fnD false FA.f_step_in S_step_in (fun cdv hcd A outer s H E R W hT hr tk => (dss_cons (ds_asg (de_part (de_var 0 (pv 0)) de_str) (dg_tp (m := 3) rfl (dgs_cons (dg_name S_step_in.nd (i := 1) rfl (.inl rfl) (show (1 : Nat) < 6 from by decide)) (dgs_cons (dg_name S_step_in.nd (i := 2) rfl (.inl rfl) (show (2 : Nat) < 6 from by decide)) (dgs_cons (dg_name S_step_in.nd (i := 3) rfl (.inl rfl) (show (3 : Nat) < 6 from by decide)) dgs_nil))))) (dss_cons (ds_if (dt_cmp (op_ne2 (huD hr)) og_ne (de_var 1 (pv 1)) (de_gl (FA.c_PAIR)) (by first | exact nomark _ | rfl)) (dss_one (ds_ret (de_tup (da_cons (de_var 1 (pv 1)) (da_cons (de_var 3 (pv 3)) da_nil))))) dss_nil) (dss_cons (ds_asg (de_part (de_var 3 (pv 3)) (de_gl (FA.c_SIDES))) (dg_tp (m := 3) rfl (dgs_cons (dg_name S_step_in.nd (i := 4) rfl (.inl rfl) (show (4 : Nat) < 6 from by decide)) (dgs_cons (dg_name S_step_in.nd (i := 2) rfl (.inl rfl) (show (2 : Nat) < 6 from by decide)) (dgs_cons (dg_name S_step_in.nd (i := 5) rfl (.inl rfl) (show (5 : Nat) < 6 from by decide)) dgs_nil))))) (dss_one (ds_ret (de_tup (da_cons (de_var 1 (pv 1)) (da_cons (de_call hT (ok_columns_in FA) (tkE tk) (hr.mono (show (1 : Nat) ≤ 1 from by decide)) FA.g_columns_in FA.f_columns_in.kp (b_columns_in FA) (da_cons (de_var 4 (pv 4)) da_nil)) (da_cons (de_call hT (ok_columns_in FA) (tkE tk) (hr.mono (show (1 : Nat) ≤ 1 from by decide)) FA.g_columns_in FA.f_columns_in.kp (b_columns_in FA) (da_cons (de_var 5 (pv 5)) da_nil)) da_nil))))))))))
theorem ok_steps_in (FA : Facts P w K mg base T) : FnOk P w K mg base (L2.CX P w) 5 FA.a_steps_in FA.d_steps_in P_steps_in (spD K mg T 1 (F_steps_in FA.ad)) :=
  fnD false FA.f_steps_in S_steps_in (fun cdv hcd A outer s H E R W hT hr tk => (dss_cons (ds_set S_steps_in.nd (i := 1) rfl (.inl rfl) (show (1 : Nat) < 3 from by decide) (de_if (dt_cmp (op_eq2 (huD hr)) og_eq (de_var 0 (pv 0)) (de_gl (FA.c_NO_STEPS)) (by first | exact nomark _ | rfl)) (de_tup da_nil) (de_ct call_tuple_of cg_tuple FA.n_tuple (da_cons (de_lc (own := [((Str.ofString "part"), 2)]) rfl S_steps_in.nd (di_seq (de_split (de_var 0 (pv 0)) (de_gl (FA.c_STEPS)))) (blkOk_by (by rfl)) (fun R s H C cl fp hT1 => (dg_name S_steps_in.nd (i := 2) rfl (.inl rfl) (show (2 : Nat) < 3 from by decide))) (fun R s H C cl fp hT1 => dts_nil) (fun R s H C cl fp hT1 => (de_call (hT1.trans hT) (ok_step_in FA) tk_no (hr.mono (show (2 : Nat) ≤ 4 from by decide)) FA.g_step_in FA.f_step_in.kp (b_step_in FA) (da_cons (de_var 2 (pv 2)) da_nil)))) da_nil) (by rfl)))) (dss_cons (ds_if (dt_not (dt_tru (de_call hT (ok_are_step_forms FA) (tkE tk) (hr.mono (show (4 : Nat) ≤ 4 from by decide)) FA.g_are_step_forms FA.f_are_step_forms.kp (b_are_step_forms FA) (da_cons (de_var 1 (pv 1)) da_nil)))) (dss_one (ds_raise "ParseError" rfl rfl tk F.excBase_ValueError FA.xi_ParseError FA.g_ParseError FA.xk_ParseError (raises_own FA.xs_ParseError FA.xt_ParseError))) dss_nil) (dss_cons (ds_expr (de_call hT (ok_require_same FA) (tkE tk) (hr.mono (show (1 : Nat) ≤ 4 from by decide)) FA.g_require_same FA.f_require_same.kp (b_require_same FA) (da_cons (de_var 0 (pv 0)) (da_cons (de_call hT (ok_steps_text FA) (tkE tk) (hr.mono (show (3 : Nat) ≤ 4 from by decide)) FA.g_steps_text FA.f_steps_text.kp (b_steps_text FA) (da_cons (de_var 1 (pv 1)) da_nil)) da_nil)))) (dss_one (ds_ret (de_var 1 (pv 1))))))))
theorem ok_order_text (FA : Facts P w K mg base T) : FnOk P w K mg base (L2.CX P w) 4 FA.a_order_text FA.d_order_text P_order_text (spD K mg T 1 (F_order_text FA.ad)) :=
  fnD false FA.f_order_text S_order_text (fun cdv hcd A outer s H E R W hT hr tk => (dss_cons (ds_if (dt_cmp (op_eq2 (huD hr)) og_eq (de_ix (de_var 0 (pv 0)) de_int) (de_gl (FA.c_CHAIN)) (by first | exact nomark _ | rfl)) (dss_one (ds_ret (de_joined (.cons (de_fmt (de_gl (FA.c_CHAIN))) (.cons de_str (.cons (de_fmt (de_call hT (ok_steps_text FA) (tkE tk) (hr.mono (show (3 : Nat) ≤ 3 from by decide)) FA.g_steps_text FA.f_steps_text.kp (b_steps_text FA) (da_cons (de_ix (de_var 0 (pv 0)) de_int) da_nil))) .nil)))))) dss_nil) (dss_cons (ds_setLc (own := [((Str.ofString "name"), 2)]) rfl S_order_text.nd (i := 1) rfl rfl (show (1 : Nat) < 3 from by decide) (sw_true rfl rfl rfl rfl) (di_seq (de_cb (call_sortD rfl) cg_sorted FA.n_sorted (da_cons (de_ct (call_listD2 rfl) cg_list FA.n_list (da_cons (de_ix (de_var 0 (pv 0)) de_int) da_nil) (by rfl)) da_nil) (by rfl))) (blkOk_by (by rfl)) (fun R s H C cl fp hT1 => (dg_name S_order_text.nd (i := 2) rfl (.inl rfl) (show (2 : Nat) < 3 from by decide))) (fun R s H C cl fp hT1 => dts_nil) (fun R s H C cl fp hT1 => (de_joined (.cons (de_fmt (de_var 2 (pv 2))) (.cons de_str (.cons (de_fmt (de_or (de_dget (hu_of hr) (de_ix (de_var 0 (pv 0)) de_int) (de_var 2 (pv 2))) (de_one (de_gl (FA.c_NOTHING))))) .nil))))) (by intro _; rfl)) (dss_one (ds_ret (de_bin op_addD og_add (de_joined (.cons (de_fmt (de_gl (FA.c_WITNESS))) (.cons de_str (.cons (de_fmt (de_ix (de_var 0 (pv 0)) de_int)) (.cons de_str .nil))))) (de_if (dt_cmp (op_ne2 (huD hr)) og_ne (de_var 1 (pv 1)) (de_lst da_nil) (by first | exact nomark _ | rfl)) (de_join de_str (de_var 1 (pv 1))) (de_gl (FA.c_NOTHING)))))))))
theorem ok_making_in (FA : Facts P w K mg base T) : FnOk P w K mg base (L2.CX P w) 1 FA.a_making_in FA.d_making_in P_making_in (spD K mg T 1 (F_making_in FA.ad)) :=
  fnD false FA.f_making_in S_making_in (fun cdv hcd A outer s H E R W hT hr tk => (dss_cons (ds_asg (de_part (de_var 0 (pv 0)) de_str) (dg_tp (m := 3) rfl (dgs_cons (dg_name S_making_in.nd (i := 1) rfl (.inl rfl) (show (1 : Nat) < 4 from by decide)) (dgs_cons (dg_name S_making_in.nd (i := 2) rfl (.inl rfl) (show (2 : Nat) < 4 from by decide)) (dgs_cons (dg_name S_making_in.nd (i := 3) rfl (.inl rfl) (show (3 : Nat) < 4 from by decide)) dgs_nil))))) (dss_one (ds_ret (de_tup (da_cons (de_var 1 (pv 1)) (da_cons (de_if (dt_cmp (op_eq2 (huD hr)) og_eq (de_var 3 (pv 3)) (de_gl (FA.c_NOTHING)) (by first | exact nomark _ | rfl)) de_str (de_var 3 (pv 3))) da_nil)))))))
theorem ok_order_in (FA : Facts P w K mg base T) : FnOk P w K mg base (L2.CX P w) 6 FA.a_order_in FA.d_order_in P_order_in (spD K mg T 1 (F_order_in FA.ad)) :=
  fnD false FA.f_order_in S_order_in (fun cdv hcd A outer s H E R W hT hr tk => (dss_cons (ds_asg (de_part (de_var 0 (pv 0)) de_str) (dg_tp (m := 3) rfl (dgs_cons (dg_name S_order_in.nd (i := 1) rfl (.inl rfl) (show (1 : Nat) < 9 from by decide)) (dgs_cons (dg_name S_order_in.nd (i := 2) rfl (.inl rfl) (show (2 : Nat) < 9 from by decide)) (dgs_cons (dg_name S_order_in.nd (i := 3) rfl (.inl rfl) (show (3 : Nat) < 9 from by decide)) dgs_nil))))) (dss_cons (ds_if (dt_cmp (op_eq2 (huD hr)) og_eq (de_var 1 (pv 1)) (de_gl (FA.c_CHAIN)) (by first | exact nomark _ | rfl)) (dss_one (ds_ret (de_tup (da_cons (de_gl (FA.c_CHAIN)) (da_cons (de_call hT (ok_steps_in FA) (tkE tk) (hr.mono (show (5 : Nat) ≤ 5 from by decide)) FA.g_steps_in FA.f_steps_in.kp (b_steps_in FA) (da_cons (de_var 3 (pv 3)) da_nil)) da_nil))))) dss_nil) (dss_cons (ds_asg (de_part (de_var 3 (pv 3)) de_str) (dg_tp (m := 3) rfl (dgs_cons (dg_name S_order_in.nd (i := 4) rfl (.inl rfl) (show (4 : Nat) < 9 from by decide)) (dgs_cons (dg_name S_order_in.nd (i := 2) rfl (.inl rfl) (show (2 : Nat) < 9 from by decide)) (dgs_cons (dg_name S_order_in.nd (i := 5) rfl (.inl rfl) (show (5 : Nat) < 9 from by decide)) dgs_nil))))) (dss_cons (ds_set S_order_in.nd (i := 6) rfl (.inl rfl) (show (6 : Nat) < 9 from by decide) (de_frz (de_if (dt_cmp (op_eq2 (huD hr)) og_eq (de_var 5 (pv 5)) (de_gl (FA.c_NOTHING)) (by first | exact nomark _ | rfl)) de_dctL (de_ct (call_dictP rfl) cg_dictP FA.n_dict (da_cons (de_lc (own := [((Str.ofString "row"), 8)]) rfl S_order_in.nd (di_seq (de_split (de_var 5 (pv 5)) de_str)) (blkOk_by (by rfl)) (fun R s H C cl fp hT1 => (dg_name S_order_in.nd (i := 8) rfl (.inl rfl) (show (8 : Nat) < 9 from by decide))) (fun R s H C cl fp hT1 => dts_nil) (fun R s H C cl fp hT1 => (de_call (hT1.trans hT) (ok_making_in FA) tk_no (hr.mono (show (1 : Nat) ≤ 5 from by decide)) FA.g_making_in FA.f_making_in.kp (b_making_in FA) (da_cons (de_var 8 (pv 8)) da_nil)))) da_nil) (by rfl))))) (dss_cons (ds_set S_order_in.nd (i := 7) rfl (.inl rfl) (show (7 : Nat) < 9 from by decide) (de_tup (da_cons (de_var 1 (pv 1)) (da_cons (de_var 4 (pv 4)) (da_cons (de_var 6 (pv 6)) da_nil))))) (dss_cons (ds_if (dt_not (dt_tru (de_call hT (ok_is_order_form FA) (tkE tk) (hr.mono (show (5 : Nat) ≤ 5 from by decide)) FA.g_is_order_form FA.f_is_order_form.kp (b_is_order_form FA) (da_cons (de_var 7 (pv 7)) da_nil)))) (dss_one (ds_raise "ParseError" rfl rfl tk F.excBase_ValueError FA.xi_ParseError FA.g_ParseError FA.xk_ParseError (raises_own FA.xs_ParseError FA.xt_ParseError))) dss_nil) (dss_cons (ds_expr (de_call hT (ok_require_same FA) (tkE tk) (hr.mono (show (1 : Nat) ≤ 5 from by decide)) FA.g_require_same FA.f_require_same.kp (b_require_same FA) (da_cons (de_var 0 (pv 0)) (da_cons (de_call hT (ok_order_text FA) (tkE tk) (hr.mono (show (4 : Nat) ≤ 5 from by decide)) FA.g_order_text FA.f_order_text.kp (b_order_text FA) (da_cons (de_var 7 (pv 7)) da_nil)) da_nil)))) (dss_one (ds_ret (de_var 7 (pv 7))))))))))))
end
end M87

-- V87_4
/-! V87_4: the walks. Printed by gen.py. -/
namespace M87
open PySem PySem.Spec PyProof.Rows L2 DL
section
variable {P : Program} {w : World} {K : PySem.W.Frag} {mg : MG} {base : Heap} {T : List (Addr × Str)}
theorem ok_format_steps (FA : Facts P w K mg base T) : FnOk P w K mg base (L2.CX P w) 5 FA.a_format_steps FA.d_format_steps P_format_steps (spD K mg T 1 (F_format_steps FA.ad)) :=
  fnD false FA.f_format_steps S_format_steps (fun cdv hcd A outer s H E R W hT hr tk => (dss_cons (ds_if (dt_not (dt_tru (de_call hT (ok_are_step_forms FA) (tkE tk) (hr.mono (show (4 : Nat) ≤ 4 from by decide)) FA.g_are_step_forms FA.f_are_step_forms.kp (b_are_step_forms FA) (da_cons (de_var 0 (pv 0)) da_nil)))) (dss_one (ds_raise "InvalidStep" rfl rfl tk F.excBase_ValueError FA.xi_InvalidStep FA.g_InvalidStep FA.xk_InvalidStep (raises_own FA.xs_InvalidStep FA.xt_InvalidStep))) dss_nil) (dss_one (ds_ret (de_call hT (ok_steps_text FA) (tkE tk) (hr.mono (show (3 : Nat) ≤ 4 from by decide)) FA.g_steps_text FA.f_steps_text.kp (b_steps_text FA) (da_cons (de_var 0 (pv 0)) da_nil))))))
theorem ok_parse_steps (FA : Facts P w K mg base T) : FnOk P w K mg base (L2.CX P w) 6 FA.a_parse_steps FA.d_parse_steps P_parse_steps (spD K mg T 1 (F_parse_steps FA.ad)) :=
  fnD false FA.f_parse_steps S_parse_steps (fun cdv hcd A outer s H E R W hT hr tk => (dss_cons (ds_expr (de_call hT (ok_require_text FA) (tkE tk) (hr.mono (show (1 : Nat) ≤ 5 from by decide)) FA.g_require_text FA.f_require_text.kp (b_require_text FA) (da_cons (de_var 0 (pv 0)) da_nil))) (dss_one (ds_ret (de_call hT (ok_steps_in FA) (tkE tk) (hr.mono (show (5 : Nat) ≤ 5 from by decide)) FA.g_steps_in FA.f_steps_in.kp (b_steps_in FA) (da_cons (de_var 0 (pv 0)) da_nil))))))
theorem ok_format_order (FA : Facts P w K mg base T) : FnOk P w K mg base (L2.CX P w) 6 FA.a_format_order FA.d_format_order P_format_order (spD K mg T 1 (F_format_order FA.ad)) :=
  fnD false FA.f_format_order S_format_order (fun cdv hcd A outer s H E R W hT hr tk => (dss_cons (ds_if (dt_not (dt_tru (de_call hT (ok_is_order_form FA) (tkE tk) (hr.mono (show (5 : Nat) ≤ 5 from by decide)) FA.g_is_order_form FA.f_is_order_form.kp (b_is_order_form FA) (da_cons (de_var 0 (pv 0)) da_nil)))) (dss_one (ds_raise "InvalidOperation" rfl rfl tk F.excBase_ValueError FA.xi_InvalidOperation FA.g_InvalidOperation FA.xk_InvalidOperation (raises_own FA.xs_InvalidOperation FA.xt_InvalidOperation))) dss_nil) (dss_one (ds_ret (de_call hT (ok_order_text FA) (tkE tk) (hr.mono (show (4 : Nat) ≤ 5 from by decide)) FA.g_order_text FA.f_order_text.kp (b_order_text FA) (da_cons (de_var 0 (pv 0)) da_nil))))))
theorem ok_parse_order (FA : Facts P w K mg base T) : FnOk P w K mg base (L2.CX P w) 7 FA.a_parse_order FA.d_parse_order P_parse_order (spD K mg T 1 (F_parse_order FA.ad)) :=
  fnD false FA.f_parse_order S_parse_order (fun cdv hcd A outer s H E R W hT hr tk => (dss_cons (ds_expr (de_call hT (ok_require_text FA) (tkE tk) (hr.mono (show (1 : Nat) ≤ 6 from by decide)) FA.g_require_text FA.f_require_text.kp (b_require_text FA) (da_cons (de_var 0 (pv 0)) da_nil))) (dss_one (ds_ret (de_call hT (ok_order_in FA) (tkE tk) (hr.mono (show (6 : Nat) ≤ 6 from by decide)) FA.g_order_in FA.f_order_in.kp (b_order_in FA) (da_cons (de_var 0 (pv 0)) da_nil))))))
theorem ok_format_keep (FA : Facts P w K mg base T) : FnOk P w K mg base (L2.CX P w) 5 FA.a_format_keep FA.d_format_keep P_format_keep (spD K mg T 1 (F_format_keep FA.ad)) :=
  fnD false FA.f_format_keep S_format_keep (fun cdv hcd A outer s H E R W hT hr tk => (dss_cons (ds_if (dt_not (dt_tru (de_call hT (ok_are_keep_indices FA) (tkE tk) (hr.mono (show (4 : Nat) ≤ 4 from by decide)) FA.g_are_keep_indices FA.f_are_keep_indices.kp (b_are_keep_indices FA) (da_cons (de_var 0 (pv 0)) da_nil)))) (dss_one (ds_raise "InvalidKeep" rfl rfl tk F.excBase_ValueError FA.xi_InvalidKeep FA.g_InvalidKeep FA.xk_InvalidKeep (raises_own FA.xs_InvalidKeep FA.xt_InvalidKeep))) dss_nil) (dss_one (ds_ret (de_call hT (ok_keep_text FA) (tkE tk) (hr.mono (show (2 : Nat) ≤ 4 from by decide)) FA.g_keep_text FA.f_keep_text.kp (b_keep_text FA) (da_cons (de_var 0 (pv 0)) da_nil))))))
theorem ok_parse_keep (FA : Facts P w K mg base T) : FnOk P w K mg base (L2.CX P w) 5 FA.a_parse_keep FA.d_parse_keep P_parse_keep (spD K mg T 1 (F_parse_keep FA.ad)) :=
  fnD false FA.f_parse_keep S_parse_keep (fun cdv hcd A outer s H E R W hT hr tk => (dss_cons (ds_expr (de_call hT (ok_require_text FA) (tkE tk) (hr.mono (show (1 : Nat) ≤ 4 from by decide)) FA.g_require_text FA.f_require_text.kp (b_require_text FA) (da_cons (de_var 0 (pv 0)) da_nil))) (dss_cons (ds_set S_parse_keep.nd (i := 1) rfl (.inl rfl) (show (1 : Nat) < 2 from by decide) (de_call hT (ok_keep_in FA) (tkE tk) (hr.mono (show (3 : Nat) ≤ 4 from by decide)) FA.g_keep_in FA.f_keep_in.kp (b_keep_in FA) (da_cons (de_var 0 (pv 0)) da_nil))) (dss_cons (ds_if (dt_not (dt_tru (de_call hT (ok_are_keep_indices FA) (tkE tk) (hr.mono (show (4 : Nat) ≤ 4 from by decide)) FA.g_are_keep_indices FA.f_are_keep_indices.kp (b_are_keep_indices FA) (da_cons (de_var 1 (pv 1)) da_nil)))) (dss_one (ds_raise "ParseError" rfl rfl tk F.excBase_ValueError FA.xi_ParseError FA.g_ParseError FA.xk_ParseError (raises_own FA.xs_ParseError FA.xt_ParseError))) dss_nil) (dss_cons (ds_expr (de_call hT (ok_require_same FA) (tkE tk) (hr.mono (show (1 : Nat) ≤ 4 from by decide)) FA.g_require_same FA.f_require_same.kp (b_require_same FA) (da_cons (de_var 0 (pv 0)) (da_cons (de_call hT (ok_keep_text FA) (tkE tk) (hr.mono (show (2 : Nat) ≤ 4 from by decide)) FA.g_keep_text FA.f_keep_text.kp (b_keep_text FA) (da_cons (de_var 1 (pv 1)) da_nil)) da_nil)))) (dss_one (ds_ret (de_var 1 (pv 1)))))))))
end
end M87

-- V87_5
/-! V87_5: the walks. Printed by gen.py. -/
namespace M87
open PySem PySem.Spec PyProof.Rows L2 DL
section
variable {P : Program} {w : World} {K : PySem.W.Frag} {mg : MG} {base : Heap} {T : List (Addr × Str)}
theorem ok_format_amount (FA : Facts P w K mg base T) : FnOk P w K mg base (L2.CX P w) 5 FA.a_format_amount FA.d_format_amount P_format_amount (spD K mg T 2 (F_format_amount FA.ad)) :=
  fnD false FA.f_format_amount S_format_amount (fun cdv hcd A outer s H E R W hT hr tk => (dss_cons (ds_expr (de_call hT (ok_require_scale FA) (tkE tk) (hr.mono (show (1 : Nat) ≤ 4 from by decide)) FA.g_require_scale FA.f_require_scale.kp (b_require_scale FA) (da_cons (de_var 0 (pv 0)) da_nil))) (dss_cons (ds_if (dt_not (dt_tru (de_meth hT rfl (fun C Fn h => by rcases alt3 h with ⟨rfl, rfl⟩ | ⟨rfl, rfl⟩ | ⟨rfl, rfl⟩; exact (pe_methE (de_var 0 (pv 0)) FA.cl_SumScale FA.me_SumScale_is_amount (ok_Scale_is_amount FA) (hr.mono (show (4 : Nat) ≤ 4 from by decide)) (b_Scale_is_amount FA) (tkE tk) (da_cons (de_var 1 (pv 1)) da_nil)); exact (pe_methE (de_var 0 (pv 0)) FA.cl_ClassScale FA.me_ClassScale_is_amount (ok_Scale_is_amount FA) (hr.mono (show (4 : Nat) ≤ 4 from by decide)) (b_Scale_is_amount FA) (tkE tk) (da_cons (de_var 1 (pv 1)) da_nil)); exact (pe_methE (de_var 0 (pv 0)) FA.cl_OddsScale FA.me_OddsScale_is_amount (ok_Scale_is_amount FA) (hr.mono (show (4 : Nat) ≤ 4 from by decide)) (b_Scale_is_amount FA) (tkE tk) (da_cons (de_var 1 (pv 1)) da_nil)))))) (dss_one (ds_raise "InvalidOperation" rfl rfl tk F.excBase_ValueError FA.xi_InvalidOperation FA.g_InvalidOperation FA.xk_InvalidOperation (raises_own FA.xs_InvalidOperation FA.xt_InvalidOperation))) dss_nil) (dss_one (ds_ret (de_call hT (ok_amount_text FA) (tkE tk) (hr.mono (show (4 : Nat) ≤ 4 from by decide)) FA.g_amount_text FA.f_amount_text.kp (b_amount_text FA) (da_cons (de_var 0 (pv 0)) (da_cons (de_var 1 (pv 1)) da_nil))))))))
theorem ok_parse_amount (FA : Facts P w K mg base T) : FnOk P w K mg base (L2.CX P w) 6 FA.a_parse_amount FA.d_parse_amount P_parse_amount (spD K mg T 2 (F_parse_amount FA.ad)) :=
  fnD false FA.f_parse_amount S_parse_amount (fun cdv hcd A outer s H E R W hT hr tk => (dss_cons (ds_expr (de_call hT (ok_require_scale FA) (tkE tk) (hr.mono (show (1 : Nat) ≤ 5 from by decide)) FA.g_require_scale FA.f_require_scale.kp (b_require_scale FA) (da_cons (de_var 0 (pv 0)) da_nil))) (dss_cons (ds_expr (de_call hT (ok_require_text FA) (tkE tk) (hr.mono (show (1 : Nat) ≤ 5 from by decide)) FA.g_require_text FA.f_require_text.kp (b_require_text FA) (da_cons (de_var 1 (pv 1)) da_nil))) (dss_one (ds_ret (de_call hT (ok_amount_in FA) (tkE tk) (hr.mono (show (5 : Nat) ≤ 5 from by decide)) FA.g_amount_in FA.f_amount_in.kp (b_amount_in FA) (da_cons (de_var 0 (pv 0)) (da_cons (de_var 1 (pv 1)) da_nil))))))))
theorem ok__law_dice (FA : Facts P w K mg base T) : FnOk P w K mg base (L2.CX P w) 1 FA.a__law_dice FA.d__law_dice P__law_dice (spD K mg T 2 (F__law_dice FA.ad)) :=
  fnD true FA.f__law_dice S__law_dice (fun cdv hcd A outer s H E R W hT hr tk => (dss_cons (ds_set S__law_dice.nd (i := 2) rfl (.inl rfl) (show (2 : Nat) < 5 from by decide) (de_bin op_addD og_add (de_bin op_mulD og_mul de_int (de_var 1 (pv 1))) de_int)) (dss_cons (ds_if (dt_cmp op_ltD og_cmp (de_var 1 (pv 1)) (de_cb call_len cg_len FA.n_len (da_cons (de_var 0 (pv 0)) da_nil) (by rfl)) (by first | exact nomark _ | rfl)) (dss_one (ds_set S__law_dice.nd (i := 2) rfl (.inl rfl) (show (2 : Nat) < 5 from by decide) (de_ix (de_var 0 (pv 0)) (de_var 1 (pv 1))))) dss_nil) (dss_cons (ds_set S__law_dice.nd (i := 3) rfl (.inl rfl) (show (3 : Nat) < 5 from by decide) (de_bin op_mod og_mod (de_ct call_intD cg_int FA.n_int (da_cons (de_cb call_abs cg_abs FA.n_abs (da_cons (de_var 2 (pv 2)) da_nil) (by rfl)) da_nil) (by rfl)) (de_bin op_powB og_pow (de_bin op_powB og_pow de_int de_int) de_int))) (dss_cons (ds_set S__law_dice.nd (i := 4) rfl (.inl rfl) (show (4 : Nat) < 5 from by decide) (de_bin op_addD og_add (de_bin op_addD og_add (de_bin op_addD og_add (de_bin op_mulD og_mul (de_bin op_mod og_mod (de_ct call_intD cg_int FA.n_int (da_cons (de_var 3 (pv 3)) da_nil) (by rfl)) de_int) de_int) (de_bin op_mulD og_mul de_int (de_var 1 (pv 1)))) (de_bin op_mulD og_mul de_int (de_ct call_intD cg_int FA.n_int (da_cons (de_cmp op_ltD og_cmp (de_var 2 (pv 2)) de_int (by first | exact nomark _ | rfl)) da_nil) (by rfl)))) de_int)) (dss_one (ds_ret (de_lstL (da_cons (de_cb (call_max2 rfl) cg_max2 FA.n_max (da_cons de_int (da_cons (de_bin op_sub og_sub (de_var 3 (pv 3)) (de_bin op_powB og_pow de_int de_int)) da_nil)) (by rfl)) (da_cons (de_bin op_mod og_mod (de_ct call_intD cg_int FA.n_int (da_cons (de_var 4 (pv 4)) da_nil) (by rfl)) de_int) (da_cons de_int da_nil)))))))))))
theorem ok__law_pull (FA : Facts P w K mg base T) : FnOk P w K mg base (L2.CX P w) 1 FA.a__law_pull FA.d__law_pull P__law_pull (spD K mg T 2 (F__law_pull FA.ad)) :=
  fnD false FA.f__law_pull S__law_pull (fun cdv hcd A outer s H E R W hT hr tk => (dss_cons (ds_if (dt_cmp op_gtD og_cmp (de_ix (de_var 0 (pv 0)) de_int) de_int (by first | exact nomark _ | rfl)) (dss_cons (ds_set S__law_pull.nd (i := 2) rfl (.inl rfl) (show (2 : Nat) < 5 from by decide) (de_bin op_mod og_mod (de_ct call_intD cg_int FA.n_int (da_cons (de_ix (de_var 0 (pv 0)) de_int) da_nil) (by rfl)) (de_var 1 (pv 1)))) (dss_cons (ds_store (hu_of hr) (de_var 0 (pv 0)) de_int (de_bin op_fdivW og_div (de_ix (de_var 0 (pv 0)) de_int) (de_var 1 (pv 1)))) (dss_one (ds_ret (de_var 2 (pv 2)))))) dss_nil) (dss_cons (ds_store (hu_of hr) (de_var 0 (pv 0)) de_int (de_bin op_addD og_add (de_ix (de_var 0 (pv 0)) de_int) de_int)) (dss_cons (ds_set S__law_pull.nd (i := 3) rfl (.inl rfl) (show (3 : Nat) < 5 from by decide) (de_bin op_mod og_mod (de_ct call_intD cg_int FA.n_int (da_cons (de_bin op_addD og_add (de_ix (de_var 0 (pv 0)) de_int) (de_bin op_mulD og_mul de_int (de_ix (de_var 0 (pv 0)) de_int))) da_nil) (by rfl)) de_int)) (dss_cons (ds_set S__law_pull.nd (i := 4) rfl (.inl rfl) (show (4 : Nat) < 5 from by decide) (de_bin op_mulD og_mul (de_bin op_mod og_mod (de_ct call_intD cg_int FA.n_int (da_cons (de_bin op_mulD og_mul (de_var 3 (pv 3)) (de_var 3 (pv 3))) da_nil) (by rfl)) de_int) (de_var 3 (pv 3)))) (dss_one (ds_ret (de_bin op_mod og_mod (de_ct call_intD cg_int FA.n_int (da_cons (de_bin op_fdivW og_div (de_bin op_mod og_mod (de_ct call_intD cg_int FA.n_int (da_cons (de_bin op_addD og_add (de_var 4 (pv 4)) (de_bin op_mulD og_mul de_int (de_ix (de_var 0 (pv 0)) de_int))) da_nil) (by rfl)) de_int) de_int) da_nil) (by rfl)) (de_var 1 (pv 1))))))))))
theorem ok__law_pick (FA : Facts P w K mg base T) : FnOk P w K mg base (L2.CX P w) 2 FA.a__law_pick FA.d__law_pick P__law_pick (spD K mg T 2 (F__law_pick FA.ad)) :=
  fnD false FA.f__law_pick S__law_pick (fun cdv hcd A outer s H E R W hT hr tk => (dss_one (ds_ret (de_ix (de_var 1 (pv 1)) (de_call hT (ok__law_pull FA) (tkE tk) (hr.mono (show (1 : Nat) ≤ 1 from by decide)) FA.g__law_pull FA.f__law_pull.kp (b__law_pull FA) (da_cons (de_var 0 (pv 0)) (da_cons (de_cb call_len cg_len FA.n_len (da_cons (de_var 1 (pv 1)) da_nil) (by rfl)) da_nil)))))))
theorem ok__law_columns (FA : Facts P w K mg base T) : FnOk P w K mg base (L2.CX P w) 2 FA.a__law_columns FA.d__law_columns P__law_columns (spD K mg T 2 (F__law_columns FA.ad)) :=
  fnD false FA.f__law_columns S__law_columns (fun cdv hcd A outer s H E R W hT hr tk => (dss_cons (ds_par (ps_par rfl S__law_columns.nd (i := 2) (j := 3) rfl rfl (by decide) rfl rfl (da_cons de_str (da_cons (de_lstL da_nil) da_nil)) (by rfl)) (show (2 : Nat) < 7 from by decide) (show (3 : Nat) < 7 from by decide)) (dss_cons (ds_for (passes_of rfl) rfl (di_rg1 FA.n_range (de_var 1 (pv 1))) (dg_name S__law_columns.nd (i := 4) rfl (.inl rfl) (show (4 : Nat) < 7 from by decide)) (dss_cons (ds_set S__law_columns.nd (i := 5) rfl (.inl rfl) (show (5 : Nat) < 7 from by decide) (de_ix (de_var 2 (pv 2)) (de_bin op_addD og_add (de_bin op_mulD og_mul de_int (de_var 4 (pv 4))) (de_call hT (ok__law_pull FA) (tkE tk) (hr.mono (show (1 : Nat) ≤ 1 from by decide)) FA.g__law_pull FA.f__law_pull.kp (b__law_pull FA) (da_cons (de_var 0 (pv 0)) (da_cons de_int da_nil)))))) (dss_cons (ds_for (passes_of rfl) rfl (di_rg1 FA.n_range (de_ix (de_lst (da_cons de_int (da_cons de_int (da_cons de_int (da_cons de_int da_nil))))) (de_call hT (ok__law_pull FA) (tkE tk) (hr.mono (show (1 : Nat) ≤ 1 from by decide)) FA.g__law_pull FA.f__law_pull.kp (b__law_pull FA) (da_cons (de_var 0 (pv 0)) (da_cons de_int da_nil))))) (dg_name S__law_columns.nd (i := 6) rfl (.inl rfl) (show (6 : Nat) < 7 from by decide)) (dss_one (ds_set S__law_columns.nd (i := 5) rfl (.inl rfl) (show (5 : Nat) < 7 from by decide) (de_bin op_addD og_add (de_var 5 (pv 5)) (de_ix (de_var 2 (pv 2)) (de_call hT (ok__law_pull FA) (tkE tk) (hr.mono (show (1 : Nat) ≤ 1 from by decide)) FA.g__law_pull FA.f__law_pull.kp (b__law_pull FA) (da_cons (de_var 0 (pv 0)) (da_cons de_int da_nil)))))))) (dss_one (ds_expr (de_append (de_var 3 (pv 3)) (de_var 5 (pv 5)))))))) (dss_one (ds_ret (de_ct call_tuple_of cg_tuple FA.n_tuple (da_cons (de_var 3 (pv 3)) da_nil) (by rfl)))))))
end
end M87

-- V87_6
/-! V87_6: the walks. Printed by gen.py. -/
namespace M87
open PySem PySem.Spec PyProof.Rows L2 DL
section
variable {P : Program} {w : World} {K : PySem.W.Frag} {mg : MG} {base : Heap} {T : List (Addr × Str)}
theorem ok__law_some (FA : Facts P w K mg base T) : FnOk P w K mg base (L2.CX P w) 2 FA.a__law_some FA.d__law_some P__law_some (spD K mg T 3 (F__law_some FA.ad)) :=
  fnD false FA.f__law_some S__law_some (fun cdv hcd A outer s H E R W hT hr tk => (dss_one (ds_ret (de_ct call_tuple_of cg_tuple FA.n_tuple (da_cons (de_lc (own := [((Str.ofString "_law_name"), 3)]) rfl S__law_some.nd (di_seq (de_var 1 (pv 1))) (blkOk_by (by rfl)) (fun R s H C cl fp hT1 => (dg_name S__law_some.nd (i := 3) rfl (.inl rfl) (show (3 : Nat) < 4 from by decide))) (fun R s H C cl fp hT1 => (dts_one (dt_cmp (op_eq2 (huD hr)) og_eq (de_call (hT1.trans hT) (ok__law_pull FA) tk_no (hr.mono (show (1 : Nat) ≤ 1 from by decide)) FA.g__law_pull FA.f__law_pull.kp (b__law_pull FA) (da_cons (de_var 0 (pv 0)) (da_cons (de_var 2 (pv 2)) da_nil))) de_int (by first | exact nomark _ | rfl)))) (fun R s H C cl fp hT1 => (de_var 3 (pv 3)))) da_nil) (by rfl)))))
theorem ok__law_scale (FA : Facts P w K mg base T) : FnOk P w K mg base (L2.CX P w) 2 FA.a__law_scale FA.d__law_scale P__law_scale (spD K mg T 1 (F__law_scale FA.ad)) :=
  fnD false FA.f__law_scale S__law_scale (fun cdv hcd A outer s H E R W hT hr tk => (dss_one (ds_ret (de_ix (de_lst (da_cons (de_tup (da_cons de_str (da_cons de_int da_nil))) (da_cons (de_tup (da_cons de_str (da_cons (de_bin op_addD og_add de_int (de_call hT (ok__law_pull FA) (tkE tk) (hr.mono (show (1 : Nat) ≤ 1 from by decide)) FA.g__law_pull FA.f__law_pull.kp (b__law_pull FA) (da_cons (de_var 0 (pv 0)) (da_cons de_int da_nil)))) da_nil))) (da_cons (de_tup (da_cons de_str (da_cons de_int da_nil))) da_nil)))) (de_call hT (ok__law_pull FA) (tkE tk) (hr.mono (show (1 : Nat) ≤ 1 from by decide)) FA.g__law_pull FA.f__law_pull.kp (b__law_pull FA) (da_cons (de_var 0 (pv 0)) (da_cons de_int da_nil)))))))
theorem ok__law_lowest (FA : Facts P w K mg base T) : FnOk P w K mg base (L2.CX P w) 1 FA.a__law_lowest FA.d__law_lowest P__law_lowest (spD K mg T 2 (F__law_lowest FA.ad)) :=
  fnD false FA.f__law_lowest S__law_lowest (fun cdv hcd A outer s H E R W hT hr tk => (dss_cons (ds_par (ps_par rfl S__law_lowest.nd (i := 2) (j := 3) rfl rfl (by decide) rfl rfl (da_cons (de_var 0 (pv 0)) (da_cons (de_var 1 (pv 1)) da_nil)) (by rfl)) (show (2 : Nat) < 4 from by decide) (show (3 : Nat) < 4 from by decide)) (dss_cons (ds_while fu__law_lowest_0 (passes_of rfl) (dt_cmp op_gtD og_cmp (de_var 3 (pv 3)) de_int (by first | exact nomark _ | rfl)) (dss_one (ds_par (ps_par rfl S__law_lowest.nd (i := 2) (j := 3) rfl rfl (by decide) rfl rfl (da_cons (de_var 3 (pv 3)) (da_cons (de_bin op_mod og_mod (de_ct call_intD cg_int FA.n_int (da_cons (de_var 2 (pv 2)) da_nil) (by rfl)) (de_var 3 (pv 3))) da_nil)) (by rfl)) (show (2 : Nat) < 4 from by decide) (show (3 : Nat) < 4 from by decide)))) (dss_one (ds_ret (de_tup (da_cons (de_bin op_fdivW og_div (de_var 0 (pv 0)) (de_var 2 (pv 2))) (da_cons (de_bin op_fdivW og_div (de_var 1 (pv 1)) (de_var 2 (pv 2))) da_nil))))))))
theorem ok__law_weight (FA : Facts P w K mg base T) : FnOk P w K mg base (L2.CX P w) 2 FA.a__law_weight FA.d__law_weight P__law_weight (spD K mg T 2 (F__law_weight FA.ad)) :=
  fnD false FA.f__law_weight S__law_weight (fun cdv hcd A outer s H E R W hT hr tk => (dss_cons (ds_if (dt_cmp (op_eq2 (huD hr)) og_eq (de_ix (de_var 1 (pv 1)) de_int) de_str (by first | exact nomark _ | rfl)) (dss_one (ds_ret (de_bin op_addD og_add de_int (de_call hT (ok__law_pull FA) (tkE tk) (hr.mono (show (1 : Nat) ≤ 1 from by decide)) FA.g__law_pull FA.f__law_pull.kp (b__law_pull FA) (da_cons (de_var 0 (pv 0)) (da_cons (de_ix (de_lst (da_cons de_int (da_cons de_int (da_cons de_int (da_cons (de_bin op_powB og_pow de_int de_int) da_nil))))) (de_call hT (ok__law_pull FA) (tkE tk) (hr.mono (show (1 : Nat) ≤ 1 from by decide)) FA.g__law_pull FA.f__law_pull.kp (b__law_pull FA) (da_cons (de_var 0 (pv 0)) (da_cons de_int da_nil)))) da_nil)))))) dss_nil) (dss_cons (ds_if (dt_cmp (op_eq2 (huD hr)) og_eq (de_ix (de_var 1 (pv 1)) de_int) de_str (by first | exact nomark _ | rfl)) (dss_cons (ds_setLcL (own := [((Str.ofString "_law_turn"), 4)]) rfl S__law_weight.nd (i := 2) rfl rfl (show (2 : Nat) < 6 from by decide) (sw_true rfl rfl rfl rfl) (di_rg1 FA.n_range (de_ix (de_var 1 (pv 1)) de_int)) (blkOk_by (by rfl)) (fun R s H C cl fp hT1 => (dg_name S__law_weight.nd (i := 4) rfl (.inl rfl) (show (4 : Nat) < 6 from by decide))) (fun R s H C cl fp hT1 => dts_nil) (fun R s H C cl fp hT1 => (de_call (hT1.trans hT) (ok__law_pull FA) tk_no (hr.mono (show (1 : Nat) ≤ 1 from by decide)) FA.g__law_pull FA.f__law_pull.kp (b__law_pull FA) (da_cons (de_var 0 (pv 0)) (da_cons (de_ix (de_lst (da_cons de_int (da_cons de_int (da_cons de_int da_nil)))) (de_call (hT1.trans hT) (ok__law_pull FA) tk_no (hr.mono (show (1 : Nat) ≤ 1 from by decide)) FA.g__law_pull FA.f__law_pull.kp (b__law_pull FA) (da_cons (de_var 0 (pv 0)) (da_cons de_int da_nil)))) da_nil)))) (by intro _; rfl)) (dss_cons (ds_if (dt_cmp (op_eq2 (huD hr)) og_eq (de_lc (own := [((Str.ofString "_law_one"), 5)]) rfl S__law_weight.nd (di_seq (de_var 2 (pv 2))) (blkOk_by (by rfl)) (fun R s H C cl fp hT1 => (dg_name S__law_weight.nd (i := 5) rfl (.inl rfl) (show (5 : Nat) < 6 from by decide))) (fun R s H C cl fp hT1 => (dts_one (dt_cmp op_gtD og_cmp (de_var 5 (pv 5)) de_int (by first | exact nomark _ | rfl)))) (fun R s H C cl fp hT1 => (de_var 5 (pv 5)))) (de_lst da_nil) (by first | exact nomark _ | rfl)) (dss_one (ds_store (hu_of hr) (de_var 2 (pv 2)) (de_call hT (ok__law_pull FA) (tkE tk) (hr.mono (show (1 : Nat) ≤ 1 from by decide)) FA.g__law_pull FA.f__law_pull.kp (b__law_pull FA) (da_cons (de_var 0 (pv 0)) (da_cons (de_cb call_len cg_len FA.n_len (da_cons (de_var 2 (pv 2)) da_nil) (by rfl)) da_nil))) de_int)) dss_nil) (dss_one (ds_ret (de_ct call_tuple_of cg_tuple FA.n_tuple (da_cons (de_var 2 (pv 2)) da_nil) (by rfl)))))) dss_nil) (dss_cons (ds_set S__law_weight.nd (i := 3) rfl (.inl rfl) (show (3 : Nat) < 6 from by decide) (de_bin op_addD og_add de_int (de_call hT (ok__law_pull FA) (tkE tk) (hr.mono (show (1 : Nat) ≤ 1 from by decide)) FA.g__law_pull FA.f__law_pull.kp (b__law_pull FA) (da_cons (de_var 0 (pv 0)) (da_cons (de_ix (de_lst (da_cons de_int (da_cons de_int (da_cons de_int (da_cons de_int da_nil))))) (de_call hT (ok__law_pull FA) (tkE tk) (hr.mono (show (1 : Nat) ≤ 1 from by decide)) FA.g__law_pull FA.f__law_pull.kp (b__law_pull FA) (da_cons (de_var 0 (pv 0)) (da_cons de_int da_nil)))) da_nil))))) (dss_one (ds_ret (de_call hT (ok__law_lowest FA) (tkE tk) (hr.mono (show (1 : Nat) ≤ 1 from by decide)) FA.g__law_lowest FA.f__law_lowest.kp (b__law_lowest FA) (da_cons (de_bin op_addD og_add (de_bin op_addD og_add (de_var 3 (pv 3)) de_int) (de_call hT (ok__law_pull FA) (tkE tk) (hr.mono (show (1 : Nat) ≤ 1 from by decide)) FA.g__law_pull FA.f__law_pull.kp (b__law_pull FA) (da_cons (de_var 0 (pv 0)) (da_cons (de_ix (de_lst (da_cons de_int (da_cons de_int (da_cons de_int (da_cons de_int da_nil))))) (de_call hT (ok__law_pull FA) (tkE tk) (hr.mono (show (1 : Nat) ≤ 1 from by decide)) FA.g__law_pull FA.f__law_pull.kp (b__law_pull FA) (da_cons (de_var 0 (pv 0)) (da_cons de_int da_nil)))) da_nil)))) (da_cons (de_var 3 (pv 3)) da_nil)))))))))
theorem ok__law_made (FA : Facts P w K mg base T) : FnOk P w K mg base (L2.CX P w) 4 FA.a__law_made FA.d__law_made P__law_made (spD K mg T 1 (F__law_made FA.ad)) :=
  fnD false FA.f__law_made S__law_made (fun cdv hcd A outer s H E R W hT hr tk => (dss_cons (ds_if (dt_cmp (op_eq2 (huD hr)) og_eq (de_ix (de_var 0 (pv 0)) de_int) de_str (by first | exact nomark _ | rfl)) (dss_one (ds_ret (de_smeth (pl := plainOf _ _) hT FA.g_Scale FA.rd_Scale FA.sm_Scale_classes (ok_Scale_classes FA) (tkE tk) (hr.mono (show (3 : Nat) ≤ 3 from by decide)) FA.f_Scale_classes.kp (b_Scale_classes FA) (da_cons (de_ix (de_var 0 (pv 0)) de_int) da_nil) (ht := by rfl)))) dss_nil) (dss_one (ds_ret (de_if (dt_cmp (op_eq2 (huD hr)) og_eq (de_ix (de_var 0 (pv 0)) de_int) de_str (by first | exact nomark _ | rfl)) (de_smeth0 (pl := plainOf _ _) hT FA.g_Scale FA.rd_Scale FA.sm_Scale_sums (ok_Scale_sums FA) (tkE tk) (hr.mono (show (3 : Nat) ≤ 3 from by decide)) FA.f_Scale_sums.kp (b_Scale_sums FA) (ht := by rfl)) (de_smeth0 (pl := plainOf _ _) hT FA.g_Scale FA.rd_Scale FA.sm_Scale_odds (ok_Scale_odds FA) (tkE tk) (hr.mono (show (3 : Nat) ≤ 3 from by decide)) FA.f_Scale_odds.kp (b_Scale_odds FA) (ht := by rfl)))))))
theorem ok__law_amount (FA : Facts P w K mg base T) : FnOk P w K mg base (L2.CX P w) 2 FA.a__law_amount FA.d__law_amount P__law_amount (spD K mg T 2 (F__law_amount FA.ad)) :=
  fnD false FA.f__law_amount S__law_amount (fun cdv hcd A outer s H E R W hT hr tk => (dss_cons (ds_if (dt_cmp (op_eq2 (huD hr)) og_eq (de_ix (de_var 1 (pv 1)) de_int) de_str (by first | exact nomark _ | rfl)) (dss_cons (ds_set S__law_amount.nd (i := 2) rfl (.inl rfl) (show (2 : Nat) < 5 from by decide) (de_call hT (ok__law_pull FA) (tkE tk) (hr.mono (show (1 : Nat) ≤ 1 from by decide)) FA.g__law_pull FA.f__law_pull.kp (b__law_pull FA) (da_cons (de_var 0 (pv 0)) (da_cons (de_ix (de_lst (da_cons de_int (da_cons de_int (da_cons (de_bin op_powB og_pow de_int de_int) da_nil)))) (de_call hT (ok__law_pull FA) (tkE tk) (hr.mono (show (1 : Nat) ≤ 1 from by decide)) FA.g__law_pull FA.f__law_pull.kp (b__law_pull FA) (da_cons (de_var 0 (pv 0)) (da_cons de_int da_nil)))) da_nil)))) (dss_one (ds_ret (de_bin op_sub og_sub (de_var 2 (pv 2)) (de_call hT (ok__law_pull FA) (tkE tk) (hr.mono (show (1 : Nat) ≤ 1 from by decide)) FA.g__law_pull FA.f__law_pull.kp (b__law_pull FA) (da_cons (de_var 0 (pv 0)) (da_cons (de_ix (de_lst (da_cons de_int (da_cons de_int (da_cons (de_bin op_powB og_pow de_int de_int) da_nil)))) (de_call hT (ok__law_pull FA) (tkE tk) (hr.mono (show (1 : Nat) ≤ 1 from by decide)) FA.g__law_pull FA.f__law_pull.kp (b__law_pull FA) (da_cons (de_var 0 (pv 0)) (da_cons de_int da_nil)))) da_nil))))))) dss_nil) (dss_cons (ds_if (dt_cmp (op_eq2 (huD hr)) og_eq (de_ix (de_var 1 (pv 1)) de_int) de_str (by first | exact nomark _ | rfl)) (dss_one (ds_ret (de_ct call_tuple_of cg_tuple FA.n_tuple (da_cons (de_lc (own := [((Str.ofString "_law_turn"), 4)]) rfl S__law_amount.nd (di_rg1 FA.n_range (de_ix (de_var 1 (pv 1)) de_int)) (blkOk_by (by rfl)) (fun R s H C cl fp hT1 => (dg_name S__law_amount.nd (i := 4) rfl (.inl rfl) (show (4 : Nat) < 5 from by decide))) (fun R s H C cl fp hT1 => dts_nil) (fun R s H C cl fp hT1 => (de_bin op_sub og_sub (de_call (hT1.trans hT) (ok__law_pull FA) tk_no (hr.mono (show (1 : Nat) ≤ 1 from by decide)) FA.g__law_pull FA.f__law_pull.kp (b__law_pull FA) (da_cons (de_var 0 (pv 0)) (da_cons de_int da_nil))) (de_call (hT1.trans hT) (ok__law_pull FA) tk_no (hr.mono (show (1 : Nat) ≤ 1 from by decide)) FA.g__law_pull FA.f__law_pull.kp (b__law_pull FA) (da_cons (de_var 0 (pv 0)) (da_cons de_int da_nil)))))) da_nil) (by rfl)))) dss_nil) (dss_cons (ds_set S__law_amount.nd (i := 3) rfl (.inl rfl) (show (3 : Nat) < 5 from by decide) (de_ix (de_lst (da_cons de_int (da_cons de_int (da_cons (de_bin op_powB og_pow de_int de_int) da_nil)))) (de_call hT (ok__law_pull FA) (tkE tk) (hr.mono (show (1 : Nat) ≤ 1 from by decide)) FA.g__law_pull FA.f__law_pull.kp (b__law_pull FA) (da_cons (de_var 0 (pv 0)) (da_cons de_int da_nil))))) (dss_one (ds_ret (de_call hT (ok__law_lowest FA) (tkE tk) (hr.mono (show (1 : Nat) ≤ 1 from by decide)) FA.g__law_lowest FA.f__law_lowest.kp (b__law_lowest FA) (da_cons (de_bin op_addD og_add de_int (de_call hT (ok__law_pull FA) (tkE tk) (hr.mono (show (1 : Nat) ≤ 1 from by decide)) FA.g__law_pull FA.f__law_pull.kp (b__law_pull FA) (da_cons (de_var 0 (pv 0)) (da_cons (de_var 3 (pv 3)) da_nil)))) (da_cons (de_bin op_addD og_add de_int (de_call hT (ok__law_pull FA) (tkE tk) (hr.mono (show (1 : Nat) ≤ 1 from by decide)) FA.g__law_pull FA.f__law_pull.kp (b__law_pull FA) (da_cons (de_var 0 (pv 0)) (da_cons (de_var 3 (pv 3)) da_nil)))) da_nil)))))))))
end
end M87

-- V87_7
/-! V87_7: the walks. Printed by gen.py. -/
namespace M87
open PySem PySem.Spec PyProof.Rows L2 DL
section
variable {P : Program} {w : World} {K : PySem.W.Frag} {mg : MG} {base : Heap} {T : List (Addr × Str)}
theorem ok__law_amount_text (FA : Facts P w K mg base T) : FnOk P w K mg base (L2.CX P w) 1 FA.a__law_amount_text FA.d__law_amount_text P__law_amount_text (spD K mg T 2 (F__law_amount_text FA.ad)) :=
  fnD false FA.f__law_amount_text S__law_amount_text (fun cdv hcd A outer s H E R W hT hr tk => (dss_cons (ds_if (dt_cmp (op_eq2 (huD hr)) og_eq (de_ix (de_var 0 (pv 0)) de_int) de_str (by first | exact nomark _ | rfl)) (dss_one (ds_ret (de_ct call_strD cg_str FA.n_str (da_cons (de_var 1 (pv 1)) da_nil) (by rfl)))) dss_nil) (dss_one (ds_ret (de_join (de_dget (hu_of hr) de_disp2 (de_ix (de_var 0 (pv 0)) de_int)) (de_lc (own := [((Str.ofString "_law_one"), 2)]) rfl S__law_amount_text.nd (di_seq (de_var 1 (pv 1))) (blkOk_by (by rfl)) (fun R s H C cl fp hT1 => (dg_name S__law_amount_text.nd (i := 2) rfl (.inl rfl) (show (2 : Nat) < 3 from by decide))) (fun R s H C cl fp hT1 => dts_nil) (fun R s H C cl fp hT1 => (de_ct call_strD cg_str FA.n_str (da_cons (de_var 2 (pv 2)) da_nil) (by rfl)))))))))
theorem ok__law_columns_text (FA : Facts P w K mg base T) : FnOk P w K mg base (L2.CX P w) 1 FA.a__law_columns_text FA.d__law_columns_text P__law_columns_text (spD K mg T 1 (F__law_columns_text FA.ad)) :=
  fnD false FA.f__law_columns_text S__law_columns_text (fun cdv hcd A outer s H E R W hT hr tk => (dss_one (ds_ret (de_if (dt_cmp (op_ne2 (huD hr)) og_ne (de_var 0 (pv 0)) (de_tup da_nil) (by first | exact nomark _ | rfl)) (de_join de_str (de_ct (call_listD2 rfl) cg_list FA.n_list (da_cons (de_var 0 (pv 0)) da_nil) (by rfl))) de_str))))
theorem ok__law_values_text (FA : Facts P w K mg base T) : FnOk P w K mg base (L2.CX P w) 1 FA.a__law_values_text FA.d__law_values_text P__law_values_text (spD K mg T 1 (F__law_values_text FA.ad)) :=
  fnD false FA.f__law_values_text S__law_values_text (fun cdv hcd A outer s H E R W hT hr tk => (dss_one (ds_ret (de_if (dt_cmp (op_ne2 (huD hr)) og_ne (de_var 0 (pv 0)) (de_tup da_nil) (by first | exact nomark _ | rfl)) (de_join de_str (de_lc (own := [((Str.ofString "_law_one"), 1)]) rfl S__law_values_text.nd (di_seq (de_var 0 (pv 0))) (blkOk_by (by rfl)) (fun R s H C cl fp hT1 => (dg_name S__law_values_text.nd (i := 1) rfl (.inl rfl) (show (1 : Nat) < 2 from by decide))) (fun R s H C cl fp hT1 => dts_nil) (fun R s H C cl fp hT1 => (de_ct call_strD cg_str FA.n_str (da_cons (de_var 1 (pv 1)) da_nil) (by rfl))))) de_str))))
theorem ok__law_spoilt (FA : Facts P w K mg base T) : FnOk P w K mg base (L2.CX P w) 3 FA.a__law_spoilt FA.d__law_spoilt P__law_spoilt (spD K mg T 2 (F__law_spoilt FA.ad)) :=
  fnD false FA.f__law_spoilt S__law_spoilt (fun cdv hcd A outer s H E R W hT hr tk => (dss_cons (ds_set S__law_spoilt.nd (i := 2) rfl (.inl rfl) (show (2 : Nat) < 6 from by decide) (de_lst (da_cons de_str (da_cons de_str (da_cons de_str (da_cons de_str (da_cons de_str (da_cons de_str (da_cons de_str (da_cons de_str (da_cons de_str (da_cons de_str (da_cons de_str (da_cons de_str (da_cons de_str (da_cons de_str (da_cons de_str (da_cons de_str (da_cons de_str (da_cons de_str da_nil)))))))))))))))))))) (dss_cons (ds_set S__law_spoilt.nd (i := 2) rfl (.inl rfl) (show (2 : Nat) < 6 from by decide) (de_bin op_addD og_add (de_var 2 (pv 2)) (de_lst (da_cons de_str (da_cons de_str (da_cons de_str (da_cons de_str (da_cons de_str da_nil)))))))) (dss_cons (ds_par (ps_par rfl S__law_spoilt.nd (i := 3) (j := 4) rfl rfl (by decide) rfl rfl (da_cons (de_call hT (ok__law_pull FA) (tkE tk) (hr.mono (show (1 : Nat) ≤ 2 from by decide)) FA.g__law_pull FA.f__law_pull.kp (b__law_pull FA) (da_cons (de_var 0 (pv 0)) (da_cons (de_bin op_addD og_add (de_cb call_len cg_len FA.n_len (da_cons (de_var 1 (pv 1)) da_nil) (by rfl)) de_int) da_nil))) (da_cons (de_call hT (ok__law_pick FA) (tkE tk) (hr.mono (show (2 : Nat) ≤ 2 from by decide)) FA.g__law_pick FA.f__law_pick.kp (b__law_pick FA) (da_cons (de_var 0 (pv 0)) (da_cons (de_var 2 (pv 2)) da_nil))) da_nil)) (by rfl)) (show (3 : Nat) < 6 from by decide) (show (4 : Nat) < 6 from by decide)) (dss_cons (ds_set S__law_spoilt.nd (i := 5) rfl (.inl rfl) (show (5 : Nat) < 6 from by decide) (de_call hT (ok__law_pull FA) (tkE tk) (hr.mono (show (1 : Nat) ≤ 2 from by decide)) FA.g__law_pull FA.f__law_pull.kp (b__law_pull FA) (da_cons (de_var 0 (pv 0)) (da_cons de_int da_nil)))) (dss_one (ds_ret (de_bin op_addD og_add (de_bin op_addD og_add (de_sl (de_var 1 (pv 1)) do_no (do_part (de_var 3 (pv 3)))) (de_ix (de_lst (da_cons de_str (da_cons (de_var 4 (pv 4)) (da_cons (de_var 4 (pv 4)) da_nil)))) (de_var 5 (pv 5)))) (de_sl (de_var 1 (pv 1)) (do_part (de_bin op_addD og_add (de_var 3 (pv 3)) (de_ct call_intD cg_int FA.n_int (da_cons (de_cmp op_ltD og_cmp (de_var 5 (pv 5)) de_int (by first | exact nomark _ | rfl)) da_nil) (by rfl)))) do_no)))))))))
end
end M87

-- V87_8
/-! V87_8: the walks. Printed by gen.py. -/
namespace M87
open PySem PySem.Spec PyProof.Rows L2 DL
section
variable {P : Program} {w : World} {K : PySem.W.Frag} {mg : MG} {base : Heap} {T : List (Addr × Str)}
theorem ok__law_step (FA : Facts P w K mg base T) : FnOk P w K mg base (L2.CX P w) 3 FA.a__law_step FA.d__law_step P__law_step (spD K mg T 1 (F__law_step FA.ad)) :=
  fnD false FA.f__law_step S__law_step (fun cdv hcd A outer s H E R W hT hr tk => (dss_cons (ds_set S__law_step.nd (i := 1) rfl (.inl rfl) (show (1 : Nat) < 3 from by decide) (de_call hT (ok__law_columns FA) (tkE tk) (hr.mono (show (2 : Nat) ≤ 2 from by decide)) FA.g__law_columns FA.f__law_columns.kp (b__law_columns FA) (da_cons (de_var 0 (pv 0)) (da_cons (de_bin op_addD og_add de_int (de_call hT (ok__law_pull FA) (tkE tk) (hr.mono (show (1 : Nat) ≤ 2 from by decide)) FA.g__law_pull FA.f__law_pull.kp (b__law_pull FA) (da_cons (de_var 0 (pv 0)) (da_cons de_int da_nil)))) da_nil)))) (dss_cons (ds_set S__law_step.nd (i := 2) rfl (.inl rfl) (show (2 : Nat) < 3 from by decide) (de_call hT (ok__law_pull FA) (tkE tk) (hr.mono (show (1 : Nat) ≤ 2 from by decide)) FA.g__law_pull FA.f__law_pull.kp (b__law_pull FA) (da_cons (de_var 0 (pv 0)) (da_cons de_int da_nil)))) (dss_cons (ds_if (dt_cmp op_ltD og_cmp (de_var 2 (pv 2)) de_int (by first | exact nomark _ | rfl)) (dss_one (ds_ret (de_tup (da_cons (de_ix (de_lst (da_cons de_str (da_cons de_str da_nil))) (de_var 2 (pv 2))) (da_cons (de_ix (de_var 1 (pv 1)) de_int) da_nil))))) dss_nil) (dss_one (ds_ret (de_tup (da_cons de_str (da_cons (de_call hT (ok__law_some FA) (tkE tk) (hr.mono (show (2 : Nat) ≤ 2 from by decide)) FA.g__law_some FA.f__law_some.kp (b__law_some FA) (da_cons (de_var 0 (pv 0)) (da_cons (de_var 1 (pv 1)) (da_cons de_int da_nil)))) (da_cons (de_call hT (ok__law_some FA) (tkE tk) (hr.mono (show (2 : Nat) ≤ 2 from by decide)) FA.g__law_some FA.f__law_some.kp (b__law_some FA) (da_cons (de_var 0 (pv 0)) (da_cons (de_var 1 (pv 1)) (da_cons de_int da_nil)))) da_nil))))))))))
theorem ok__law_steps_text (FA : Facts P w K mg base T) : FnOk P w K mg base (L2.CX P w) 2 FA.a__law_steps_text FA.d__law_steps_text P__law_steps_text (spD K mg T 1 (F__law_steps_text FA.ad)) :=
  fnD false FA.f__law_steps_text S__law_steps_text (fun cdv hcd A outer s H E R W hT hr tk => (dss_cons (ds_set S__law_steps_text.nd (i := 1) rfl (.inl rfl) (show (1 : Nat) < 3 from by decide) (de_lstL da_nil)) (dss_cons (ds_for (passes_of rfl) rfl (di_seq (de_var 0 (pv 0))) (dg_name S__law_steps_text.nd (i := 2) rfl (.inl rfl) (show (2 : Nat) < 3 from by decide)) (dss_one (ds_if (dt_cmp (op_eq2 (huD hr)) og_eq (de_ix (de_var 2 (pv 2)) de_int) de_str (by first | exact nomark _ | rfl)) (dss_one (ds_expr (de_append (de_var 1 (pv 1)) (de_bin op_addD og_add (de_bin op_addD og_add (de_bin op_addD og_add de_str (de_call hT (ok__law_columns_text FA) (tkE tk) (hr.mono (show (1 : Nat) ≤ 1 from by decide)) FA.g__law_columns_text FA.f__law_columns_text.kp (b__law_columns_text FA) (da_cons (de_ix (de_var 2 (pv 2)) de_int) da_nil))) de_str) (de_call hT (ok__law_columns_text FA) (tkE tk) (hr.mono (show (1 : Nat) ≤ 1 from by decide)) FA.g__law_columns_text FA.f__law_columns_text.kp (b__law_columns_text FA) (da_cons (de_ix (de_var 2 (pv 2)) de_int) da_nil)))))) (dss_one (ds_expr (de_append (de_var 1 (pv 1)) (de_bin op_addD og_add (de_bin op_addD og_add (de_ix (de_var 2 (pv 2)) de_int) de_str) (de_ix (de_var 2 (pv 2)) de_int)))))))) (dss_one (ds_ret (de_if (dt_cmp (op_ne2 (huD hr)) og_ne (de_var 1 (pv 1)) (de_lst da_nil) (by first | exact nomark _ | rfl)) (de_join de_str (de_var 1 (pv 1))) de_str))))))
end
end M87

-- V87_9
/-! V87_9: the walks. Printed by gen.py. -/
namespace M87
open PySem PySem.Spec PyProof.Rows L2 DL
section
variable {P : Program} {w : World} {K : PySem.W.Frag} {mg : MG} {base : Heap} {T : List (Addr × Str)}
theorem ok__law_witness (FA : Facts P w K mg base T) : FnOk P w K mg base (L2.CX P w) 3 FA.a__law_witness FA.d__law_witness P__law_witness (spD K mg T 1 (F__law_witness FA.ad)) :=
  fnD false FA.f__law_witness S__law_witness (fun cdv hcd A outer s H E R W hT hr tk => (dss_cons (ds_par (ps_par rfl S__law_witness.nd (i := 1) (j := 2) rfl rfl (by decide) rfl rfl (da_cons (de_listL rfl FA.n_list (de_call hT (ok__law_columns FA) (tkE tk) (hr.mono (show (2 : Nat) ≤ 2 from by decide)) FA.g__law_columns FA.f__law_columns.kp (b__law_columns FA) (da_cons (de_var 0 (pv 0)) (da_cons (de_call hT (ok__law_pull FA) (tkE tk) (hr.mono (show (1 : Nat) ≤ 2 from by decide)) FA.g__law_pull FA.f__law_pull.kp (b__law_pull FA) (da_cons (de_var 0 (pv 0)) (da_cons de_int da_nil))) da_nil)))) (da_cons de_dctL da_nil)) (by rfl)) (show (1 : Nat) < 4 from by decide) (show (2 : Nat) < 4 from by decide)) (dss_cons (ds_while fu__law_witness_0 (passes_of rfl) (dt_cmp (op_ne2 (huD hr)) og_ne (de_var 1 (pv 1)) (de_lst da_nil) (by first | exact nomark _ | rfl)) (dss_cons (ds_set S__law_witness.nd (i := 3) rfl (.inl rfl) (show (3 : Nat) < 4 from by decide) (de_pop1 (de_var 1 (pv 1)) (de_call hT (ok__law_pull FA) (tkE tk) (hr.mono (show (1 : Nat) ≤ 2 from by decide)) FA.g__law_pull FA.f__law_pull.kp (b__law_pull FA) (da_cons (de_var 0 (pv 0)) (da_cons (de_cb call_len cg_len FA.n_len (da_cons (de_var 1 (pv 1)) da_nil) (by rfl)) da_nil))))) (dss_one (ds_store (hu_of hr) (de_var 2 (pv 2)) (de_var 3 (pv 3)) (de_call hT (ok__law_pick FA) (tkE tk) (hr.mono (show (2 : Nat) ≤ 2 from by decide)) FA.g__law_pick FA.f__law_pick.kp (b__law_pick FA) (da_cons (de_var 0 (pv 0)) (da_cons (de_lst (da_cons de_str (da_cons de_str (da_cons de_str (da_cons de_str (da_cons de_str (da_cons de_str (da_cons de_str (da_cons de_str da_nil))))))))) da_nil))))))) (dss_one (ds_ret (de_tup (da_cons de_str (da_cons (de_call hT (ok__law_pick FA) (tkE tk) (hr.mono (show (2 : Nat) ≤ 2 from by decide)) FA.g__law_pick FA.f__law_pick.kp (b__law_pick FA) (da_cons (de_var 0 (pv 0)) (da_cons (de_lst (da_cons de_str (da_cons de_str (da_cons de_str (da_cons de_str da_nil))))) da_nil))) (da_cons (de_frz (de_var 2 (pv 2))) da_nil)))))))))
theorem ok__law_witness_text (FA : Facts P w K mg base T) : FnOk P w K mg base (L2.CX P w) 1 FA.a__law_witness_text FA.d__law_witness_text P__law_witness_text (spD K mg T 1 (F__law_witness_text FA.ad)) :=
  fnD false FA.f__law_witness_text S__law_witness_text (fun cdv hcd A outer s H E R W hT hr tk => (dss_cons (ds_setLc (own := [((Str.ofString "_law_name"), 2)]) rfl S__law_witness_text.nd (i := 1) rfl rfl (show (1 : Nat) < 3 from by decide) (sw_true rfl rfl rfl rfl) (di_seq (de_cb (call_sortD rfl) cg_sorted FA.n_sorted (da_cons (de_ix (de_var 0 (pv 0)) de_int) da_nil) (by rfl))) (blkOk_by (by rfl)) (fun R s H C cl fp hT1 => (dg_name S__law_witness_text.nd (i := 2) rfl (.inl rfl) (show (2 : Nat) < 3 from by decide))) (fun R s H C cl fp hT1 => dts_nil) (fun R s H C cl fp hT1 => (de_bin op_addD og_add (de_bin op_addD og_add (de_var 2 (pv 2)) de_str) (de_if (dt_cmp (op_ne2 (huD hr)) og_ne (de_dget (hu_of hr) (de_ix (de_var 0 (pv 0)) de_int) (de_var 2 (pv 2))) de_str (by first | exact nomark _ | rfl)) (de_dget (hu_of hr) (de_ix (de_var 0 (pv 0)) de_int) (de_var 2 (pv 2))) de_str))) (by intro _; rfl)) (dss_one (ds_ret (de_bin op_addD og_add (de_bin op_addD og_add (de_bin op_addD og_add de_str (de_ix (de_var 0 (pv 0)) de_int)) de_str) (de_if (dt_cmp (op_ne2 (huD hr)) og_ne (de_var 1 (pv 1)) (de_lst da_nil) (by first | exact nomark _ | rfl)) (de_join de_str (de_var 1 (pv 1))) de_str))))))
end
end M87

-- V87_10
/-! V87_10: the walks. Printed by gen.py. -/
namespace M87
open PySem PySem.Spec PyProof.Rows L2 DL
section
variable {P : Program} {w : World} {K : PySem.W.Frag} {mg : MG} {base : Heap} {T : List (Addr × Str)}
theorem ok__law_steps_right (FA : Facts P w K mg base T) : FnG P w K mg base 11 FA.a__law_steps_right FA.d__law_steps_right P__law_steps_right (spD K mg T 1 (F__law_steps_right FA.ad)) :=
  fnDG false FA.f__law_steps_right S__law_steps_right (fun cdv hcd A outer s H E R W hgu hT hr tk => (dss_cons (ds_set S__law_steps_right.nd (i := 1) rfl (.inl rfl) (show (1 : Nat) < 10 from by decide) (de_ct call_tuple_of cg_tuple FA.n_tuple (da_cons (de_lc (own := [((Str.ofString "_law_turn"), 7)]) rfl S__law_steps_right.nd (di_rg1 FA.n_range (de_call hT (ok__law_pull FA) (tkE tk) (hr.mono (show (1 : Nat) ≤ 10 from by decide)) FA.g__law_pull FA.f__law_pull.kp (b__law_pull FA) (da_cons (de_var 0 (pv 0)) (da_cons de_int da_nil)))) (blkOk_by (by rfl)) (fun R s H C cl fp hT1 => (dg_name S__law_steps_right.nd (i := 7) rfl (.inl rfl) (show (7 : Nat) < 10 from by decide))) (fun R s H C cl fp hT1 => dts_nil) (fun R s H C cl fp hT1 => (de_call (hT1.trans hT) (ok__law_step FA) tk_no (hr.mono (show (3 : Nat) ≤ 10 from by decide)) FA.g__law_step FA.f__law_step.kp (b__law_step FA) (da_cons (de_var 0 (pv 0)) da_nil)))) da_nil) (by rfl))) (dss_cons (ds_par (ps_par rfl S__law_steps_right.nd (i := 2) (j := 3) rfl rfl (by decide) rfl rfl (da_cons (de_call hT (ok__law_steps_text FA) (tkE tk) (hr.mono (show (2 : Nat) ≤ 10 from by decide)) FA.g__law_steps_text FA.f__law_steps_text.kp (b__law_steps_text FA) (da_cons (de_var 1 (pv 1)) da_nil)) (da_cons (de_call hT (ok__law_witness FA) (tkE tk) (hr.mono (show (3 : Nat) ≤ 10 from by decide)) FA.g__law_witness FA.f__law_witness.kp (b__law_witness FA) (da_cons (de_var 0 (pv 0)) da_nil)) da_nil)) (by rfl)) (show (2 : Nat) < 10 from by decide) (show (3 : Nat) < 10 from by decide)) (dss_cons (ds_if (PW.pt (dw_or (dt_cmp (op_ne2 (huD hr)) og_ne (de_call hT (ok_format_steps FA) (tkE tk) (hr.mono (show (5 : Nat) ≤ 10 from by decide)) FA.g_format_steps FA.f_format_steps.kp (b_format_steps FA) (da_cons (de_var 1 (pv 1)) da_nil)) (de_var 2 (pv 2)) (by first | exact nomark _ | rfl)) (dw_or1 (dt_cmp (op_ne2 (huD hr)) og_ne (de_cb (call_reprD hgu (hu200 hr)) cg_repr FA.n_repr (da_cons (de_call hT (ok_parse_steps FA) (tkE tk) (hr.mono (show (6 : Nat) ≤ 10 from by decide)) FA.g_parse_steps FA.f_parse_steps.kp (b_parse_steps FA) (da_cons (de_var 2 (pv 2)) da_nil)) da_nil) (by rfl)) (de_cb (call_reprD hgu (hu200 hr)) cg_repr FA.n_repr (da_cons (de_var 1 (pv 1)) da_nil) (by rfl)) (by first | exact nomark _ | rfl))))) (dss_one (ds_ret de_bl)) dss_nil) (dss_cons (ds_if (PW.pt (dw_or (dt_cmp (op_ne2 (huD hr)) og_ne (de_call hT (ok_format_order FA) (tkE tk) (hr.mono (show (6 : Nat) ≤ 10 from by decide)) FA.g_format_order FA.f_format_order.kp (b_format_order FA) (da_cons (de_tup (da_cons de_str (da_cons (de_var 1 (pv 1)) da_nil))) da_nil)) (de_bin op_addD og_add de_str (de_var 2 (pv 2))) (by first | exact nomark _ | rfl)) (dw_or1 (dt_cmp (op_ne2 (huD hr)) og_ne (de_call hT (ok_parse_order FA) (tkE tk) (hr.mono (show (7 : Nat) ≤ 10 from by decide)) FA.g_parse_order FA.f_parse_order.kp (b_parse_order FA) (da_cons (de_bin op_addD og_add de_str (de_var 2 (pv 2))) da_nil)) (de_tup (da_cons de_str (da_cons (de_var 1 (pv 1)) da_nil))) (by first | exact nomark _ | rfl))))) (dss_one (ds_ret de_bl)) dss_nil) (dss_cons (ds_par (ps_par rfl S__law_steps_right.nd (i := 4) (j := 5) rfl rfl (by decide) rfl rfl (da_cons (de_call hT (ok__law_witness_text FA) (tkE tk) (hr.mono (show (1 : Nat) ≤ 10 from by decide)) FA.g__law_witness_text FA.f__law_witness_text.kp (b__law_witness_text FA) (da_cons (de_var 3 (pv 3)) da_nil)) (da_cons (de_cb (call_reprD hgu (hu200 hr)) cg_repr FA.n_repr (da_cons (de_var 3 (pv 3)) da_nil) (by rfl)) da_nil)) (by rfl)) (show (4 : Nat) < 10 from by decide) (show (5 : Nat) < 10 from by decide)) (dss_cons (ds_set S__law_steps_right.nd (i := 6) rfl (.inl rfl) (show (6 : Nat) < 10 from by decide) (de_call hT (ok_parse_order FA) (tkE tk) (hr.mono (show (7 : Nat) ≤ 10 from by decide)) FA.g_parse_order FA.f_parse_order.kp (b_parse_order FA) (da_cons (de_var 4 (pv 4)) da_nil))) (dss_cons (ds_if (PW.pt (dw_or (dt_cmp (op_ne2 (huD hr)) og_ne (de_call hT (ok_format_order FA) (tkE tk) (hr.mono (show (6 : Nat) ≤ 10 from by decide)) FA.g_format_order FA.f_format_order.kp (b_format_order FA) (da_cons (de_var 3 (pv 3)) da_nil)) (de_var 4 (pv 4)) (by first | exact nomark _ | rfl)) (dw_or (dt_cmp (op_neT (huD hr)) og_neT (de_var 6 (pv 6)) (de_var 3 (pv 3)) (by first | exact nomark _ | rfl)) (dw_or (dt_cmp (op_ne2 (huD hr)) og_ne (de_ct (call_listD2 rfl) cg_list FA.n_list (da_cons (de_ix (de_var 6 (pv 6)) de_int) da_nil) (by rfl)) (de_cb (call_sortD rfl) cg_sorted FA.n_sorted (da_cons (de_ix (de_var 3 (pv 3)) de_int) da_nil) (by rfl)) (by first | exact nomark _ | rfl)) (dw_or1 (dt_cmp (op_ne2 (huD hr)) og_ne (de_cb (call_reprD hgu (hu200 hr)) cg_repr FA.n_repr (da_cons (de_var 3 (pv 3)) da_nil) (by rfl)) (de_var 5 (pv 5)) (by first | exact nomark _ | rfl))))))) (dss_one (ds_ret de_bl)) dss_nil) (dss_cons (ds_for (passes_of rfl) rfl (di_rg1 FA.n_range de_int) (dg_name S__law_steps_right.nd (i := 7) rfl (.inl rfl) (show (7 : Nat) < 10 from by decide)) (dss_cons (ds_set S__law_steps_right.nd (i := 8) rfl (.inr rfl) (show (8 : Nat) < 10 from by decide) (de_call hT (ok__law_spoilt FA) (tkE tk) (hr.mono (show (3 : Nat) ≤ 10 from by decide)) FA.g__law_spoilt FA.f__law_spoilt.kp (b__law_spoilt FA) (da_cons (de_var 0 (pv 0)) (da_cons (de_call hT (ok__law_pick FA) (tkE tk) (hr.mono (show (2 : Nat) ≤ 10 from by decide)) FA.g__law_pick FA.f__law_pick.kp (b__law_pick FA) (da_cons (de_var 0 (pv 0)) (da_cons (de_lst (da_cons (de_bin op_addD og_add de_str (de_var 2 (pv 2))) (da_cons (de_var 4 (pv 4)) da_nil))) da_nil))) da_nil)))) (dss_cons (ds_set S__law_steps_right.nd (i := 9) rfl (.inl rfl) (show (9 : Nat) < 10 from by decide) (de_read (k := 7) hT FA.g__law_read FA.f__law_read rfl (b__law_read FA) S__law_read rfl (.inl rfl) rfl FA.g_ParseError rfl FA.te_ParseError FA.tb__law_steps_right (hcd.symm.trans FA.cd__law_steps_right) (FA.mT__law_steps_right 0 0 .none) (FA.uT__law_steps_right 0 0 .none) (hr.mono (show (9 : Nat) ≤ 10 from by decide)) (LamX.lamS_by (by rfl)) rfl (fun _ _ _ _ _ => rfl) (fun A outer s H E f' c' R hT hr tkl => (de_call hT (ok_parse_order FA) (tkE tkl) (hr.mono (show (7 : Nat) ≤ 7 from by decide)) FA.g_parse_order FA.f_parse_order.kp (b_parse_order FA) (da_cons (de_var 8 (pv 8)) da_nil))))) (dss_cons (ds_if (PW.pt (dw_or (PW.pt (dw_and (dt_cmp (op_eq2 (huD hr)) og_eq (de_var 9 (pv 9)) (de_lst da_nil) (by first | exact nomark _ | rfl)) (dw_and1 (dt_cmp op_inD2 og_in (de_var 8 (pv 8)) (de_tup (da_cons (de_bin op_addD og_add de_str (de_var 2 (pv 2))) (da_cons (de_var 4 (pv 4)) da_nil))) (by first | exact nomark _ | rfl))))) (dw_or1 (PW.pt (dw_and (dt_cmp (op_ne2 (huD hr)) og_ne (de_var 9 (pv 9)) (de_lst da_nil) (by first | exact nomark _ | rfl)) (dw_and1 (dt_cmp (op_ne2 (huD hr)) og_ne (de_call hT (ok_format_order FA) (tkE tk) (hr.mono (show (6 : Nat) ≤ 10 from by decide)) FA.g_format_order FA.f_format_order.kp (b_format_order FA) (da_cons (de_ix (de_var 9 (pv 9)) de_int) da_nil)) (de_var 8 (pv 8)) (by first | exact nomark _ | rfl)))))))) (dss_one (ds_ret de_bl)) dss_nil) (dss_cons (ds_set S__law_steps_right.nd (i := 8) rfl (.inr rfl) (show (8 : Nat) < 10 from by decide) (de_call hT (ok__law_spoilt FA) (tkE tk) (hr.mono (show (3 : Nat) ≤ 10 from by decide)) FA.g__law_spoilt FA.f__law_spoilt.kp (b__law_spoilt FA) (da_cons (de_var 0 (pv 0)) (da_cons (de_var 2 (pv 2)) da_nil)))) (dss_cons (ds_set S__law_steps_right.nd (i := 9) rfl (.inl rfl) (show (9 : Nat) < 10 from by decide) (de_read (k := 6) hT FA.g__law_read FA.f__law_read rfl (b__law_read FA) S__law_read rfl (.inl rfl) rfl FA.g_ParseError rfl FA.te_ParseError FA.tb__law_steps_right (hcd.symm.trans FA.cd__law_steps_right) (FA.mT__law_steps_right 0 0 .none) (FA.uT__law_steps_right 0 0 .none) (hr.mono (show (8 : Nat) ≤ 10 from by decide)) (LamX.lamS_by (by rfl)) rfl (fun _ _ _ _ _ => rfl) (fun A outer s H E f' c' R hT hr tkl => (de_call hT (ok_parse_steps FA) (tkE tkl) (hr.mono (show (6 : Nat) ≤ 6 from by decide)) FA.g_parse_steps FA.f_parse_steps.kp (b_parse_steps FA) (da_cons (de_var 8 (pv 8)) da_nil))))) (dss_one (ds_if (PW.pt (dw_or (PW.pt (dw_and (dt_cmp (op_eq2 (huD hr)) og_eq (de_var 9 (pv 9)) (de_lst da_nil) (by first | exact nomark _ | rfl)) (dw_and1 (dt_cmp (op_eq2 (huD hr)) og_eq (de_var 8 (pv 8)) (de_var 2 (pv 2)) (by first | exact nomark _ | rfl))))) (dw_or1 (PW.pt (dw_and (dt_cmp (op_ne2 (huD hr)) og_ne (de_var 9 (pv 9)) (de_lst da_nil) (by first | exact nomark _ | rfl)) (dw_and1 (dt_cmp (op_ne2 (huD hr)) og_ne (de_call hT (ok_format_steps FA) (tkE tk) (hr.mono (show (5 : Nat) ≤ 10 from by decide)) FA.g_format_steps FA.f_format_steps.kp (b_format_steps FA) (da_cons (de_ix (de_var 9 (pv 9)) de_int) da_nil)) (de_var 8 (pv 8)) (by first | exact nomark _ | rfl)))))))) (dss_one (ds_ret de_bl)) dss_nil)))))))) (dss_one (ds_ret de_bl)))))))))))
theorem ok__law_keeps_right (FA : Facts P w K mg base T) : FnG P w K mg base 9 FA.a__law_keeps_right FA.d__law_keeps_right P__law_keeps_right (spD K mg T 1 (F__law_keeps_right FA.ad)) :=
  fnDG false FA.f__law_keeps_right S__law_keeps_right (fun cdv hcd A outer s H E R W hgu hT hr tk => (dss_cons (ds_setLc (own := [((Str.ofString "_law_at"), 6)]) rfl S__law_keeps_right.nd (i := 1) rfl rfl (show (1 : Nat) < 7 from by decide) (sw_true rfl rfl rfl rfl) (di_rg1 FA.n_range (de_call hT (ok__law_pull FA) (tkE tk) (hr.mono (show (1 : Nat) ≤ 8 from by decide)) FA.g__law_pull FA.f__law_pull.kp (b__law_pull FA) (da_cons (de_var 0 (pv 0)) (da_cons de_int da_nil)))) (blkOk_by (by rfl)) (fun R s H C cl fp hT1 => (dg_name S__law_keeps_right.nd (i := 6) rfl (.inl rfl) (show (6 : Nat) < 7 from by decide))) (fun R s H C cl fp hT1 => (dts_one (dt_cmp (op_eq2 (huD hr)) og_eq (de_call (hT1.trans hT) (ok__law_pull FA) tk_no (hr.mono (show (1 : Nat) ≤ 8 from by decide)) FA.g__law_pull FA.f__law_pull.kp (b__law_pull FA) (da_cons (de_var 0 (pv 0)) (da_cons de_int da_nil))) de_int (by first | exact nomark _ | rfl)))) (fun R s H C cl fp hT1 => (de_var 6 (pv 6))) (by intro _; rfl)) (dss_cons (ds_set S__law_keeps_right.nd (i := 1) rfl (.inl rfl) (show (1 : Nat) < 7 from by decide) (de_ct call_tuple_of cg_tuple FA.n_tuple (da_cons (de_bin op_addD og_add (de_var 1 (pv 1)) (de_sl (de_lst (da_cons de_int (da_cons de_int da_nil))) do_no (do_part (de_call hT (ok__law_pull FA) (tkE tk) (hr.mono (show (1 : Nat) ≤ 8 from by decide)) FA.g__law_pull FA.f__law_pull.kp (b__law_pull FA) (da_cons (de_var 0 (pv 0)) (da_cons de_int da_nil)))))) da_nil) (by rfl))) (dss_cons (ds_set S__law_keeps_right.nd (i := 2) rfl (.inl rfl) (show (2 : Nat) < 7 from by decide) (de_if (dt_cmp (op_ne2 (huD hr)) og_ne (de_var 1 (pv 1)) (de_tup da_nil) (by first | exact nomark _ | rfl)) (de_join de_str (de_lc (own := [((Str.ofString "_law_at"), 6)]) rfl S__law_keeps_right.nd (di_seq (de_var 1 (pv 1))) (blkOk_by (by rfl)) (fun R s H C cl fp hT1 => (dg_name S__law_keeps_right.nd (i := 6) rfl (.inl rfl) (show (6 : Nat) < 7 from by decide))) (fun R s H C cl fp hT1 => dts_nil) (fun R s H C cl fp hT1 => (de_ct call_strD cg_str FA.n_str (da_cons (de_var 6 (pv 6)) da_nil) (by rfl))))) de_str)) (dss_cons (ds_if (PW.pt (dw_or (dt_cmp (op_ne2 (huD hr)) og_ne (de_call hT (ok_format_keep FA) (tkE tk) (hr.mono (show (5 : Nat) ≤ 8 from by decide)) FA.g_format_keep FA.f_format_keep.kp (b_format_keep FA) (da_cons (de_var 1 (pv 1)) da_nil)) (de_var 2 (pv 2)) (by first | exact nomark _ | rfl)) (dw_or1 (dt_cmp (op_ne2 (huD hr)) og_ne (de_cb (call_reprD hgu (hu200 hr)) cg_repr FA.n_repr (da_cons (de_call hT (ok_parse_keep FA) (tkE tk) (hr.mono (show (5 : Nat) ≤ 8 from by decide)) FA.g_parse_keep FA.f_parse_keep.kp (b_parse_keep FA) (da_cons (de_var 2 (pv 2)) da_nil)) da_nil) (by rfl)) (de_cb (call_reprD hgu (hu200 hr)) cg_repr FA.n_repr (da_cons (de_var 1 (pv 1)) da_nil) (by rfl)) (by first | exact nomark _ | rfl))))) (dss_one (ds_ret de_bl)) dss_nil) (dss_cons (ds_for (passes_of rfl) rfl (di_rg1 FA.n_range de_int) (dg_name S__law_keeps_right.nd (i := 3) rfl (.inl rfl) (show (3 : Nat) < 7 from by decide)) (dss_cons (ds_set S__law_keeps_right.nd (i := 4) rfl (.inr rfl) (show (4 : Nat) < 7 from by decide) (de_call hT (ok__law_spoilt FA) (tkE tk) (hr.mono (show (3 : Nat) ≤ 8 from by decide)) FA.g__law_spoilt FA.f__law_spoilt.kp (b__law_spoilt FA) (da_cons (de_var 0 (pv 0)) (da_cons (de_var 2 (pv 2)) da_nil)))) (dss_cons (ds_set S__law_keeps_right.nd (i := 5) rfl (.inl rfl) (show (5 : Nat) < 7 from by decide) (de_read (k := 5) hT FA.g__law_read FA.f__law_read rfl (b__law_read FA) S__law_read rfl (.inl rfl) rfl FA.g_ParseError rfl FA.te_ParseError FA.tb__law_keeps_right (hcd.symm.trans FA.cd__law_keeps_right) (FA.mT__law_keeps_right 0 0 .none) (FA.uT__law_keeps_right 0 0 .none) (hr.mono (show (7 : Nat) ≤ 8 from by decide)) (LamX.lamS_by (by rfl)) rfl (fun _ _ _ _ _ => rfl) (fun A outer s H E f' c' R hT hr tkl => (de_call hT (ok_parse_keep FA) (tkE tkl) (hr.mono (show (5 : Nat) ≤ 5 from by decide)) FA.g_parse_keep FA.f_parse_keep.kp (b_parse_keep FA) (da_cons (de_var 4 (pv 4)) da_nil))))) (dss_one (ds_if (PW.pt (dw_or (PW.pt (dw_and (dt_cmp (op_eq2 (huD hr)) og_eq (de_var 5 (pv 5)) (de_lst da_nil) (by first | exact nomark _ | rfl)) (dw_and1 (dt_cmp (op_eq2 (huD hr)) og_eq (de_var 4 (pv 4)) (de_var 2 (pv 2)) (by first | exact nomark _ | rfl))))) (dw_or1 (PW.pt (dw_and (dt_cmp (op_ne2 (huD hr)) og_ne (de_var 5 (pv 5)) (de_lst da_nil) (by first | exact nomark _ | rfl)) (dw_and1 (dt_cmp (op_ne2 (huD hr)) og_ne (de_call hT (ok_format_keep FA) (tkE tk) (hr.mono (show (5 : Nat) ≤ 8 from by decide)) FA.g_format_keep FA.f_format_keep.kp (b_format_keep FA) (da_cons (de_ix (de_var 5 (pv 5)) de_int) da_nil)) (de_var 4 (pv 4)) (by first | exact nomark _ | rfl)))))))) (dss_one (ds_ret de_bl)) dss_nil))))) (dss_one (ds_ret de_bl))))))))
end
end M87

-- V87_11
/-! V87_11: the walks. Printed by gen.py. -/
namespace M87
open PySem PySem.Spec PyProof.Rows L2 DL
section
variable {P : Program} {w : World} {K : PySem.W.Frag} {mg : MG} {base : Heap} {T : List (Addr × Str)}
theorem ok__law_amounts_right (FA : Facts P w K mg base T) : FnG P w K mg base 10 FA.a__law_amounts_right FA.d__law_amounts_right P__law_amounts_right (spD K mg T 1 (F__law_amounts_right FA.ad)) :=
  fnDG false FA.f__law_amounts_right S__law_amounts_right (fun cdv hcd A outer s H E R W hgu hT hr tk => (dss_cons (ds_set S__law_amounts_right.nd (i := 1) rfl (.inl rfl) (show (1 : Nat) < 8 from by decide) (de_call hT (ok__law_scale FA) (tkE tk) (hr.mono (show (2 : Nat) ≤ 9 from by decide)) FA.g__law_scale FA.f__law_scale.kp (b__law_scale FA) (da_cons (de_var 0 (pv 0)) da_nil))) (dss_cons (ds_asg (de_tup (da_cons (de_call hT (ok__law_made FA) (tkE tk) (hr.mono (show (4 : Nat) ≤ 9 from by decide)) FA.g__law_made FA.f__law_made.kp (b__law_made FA) (da_cons (de_var 1 (pv 1)) da_nil)) (da_cons (de_call hT (ok__law_amount FA) (tkE tk) (hr.mono (show (2 : Nat) ≤ 9 from by decide)) FA.g__law_amount FA.f__law_amount.kp (b__law_amount FA) (da_cons (de_var 0 (pv 0)) (da_cons (de_var 1 (pv 1)) da_nil))) da_nil))) (dg_tp (m := 2) rfl (dgs_cons (dg_name S__law_amounts_right.nd (i := 2) rfl (.inr rfl) (show (2 : Nat) < 8 from by decide)) (dgs_cons (dg_name S__law_amounts_right.nd (i := 3) rfl (.inl rfl) (show (3 : Nat) < 8 from by decide)) dgs_nil)))) (dss_cons (ds_set S__law_amounts_right.nd (i := 4) rfl (.inl rfl) (show (4 : Nat) < 8 from by decide) (de_call hT (ok__law_amount_text FA) (tkE tk) (hr.mono (show (1 : Nat) ≤ 9 from by decide)) FA.g__law_amount_text FA.f__law_amount_text.kp (b__law_amount_text FA) (da_cons (de_var 1 (pv 1)) (da_cons (de_var 3 (pv 3)) da_nil)))) (dss_cons (ds_if (PW.pt (dw_or (dt_cmp (op_ne2 (huD hr)) og_ne (de_call hT (ok_format_amount FA) (tkE tk) (hr.mono (show (5 : Nat) ≤ 9 from by decide)) FA.g_format_amount FA.f_format_amount.kp (b_format_amount FA) (da_cons (de_var 2 (pv 2)) (da_cons (de_var 3 (pv 3)) da_nil))) (de_var 4 (pv 4)) (by first | exact nomark _ | rfl)) (dw_or1 (dt_cmp (op_ne2 (huD hr)) og_ne (de_cb (call_reprD hgu (hu200 hr)) cg_repr FA.n_repr (da_cons (de_call hT (ok_parse_amount FA) (tkE tk) (hr.mono (show (6 : Nat) ≤ 9 from by decide)) FA.g_parse_amount FA.f_parse_amount.kp (b_parse_amount FA) (da_cons (de_var 2 (pv 2)) (da_cons (de_var 4 (pv 4)) da_nil))) da_nil) (by rfl)) (de_cb (call_reprD hgu (hu200 hr)) cg_repr FA.n_repr (da_cons (de_var 3 (pv 3)) da_nil) (by rfl)) (by first | exact nomark _ | rfl))))) (dss_one (ds_ret de_bl)) dss_nil) (dss_cons (ds_for (passes_of rfl) rfl (di_rg1 FA.n_range de_int) (dg_name S__law_amounts_right.nd (i := 5) rfl (.inl rfl) (show (5 : Nat) < 8 from by decide)) (dss_cons (ds_set S__law_amounts_right.nd (i := 6) rfl (.inr rfl) (show (6 : Nat) < 8 from by decide) (de_call hT (ok__law_spoilt FA) (tkE tk) (hr.mono (show (3 : Nat) ≤ 9 from by decide)) FA.g__law_spoilt FA.f__law_spoilt.kp (b__law_spoilt FA) (da_cons (de_var 0 (pv 0)) (da_cons (de_var 4 (pv 4)) da_nil)))) (dss_cons (ds_set S__law_amounts_right.nd (i := 7) rfl (.inl rfl) (show (7 : Nat) < 8 from by decide) (de_read (k := 6) hT FA.g__law_read FA.f__law_read rfl (b__law_read FA) S__law_read rfl (.inl rfl) rfl FA.g_ParseError rfl FA.te_ParseError FA.tb__law_amounts_right (hcd.symm.trans FA.cd__law_amounts_right) (FA.mT__law_amounts_right 0 0 .none) (FA.uT__law_amounts_right 0 0 .none) (hr.mono (show (8 : Nat) ≤ 9 from by decide)) (LamX.lamS_by (by rfl)) rfl (fun _ _ _ _ _ => rfl) (fun A outer s H E f' c' R hT hr tkl => (de_call hT (ok_parse_amount FA) (tkE tkl) (hr.mono (show (6 : Nat) ≤ 6 from by decide)) FA.g_parse_amount FA.f_parse_amount.kp (b_parse_amount FA) (da_cons (de_var 2 (pv 2)) (da_cons (de_var 6 (pv 6)) da_nil)))))) (dss_one (ds_if (PW.pt (dw_or (PW.pt (dw_and (dt_cmp (op_eq2 (huD hr)) og_eq (de_var 7 (pv 7)) (de_lst da_nil) (by first | exact nomark _ | rfl)) (dw_and1 (dt_cmp (op_eq2 (huD hr)) og_eq (de_var 6 (pv 6)) (de_var 4 (pv 4)) (by first | exact nomark _ | rfl))))) (dw_or1 (PW.pt (dw_and (dt_cmp (op_ne2 (huD hr)) og_ne (de_var 7 (pv 7)) (de_lst da_nil) (by first | exact nomark _ | rfl)) (dw_and1 (dt_cmp (op_ne2 (huD hr)) og_ne (de_call hT (ok_format_amount FA) (tkE tk) (hr.mono (show (5 : Nat) ≤ 9 from by decide)) FA.g_format_amount FA.f_format_amount.kp (b_format_amount FA) (da_cons (de_var 2 (pv 2)) (da_cons (de_ix (de_var 7 (pv 7)) de_int) da_nil))) (de_var 6 (pv 6)) (by first | exact nomark _ | rfl)))))))) (dss_one (ds_ret de_bl)) dss_nil))))) (dss_one (ds_ret de_bl))))))))
theorem ok_law (FA : Facts P w K mg base T) : FnG P w K mg base 12 FA.a_law FA.d_law P_law (spD K mg T 1 (F_law FA.ad)) :=
  fnDG false FA.f_law S_law (fun cdv hcd A outer s H E R W hgu hT hr tk => (dss_cons (ds_for (passes_of rfl) rfl (di_rg1 FA.n_range (de_cb (call_max2 rfl) cg_max2 FA.n_max (da_cons de_int (da_cons (de_cb (call_min2 rfl) cg_min2 FA.n_min (da_cons de_int (da_cons (de_cb call_len cg_len FA.n_len (da_cons (de_var 0 (pv 0)) da_nil) (by rfl)) da_nil)) (by rfl)) da_nil)) (by rfl))) (dg_name S_law.nd (i := 1) rfl (.inl rfl) (show (1 : Nat) < 10 from by decide)) (dss_cons (ds_set S_law.nd (i := 2) rfl (.inl rfl) (show (2 : Nat) < 10 from by decide) (de_call hT (ok__law_dice FA) (tkE tk) (hr.mono (show (1 : Nat) ≤ 11 from by decide)) FA.g__law_dice FA.f__law_dice.kp (b__law_dice FA) (da_cons (de_var 0 (pv 0)) (da_cons (de_var 1 (pv 1)) da_nil)))) (dss_one (ds_for (passes_of rfl) rfl (di_rg1 FA.n_range de_int) (dg_name S_law.nd (i := 3) rfl (.inl rfl) (show (3 : Nat) < 10 from by decide)) (dss_one (ds_if (PW.pt (dw_or (dt_not (dt_tru (de_callG hT hgu (ok__law_steps_right FA) (tkE tk) (hr.mono (show (11 : Nat) ≤ 11 from by decide)) FA.g__law_steps_right FA.f__law_steps_right.kp (b__law_steps_right FA) (da_cons (de_var 2 (pv 2)) da_nil)))) (dw_or (dt_not (dt_tru (de_callG hT hgu (ok__law_keeps_right FA) (tkE tk) (hr.mono (show (9 : Nat) ≤ 11 from by decide)) FA.g__law_keeps_right FA.f__law_keeps_right.kp (b__law_keeps_right FA) (da_cons (de_var 2 (pv 2)) da_nil)))) (dw_or1 (dt_not (dt_tru (de_callG hT hgu (ok__law_amounts_right FA) (tkE tk) (hr.mono (show (10 : Nat) ≤ 11 from by decide)) FA.g__law_amounts_right FA.f__law_amounts_right.kp (b__law_amounts_right FA) (da_cons (de_var 2 (pv 2)) da_nil)))))))) (dss_one (ds_ret de_bl)) dss_nil)))))) (dss_cons (ds_set S_law.nd (i := 4) rfl (.inl rfl) (show (4 : Nat) < 10 from by decide) (de_lst (da_cons de_str (da_cons de_str (da_cons de_str (da_cons de_str (da_cons de_str (da_cons de_str (da_cons de_str (da_cons de_str (da_cons de_str da_nil))))))))))) (dss_cons (ds_set S_law.nd (i := 4) rfl (.inl rfl) (show (4 : Nat) < 10 from by decide) (de_bin op_addD og_add (de_var 4 (pv 4)) (de_lst (da_cons de_str (da_cons de_str (da_cons de_str (da_cons de_str da_nil))))))) (dss_cons (ds_if (dt_cmp (op_ne2 (huD hr)) og_ne (de_lc (own := [((Str.ofString "_law_text"), 8)]) rfl S_law.nd (di_seq (de_var 4 (pv 4))) (blkOk_by (by rfl)) (fun R s H C cl fp hT1 => (dg_name S_law.nd (i := 8) rfl (.inr rfl) (show (8 : Nat) < 10 from by decide))) (fun R s H C cl fp hT1 => (dts_one (dt_cmp (op_ne2 (huD hr)) og_ne (de_read (k := 7) (hT1.trans hT) FA.g__law_read FA.f__law_read rfl (b__law_read FA) S__law_read rfl (.inl rfl) rfl FA.g_ParseError rfl FA.te_ParseError FA.tb_law (hcd.symm.trans FA.cd_law) (FA.mT_law 0 0 .none) (FA.uT_law 0 0 .none) (hr.mono (show (9 : Nat) ≤ 11 from by decide)) (LamX.lamS_by (by rfl)) rfl (fun _ _ _ _ _ => rfl) (fun A outer s H E f' c' R hT hr tkl => (de_call hT (ok_parse_order FA) (tkE tkl) (hr.mono (show (7 : Nat) ≤ 7 from by decide)) FA.g_parse_order FA.f_parse_order.kp (b_parse_order FA) (da_cons (de_var 8 (pv 8)) da_nil)))) (de_lst da_nil) (by first | exact nomark _ | rfl)))) (fun R s H C cl fp hT1 => (de_var 8 (pv 8)))) (de_lst da_nil) (by first | exact nomark _ | rfl)) (dss_one (ds_ret de_bl)) dss_nil) (dss_cons (ds_set S_law.nd (i := 4) rfl (.inl rfl) (show (4 : Nat) < 10 from by decide) (de_lst (da_cons de_str (da_cons de_str (da_cons de_str (da_cons de_str (da_cons de_str (da_cons de_str (da_cons de_str (da_cons de_str (da_cons de_str (da_cons de_str (da_cons de_str (da_cons de_str (da_cons de_str (da_cons de_str da_nil)))))))))))))))) (dss_cons (ds_if (dt_cmp (op_ne2 (huD hr)) og_ne (de_lc (own := [((Str.ofString "_law_text"), 8)]) rfl S_law.nd (di_seq (de_var 4 (pv 4))) (blkOk_by (by rfl)) (fun R s H C cl fp hT1 => (dg_name S_law.nd (i := 8) rfl (.inr rfl) (show (8 : Nat) < 10 from by decide))) (fun R s H C cl fp hT1 => (dts_one (dt_cmp (op_ne2 (huD hr)) og_ne (de_read (k := 5) (hT1.trans hT) FA.g__law_read FA.f__law_read rfl (b__law_read FA) S__law_read rfl (.inl rfl) rfl FA.g_ParseError rfl FA.te_ParseError FA.tb_law (hcd.symm.trans FA.cd_law) (FA.mT_law 0 0 .none) (FA.uT_law 0 0 .none) (hr.mono (show (7 : Nat) ≤ 11 from by decide)) (LamX.lamS_by (by rfl)) rfl (fun _ _ _ _ _ => rfl) (fun A outer s H E f' c' R hT hr tkl => (de_call hT (ok_parse_keep FA) (tkE tkl) (hr.mono (show (5 : Nat) ≤ 5 from by decide)) FA.g_parse_keep FA.f_parse_keep.kp (b_parse_keep FA) (da_cons (de_var 8 (pv 8)) da_nil)))) (de_lst da_nil) (by first | exact nomark _ | rfl)))) (fun R s H C cl fp hT1 => (de_var 8 (pv 8)))) (de_lst da_nil) (by first | exact nomark _ | rfl)) (dss_one (ds_ret de_bl)) dss_nil) (dss_cons (ds_asg (de_tup (da_cons (de_smeth0 (pl := plainOf _ _) hT FA.g_Scale FA.rd_Scale FA.sm_Scale_odds (ok_Scale_odds FA) (tkE tk) (hr.mono (show (3 : Nat) ≤ 11 from by decide)) FA.f_Scale_odds.kp (b_Scale_odds FA) (ht := by rfl)) (da_cons (de_smeth (pl := plainOf _ _) hT FA.g_Scale FA.rd_Scale FA.sm_Scale_classes (ok_Scale_classes FA) (tkE tk) (hr.mono (show (3 : Nat) ≤ 11 from by decide)) FA.f_Scale_classes.kp (b_Scale_classes FA) (da_cons de_int da_nil) (ht := by rfl)) da_nil))) (dg_tp (m := 2) rfl (dgs_cons (dg_name S_law.nd (i := 5) rfl (.inr rfl) (show (5 : Nat) < 10 from by decide)) (dgs_cons (dg_name S_law.nd (i := 6) rfl (.inr rfl) (show (6 : Nat) < 10 from by decide)) dgs_nil)))) (dss_cons (ds_set S_law.nd (i := 4) rfl (.inl rfl) (show (4 : Nat) < 10 from by decide) (de_lst (da_cons de_str (da_cons de_str (da_cons de_str (da_cons de_str (da_cons de_str (da_cons de_str (da_cons de_str da_nil))))))))) (dss_cons (ds_setLc (own := [((Str.ofString "_law_text"), 8)]) rfl S_law.nd (i := 7) rfl rfl (show (7 : Nat) < 10 from by decide) (sw_true rfl rfl rfl rfl) (di_seq (de_var 4 (pv 4))) (blkOk_by (by rfl)) (fun R s H C cl fp hT1 => (dg_name S_law.nd (i := 8) rfl (.inr rfl) (show (8 : Nat) < 10 from by decide))) (fun R s H C cl fp hT1 => dts_nil) (fun R s H C cl fp hT1 => (de_read (k := 6) (hT1.trans hT) FA.g__law_read FA.f__law_read rfl (b__law_read FA) S__law_read rfl (.inl rfl) rfl FA.g_ParseError rfl FA.te_ParseError FA.tb_law (hcd.symm.trans FA.cd_law) (FA.mT_law 0 0 .none) (FA.uT_law 0 0 .none) (hr.mono (show (8 : Nat) ≤ 11 from by decide)) (LamX.lamS_by (by rfl)) rfl (fun _ _ _ _ _ => rfl) (fun A outer s H E f' c' R hT hr tkl => (de_call hT (ok_parse_amount FA) (tkE tkl) (hr.mono (show (6 : Nat) ≤ 6 from by decide)) FA.g_parse_amount FA.f_parse_amount.kp (b_parse_amount FA) (da_cons (de_var 5 (pv 5)) (da_cons (de_var 8 (pv 8)) da_nil)))))) (by intro _; rfl)) (dss_cons (ds_set S_law.nd (i := 4) rfl (.inl rfl) (show (4 : Nat) < 10 from by decide) (de_lst (da_cons de_str (da_cons de_str (da_cons de_str (da_cons de_str (da_cons de_str (da_cons de_str da_nil)))))))) (dss_cons (ds_set S_law.nd (i := 7) rfl (.inl rfl) (show (7 : Nat) < 10 from by decide) (de_bin op_addD og_add (de_var 7 (pv 7)) (de_lc (own := [((Str.ofString "_law_text"), 8)]) rfl S_law.nd (di_seq (de_var 4 (pv 4))) (blkOk_by (by rfl)) (fun R s H C cl fp hT1 => (dg_name S_law.nd (i := 8) rfl (.inr rfl) (show (8 : Nat) < 10 from by decide))) (fun R s H C cl fp hT1 => dts_nil) (fun R s H C cl fp hT1 => (de_read (k := 6) (hT1.trans hT) FA.g__law_read FA.f__law_read rfl (b__law_read FA) S__law_read rfl (.inl rfl) rfl FA.g_ParseError rfl FA.te_ParseError FA.tb_law (hcd.symm.trans FA.cd_law) (FA.mT_law 0 0 .none) (FA.uT_law 0 0 .none) (hr.mono (show (8 : Nat) ≤ 11 from by decide)) (LamX.lamS_by (by rfl)) rfl (fun _ _ _ _ _ => rfl) (fun A outer s H E f' c' R hT hr tkl => (de_call hT (ok_parse_amount FA) (tkE tkl) (hr.mono (show (6 : Nat) ≤ 6 from by decide)) FA.g_parse_amount FA.f_parse_amount.kp (b_parse_amount FA) (da_cons (de_var 6 (pv 6)) (da_cons (de_var 8 (pv 8)) da_nil))))))))) (dss_cons (ds_if (dt_cmp (op_ne2 (huD hr)) og_ne (de_lc (own := [((Str.ofString "_law_one"), 9)]) rfl S_law.nd (di_seq (de_var 7 (pv 7))) (blkOk_by (by rfl)) (fun R s H C cl fp hT1 => (dg_name S_law.nd (i := 9) rfl (.inl rfl) (show (9 : Nat) < 10 from by decide))) (fun R s H C cl fp hT1 => (dts_one (dt_cmp (op_ne2 (huD hr)) og_ne (de_var 9 (pv 9)) (de_lst da_nil) (by first | exact nomark _ | rfl)))) (fun R s H C cl fp hT1 => (de_var 9 (pv 9)))) (de_lst da_nil) (by first | exact nomark _ | rfl)) (dss_one (ds_ret de_bl)) dss_nil) (dss_cons (ds_set S_law.nd (i := 7) rfl (.inl rfl) (show (7 : Nat) < 10 from by decide) (de_lst (da_cons (de_call hT (ok_parse_amount FA) (tkE tk) (hr.mono (show (6 : Nat) ≤ 11 from by decide)) FA.g_parse_amount FA.f_parse_amount.kp (b_parse_amount FA) (da_cons (de_var 5 (pv 5)) (da_cons de_str da_nil))) (da_cons (de_call hT (ok_parse_amount FA) (tkE tk) (hr.mono (show (6 : Nat) ≤ 11 from by decide)) FA.g_parse_amount FA.f_parse_amount.kp (b_parse_amount FA) (da_cons (de_var 6 (pv 6)) (da_cons de_str da_nil))) (da_cons (de_call hT (ok_format_keep FA) (tkE tk) (hr.mono (show (5 : Nat) ≤ 11 from by decide)) FA.g_format_keep FA.f_format_keep.kp (b_format_keep FA) (da_cons (de_tup (da_cons de_int (da_cons de_int da_nil))) da_nil)) da_nil))))) (dss_one (ds_ret (de_cmp (op_eq2 (huD hr)) og_eq (de_var 7 (pv 7)) (de_lst (da_cons (de_tup (da_cons de_int (da_cons de_int da_nil))) (da_cons (de_tup (da_cons (de_neg de_int) (da_cons de_int da_nil))) (da_cons de_str da_nil)))) (by first | exact nomark _ | rfl))))))))))))))))))
end
end M87

-- DH
/-! DH: the head's facts by a Hook: names, defs at any address, tables of lambdas' defs, more Bools. -/
namespace DH
open PySem PySem.Spec PyProof.Rows L2
structure Says (fa : List He.Fa) (fn : List He5.DefA) (tf : List He.Defn) (ex : List (PySem.W.Frag → Bool)) (h : Heap) (K : PySem.W.Frag) : Prop where
  a : He5.SaysA fa fn K
  more : ex.all (fun b => b K) = true
  hd : ∀ p ∈ tf, PySem.W.codeHdIn K (He.cT K p).1 (He.cT K p).2 = true
  out : ∀ p ∈ tf, K.lookup (He.cT K p).2 = none
  empty : ∀ p ∈ tf, h.get? (He.cT K p).2 = some { cls := .none, data := .fields #[] }
abbrev Al : Type := He.AlD × Bool
/-- what an object names, as far as the facts look: a dict's values, a def's code, a class's names and classes, a staticmethod's def -/
def grow (o : Obj) : List Addr := match o with
  | ⟨_, _, .dict es _, _⟩ => es.toList.flatMap fun e => He.refV e.val
  | ⟨_, _, .func fd, _⟩ => He.refV fd.code
  | ⟨_, _, .cls cd, _⟩ => cd.ns :: cd.mro.flatMap He.refV
  | ⟨.type t, _, .fields vs, _⟩ => (match decide (t = "code") with
    | true => []
    | false => vs.toList.flatMap He.refV)
  | _ => []
def growL (g : Addr → Option Obj) (as : List Addr) : List Addr := as.flatMap fun a => match g a with
  | some o => grow o
  | none => []
def lev (g : Addr → Option Obj) : Nat → List Addr → List Addr
  | 0, as => as
  | n + 1, as => as ++ lev g n (growL g as).eraseDups
def frag (n : Nat) (g : Addr → Option Obj) : PySem.W.Frag := He.frT g (lev g n [mainGlobals] ++ [PySem.cStatics])
def obs (n : Nat) (fa : List He.Fa) (fn : List He5.DefA) (tf : List He.Defn) (ex : List (PySem.W.Frag → Bool)) (g : Addr → Option Obj) : Al :=
  let K := frag n g
  (He5.obsA fa fn K, ex.all (fun b => b K) && He.tabsB g tf K)
theorem says_of {n : Nat} {fa : List He.Fa} {fn : List He5.DefA} {tf : List He.Defn} {ex : List (PySem.W.Frag → Bool)} {h : Heap} (e : obs n fa fn tf ex h.get? = (He5.valA fn, true)) : Says fa fn tf ex h (frag n h.get?) := by
  have e1 : He5.obsA fa fn (frag n h.get?) = He5.valA fn := congrArg (fun z : Al => z.1) e
  have e2 : (ex.all (fun b => b (frag n h.get?)) && He.tabsB h.get? tf (frag n h.get?)) = true := congrArg (fun z : Al => z.2) e
  obtain ⟨h1, h2⟩ := He.ba e2
  have at_ : ∀ p ∈ tf, PySem.W.codeHdIn (frag n h.get?) (He.cT (frag n h.get?) p).1 (He.cT (frag n h.get?) p).2 = true ∧ ∃ o, h.get? (He.cT (frag n h.get?) p).2 = some o ∧ He.emptyTab o = true := fun p hp => by
    obtain ⟨h3, h4⟩ := He.ba (List.all_eq_true.mp h2 p hp)
    refine ⟨h3, ?_⟩
    split at h4
    · rename_i o q; exact ⟨o, q, h4⟩
    · cases h4
  refine ⟨e1, h1, fun p hp => (at_ p hp).1, fun p hp => ?_, fun p hp => ?_⟩
  · obtain ⟨_, o, q, z⟩ := at_ p hp
    exact He.frT_none q z
  · obtain ⟨_, o, q, z⟩ := at_ p hp
    rw [q, He.emptyTab_eq z]
def hook (n : Nat) (fa : List He.Fa) (fn : List He5.DefA) (tf : List He.Defn) (ex : List (PySem.W.Frag → Bool)) : PySem.W.Hook where
  α := Al
  obs := fun s => obs n fa fn tf ex s.heap.get?
  val := fun _ => (He5.valA fn, true)
  says := fun _ h => ∃ K : PySem.W.Frag, K.In h ∧ Says fa fn tf ex h K
  of := fun _ _ e => ⟨_, He.frT_in, says_of e⟩
  keeps := fun _ _ _ ⟨K, hK, c⟩ k => ⟨K, PySem.W.Frag.In.keeps hK k, ⟨c.a, c.more, c.hd, c.out, fun p hp => k _ _ (c.empty p hp)⟩⟩
theorem obs_eq {n : Nat} {fa : List He.Fa} {fn : List He5.DefA} {tf : List He.Defn} {ex : List (PySem.W.Frag → Bool)} {g : Addr → Option Obj} {s : Shared} (h : ∀ a, g a = s.heap.get? a) : obs n fa fn tf ex g = (hook n fa fn tf ex).obs s := by
  have e : g = s.heap.get? := funext h
  rw [e] <;> rfl
section
variable {fa : List He.Fa} {fn : List He5.DefA} {tf : List He.Defn} {ex : List (PySem.W.Frag → Bool)} {h : Heap} {K : PySem.W.Frag}
theorem Says.tell (c : Says fa fn tf ex h K) (i : Nat) {b : PySem.W.Frag → Bool} (e : ex[i]? = some b := by rfl) : b K = true := List.all_eq_true.mp c.more b (List.mem_of_getElem? e)
theorem Says.fact (c : Says fa fn tf ex h K) (i : Nat) {f : He.Fa} (e : fa[i]? = some f := by rfl) : f.ok K = true := c.a.fact i e
theorem Says.def_ (c : Says fa fn tf ex h K) (i : Nat) {d : He5.DefA} (e : fn[i]? = some d := by rfl) : ∃ fd, FunD K d.name d.qual d.params d.body d.scope (d.dvs K) (d.kws K) (d.at_ K) fd := c.a.def_ i e
end
/-- the code object of a def of the module -/
theorem code_of {K : PySem.W.Frag} {x q : Str} {pa : Arguments} {bd : List Stmt} {sc : Scope} {ds : List L2.V} {kws : List (Str × L2.V)} {nm : Str} {fd : FuncData} (F : FunD K x q pa bd sc ds kws (He.ga K nm) fd) : fd.code = .ref (He.codeOf K (nm, none)) := by
  obtain ⟨oc, od, dV, kV, doc, pm, an, cdv, ct, osl, rfl, lk, hcd, _, _⟩ := F.ex
  obtain ⟨c, rfl⟩ := He.codeIn_ref hcd
  have e : He.codeOf K (nm, none) = c := He.codeOf_eq (p := (nm, none)) lk rfl
  rw [e]
/-! ### the module's constants -/
section
variable {K : PySem.W.Frag} {h : Heap} {mg : DL.MG}
theorem con_int (X : K.In h) (G : h.Ns mainGlobals mg) {x : Str} {i : Int} (c : (He.Fa.int x i).ok K = true) : DL.Gcon K mg x (.int i) := by
  obtain ⟨t, e⟩ := He.int_ok X G c
  exact ⟨.int i, _, e, ⟨t, rfl⟩, fun _ => .int i⟩
theorem con_str (X : K.In h) (G : h.Ns mainGlobals mg) {x z : Str} (c : (He.Fa.str x z).ok K = true) : DL.Gcon K mg x (.str z) := by
  obtain ⟨t, e⟩ := He.str_ok X G c
  exact ⟨.str z, _, e, ⟨t, rfl⟩, fun _ => .str z⟩
theorem rps_strs {F : Hp} : ∀ zs : List Str, DL.Rps K F (zs.map V.str) (zs.map DL.Dat.str)
  | [] => .nil
  | z :: zs => .cons (.str z) (rps_strs zs)
theorem con_tup (X : K.In h) (G : h.Ns mainGlobals mg) {x : Str} {zs : List Str} (c : (He.Fa.glo x).ok K = true) (b : He.tupB K x (zs.map He.Dv.str) = true) : DL.Gcon K mg x (.tup (zs.map DL.Dat.str)) := by
  refine ⟨.ref (He.ga K x), _, He.glo_ok X G c, rfl, fun F => ?_⟩
  have t := He.tupB_ok b F
  have e : (zs.map He.Dv.str).map (He.Dv.v K) = zs.map V.str := by rw [List.map_map]; rfl
  rw [e] at t
  exact .tup t (rps_strs zs)
end
/-! ### classes -/
section
variable {K : PySem.W.Frag}
def clsdB (K : PySem.W.Frag) (C : Addr) : Bool := He.eqO (PySem.W.findIn K (.ref C) "__class__") (some (some (.builtin "object.__class__"))) && (He.eqO (PySem.W.specialIn K (.builtin "object.__class__") "__get__") (some (some (.builtin "getset_descriptor.__get__"))) &&
  (decide (PySem.W.takesIn K (.builtin "object.__class__") = some true) && decide (PySem.W.mroIn K C (.type "object") = some true)))
theorem clsd_of {C : Addr} (cl : Cls K C) (h : clsdB K C = true) : DL.ClsD K C := by
  obtain ⟨h1, h⟩ := He.ba h
  obtain ⟨h2, h⟩ := He.ba h
  obtain ⟨h3, h4⟩ := He.ba h
  exact ⟨cl, He.eqO_ok h1, He.eqO_ok h2, of_decide_eq_true h3, of_decide_eq_true h4⟩
/-- what isinstance says of the plain types, of classes -/
def isiB (K : PySem.W.Frag) (u : Value) (cs : List (Addr × Bool)) : Bool := (["NoneType", "bool", "int", "str", "tuple", "list", "dict"].all fun t => decide (PySem.W.kitOne K (.type t) u = some false)) && cs.all fun c => decide (PySem.W.kitOne K (.ref c.1) u = some c.2)
def creadB (K : PySem.W.Frag) (C : Addr) : Bool := PySem.W.readsIn K C (.type "type") && He.eqO (PySem.W.specialIn K (.ref C) "__getattribute__") (some (some (.builtin "type.__getattribute__")))
theorem cread_of {C : Addr} (h : creadB K C = true) : ClX.CRead K C (.type "type") := ⟨(He.ba h).1, He.eqO_ok (He.ba h).2⟩
theorem smet_of {C : Addr} {m : Str} (h : He5.wrapB K C "staticmethod" "staticmethod.__get__" m = true) : DL.SMet K C (.type "type") m (He.ma K C m) (He5.wf K C "staticmethod" m) := by
  obtain ⟨h1, h2⟩ := He5.wrapB_ok h
  exact ⟨h1, h2⟩
end
end DH
namespace DH
open PySem PySem.Spec PyProof.Rows L2
theorem key_uniq {T : List (Addr × Str)} {p q : Addr × Str} (nd : (T.map (·.1)).Nodup) (hp : p ∈ T) (hq : q ∈ T) (e : p.1 = q.1) : p.2 = q.2 := by
  induction T with
  | nil => cases hp
  | cons t T ih =>
    rw [List.map_cons, List.nodup_cons] at nd
    rcases List.mem_cons.mp hp with rfl | hp2
    · rcases List.mem_cons.mp hq with rfl | hq2
      · rfl
      · exact absurd (by rw [e]; exact List.mem_map_of_mem (f := (·.1)) hq2) nd.1
    · rcases List.mem_cons.mp hq with rfl | hq2
      · exact absurd (by rw [← e]; exact List.mem_map_of_mem (f := (·.1)) hp2) nd.1
      · exact ih nd.2 hp2 hq2
/-- isinstance of an own class -/
theorem isi_of {K : PySem.W.Frag} {u : Value} {cs : List Addr} {f : DL.Dat → Option Bool} (b : isiB K u (cs.map fun C => (C, true)) = true)
    (hf : ∀ d, f d = (match d with | .ob _ => none | .scr _ => none | .ins C _ => if C ∈ cs then some true else none | _ => some false)) (hc : ∀ C ∈ cs, DL.ClsD K C) : DL.IsiOk K u f := by
  obtain ⟨h1, h2⟩ := He.ba b
  have ty : ∀ t ∈ ["NoneType", "bool", "int", "str", "tuple", "list", "dict"], PySem.W.kitOne K (.type t) u = some false := fun t ht => of_decide_eq_true (List.all_eq_true.mp h1 t ht)
  refine ⟨fun d r e => ?_, fun C fs r e => ?_⟩
  · rw [hf] at e
    cases d with
    | non => cases e; exact ⟨_, rfl, ty _ (by simp)⟩
    | bl _ => cases e; exact ⟨_, rfl, ty _ (by simp)⟩
    | int _ => cases e; exact ⟨_, rfl, ty _ (by simp)⟩
    | str _ => cases e; exact ⟨_, rfl, ty _ (by simp)⟩
    | tup _ => cases e; exact ⟨_, rfl, ty _ (by simp)⟩
    | lst _ => cases e; exact ⟨_, rfl, ty _ (by simp)⟩
    | dct _ => cases e; exact ⟨_, rfl, ty _ (by simp)⟩
    | ins C fs =>
      simp only at e
      split at e
      · rename_i h; cases e
        exact ⟨_, rfl, of_decide_eq_true (List.all_eq_true.mp h2 (C, true) (List.mem_map.mpr ⟨C, h, rfl⟩))⟩
      · cases e
    | ob _ => cases e
    | scr _ => cases e
  · rw [hf] at e
    simp only at e
    split at e
    · rename_i h; exact hc C h
    · cases e
end DH

-- H87
/-! H87: the head with facts. Printed by gen.py. -/
namespace M87
open PySem PySem.Spec PyProof.Rows L2 DL
def D_is_integer : He5.DefA := ⟨fun K => He.ga K (Str.ofString "is_integer"), (Str.ofString "is_integer"), (Str.ofString "is_integer"), defArgs s_is_integer, defBody s_is_integer, defScope s_is_integer, [], []⟩
def D_is_index : He5.DefA := ⟨fun K => He.ga K (Str.ofString "is_index"), (Str.ofString "is_index"), (Str.ofString "is_index"), defArgs s_is_index, defBody s_is_index, defScope s_is_index, [], []⟩
def D_is_name : He5.DefA := ⟨fun K => He.ga K (Str.ofString "is_name"), (Str.ofString "is_name"), (Str.ofString "is_name"), defArgs s_is_name, defBody s_is_name, defScope s_is_name, [], []⟩
def D_are_columns : He5.DefA := ⟨fun K => He.ga K (Str.ofString "are_columns"), (Str.ofString "are_columns"), (Str.ofString "are_columns"), defArgs s_are_columns, defBody s_are_columns, defScope s_are_columns, [], []⟩
def D_common_divisor : He5.DefA := ⟨fun K => He.ga K (Str.ofString "common_divisor"), (Str.ofString "common_divisor"), (Str.ofString "common_divisor"), defArgs s_common_divisor, defBody s_common_divisor, defScope s_common_divisor, [], []⟩
def D_is_fraction : He5.DefA := ⟨fun K => He.ga K (Str.ofString "is_fraction"), (Str.ofString "is_fraction"), (Str.ofString "is_fraction"), defArgs s_is_fraction, defBody s_is_fraction, defScope s_is_fraction, [], []⟩
def D_Scale___init__ : He5.DefA := ⟨fun K => He.ma K (He.ga K (Str.ofString "Scale")) (Str.ofString "__init__"), (Str.ofString "__init__"), (Str.ofString "Scale.__init__"), defArgs s_Scale___init__, defBody s_Scale___init__, defScope s_Scale___init__, [], []⟩
def D_Scale_sums : He5.DefA := ⟨fun K => He5.wf K (He.ga K (Str.ofString "Scale")) "staticmethod" (Str.ofString "sums"), (Str.ofString "sums"), (Str.ofString "Scale.sums"), defArgs s_Scale_sums, defBody s_Scale_sums, defScope s_Scale_sums, [], []⟩
def D_Scale_classes : He5.DefA := ⟨fun K => He5.wf K (He.ga K (Str.ofString "Scale")) "staticmethod" (Str.ofString "classes"), (Str.ofString "classes"), (Str.ofString "Scale.classes"), defArgs s_Scale_classes, defBody s_Scale_classes, defScope s_Scale_classes, [], []⟩
def D_Scale_odds : He5.DefA := ⟨fun K => He5.wf K (He.ga K (Str.ofString "Scale")) "staticmethod" (Str.ofString "odds"), (Str.ofString "odds"), (Str.ofString "Scale.odds"), defArgs s_Scale_odds, defBody s_Scale_odds, defScope s_Scale_odds, [], []⟩
def D_SumScale_has_form : He5.DefA := ⟨fun K => He.ma K (He.ga K (Str.ofString "SumScale")) (Str.ofString "has_form"), (Str.ofString "has_form"), (Str.ofString "SumScale.has_form"), defArgs s_SumScale_has_form, defBody s_SumScale_has_form, defScope s_SumScale_has_form, [], []⟩
def D_ClassScale_has_form : He5.DefA := ⟨fun K => He.ma K (He.ga K (Str.ofString "ClassScale")) (Str.ofString "has_form"), (Str.ofString "has_form"), (Str.ofString "ClassScale.has_form"), defArgs s_ClassScale_has_form, defBody s_ClassScale_has_form, defScope s_ClassScale_has_form, [], []⟩
def D_OddsScale_has_form : He5.DefA := ⟨fun K => He.ma K (He.ga K (Str.ofString "OddsScale")) (Str.ofString "has_form"), (Str.ofString "has_form"), (Str.ofString "OddsScale.has_form"), defArgs s_OddsScale_has_form, defBody s_OddsScale_has_form, defScope s_OddsScale_has_form, [], []⟩
def D_Scale_is_amount : He5.DefA := ⟨fun K => He.ma K (He.ga K (Str.ofString "Scale")) (Str.ofString "is_amount"), (Str.ofString "is_amount"), (Str.ofString "Scale.is_amount"), defArgs s_Scale_is_amount, defBody s_Scale_is_amount, defScope s_Scale_is_amount, [], []⟩
def D_Scale___eq__ : He5.DefA := ⟨fun K => He.ma K (He.ga K (Str.ofString "Scale")) (Str.ofString "__eq__"), (Str.ofString "__eq__"), (Str.ofString "Scale.__eq__"), defArgs s_Scale___eq__, defBody s_Scale___eq__, defScope s_Scale___eq__, [], []⟩
def D_require_scale : He5.DefA := ⟨fun K => He.ga K (Str.ofString "require_scale"), (Str.ofString "require_scale"), (Str.ofString "require_scale"), defArgs s_require_scale, defBody s_require_scale, defScope s_require_scale, [], []⟩
def D_are_indices : He5.DefA := ⟨fun K => He.ga K (Str.ofString "are_indices"), (Str.ofString "are_indices"), (Str.ofString "are_indices"), defArgs s_are_indices, defBody s_are_indices, defScope s_are_indices, [], []⟩
def D_is_step_form : He5.DefA := ⟨fun K => He.ga K (Str.ofString "is_step_form"), (Str.ofString "is_step_form"), (Str.ofString "is_step_form"), defArgs s_is_step_form, defBody s_is_step_form, defScope s_is_step_form, [], []⟩
def D_are_step_forms : He5.DefA := ⟨fun K => He.ga K (Str.ofString "are_step_forms"), (Str.ofString "are_step_forms"), (Str.ofString "are_step_forms"), defArgs s_are_step_forms, defBody s_are_step_forms, defScope s_are_step_forms, [], []⟩
def D_are_makings : He5.DefA := ⟨fun K => He.ga K (Str.ofString "are_makings"), (Str.ofString "are_makings"), (Str.ofString "are_makings"), defArgs s_are_makings, defBody s_are_makings, defScope s_are_makings, [], []⟩
def D_is_order_form : He5.DefA := ⟨fun K => He.ga K (Str.ofString "is_order_form"), (Str.ofString "is_order_form"), (Str.ofString "is_order_form"), defArgs s_is_order_form, defBody s_is_order_form, defScope s_is_order_form, [], []⟩
def D_are_keep_indices : He5.DefA := ⟨fun K => He.ga K (Str.ofString "are_keep_indices"), (Str.ofString "are_keep_indices"), (Str.ofString "are_keep_indices"), defArgs s_are_keep_indices, defBody s_are_keep_indices, defScope s_are_keep_indices, [], []⟩
def D_integer_in : He5.DefA := ⟨fun K => He.ga K (Str.ofString "integer_in"), (Str.ofString "integer_in"), (Str.ofString "integer_in"), defArgs s_integer_in, defBody s_integer_in, defScope s_integer_in, [], []⟩
def D_require_text : He5.DefA := ⟨fun K => He.ga K (Str.ofString "require_text"), (Str.ofString "require_text"), (Str.ofString "require_text"), defArgs s_require_text, defBody s_require_text, defScope s_require_text, [], []⟩
def D_require_same : He5.DefA := ⟨fun K => He.ga K (Str.ofString "require_same"), (Str.ofString "require_same"), (Str.ofString "require_same"), defArgs s_require_same, defBody s_require_same, defScope s_require_same, [], []⟩
def D_columns_text : He5.DefA := ⟨fun K => He.ga K (Str.ofString "columns_text"), (Str.ofString "columns_text"), (Str.ofString "columns_text"), defArgs s_columns_text, defBody s_columns_text, defScope s_columns_text, [], []⟩
def D_columns_in : He5.DefA := ⟨fun K => He.ga K (Str.ofString "columns_in"), (Str.ofString "columns_in"), (Str.ofString "columns_in"), defArgs s_columns_in, defBody s_columns_in, defScope s_columns_in, [], []⟩
def D_values_text : He5.DefA := ⟨fun K => He.ga K (Str.ofString "values_text"), (Str.ofString "values_text"), (Str.ofString "values_text"), defArgs s_values_text, defBody s_values_text, defScope s_values_text, [], []⟩
def D_values_in : He5.DefA := ⟨fun K => He.ga K (Str.ofString "values_in"), (Str.ofString "values_in"), (Str.ofString "values_in"), defArgs s_values_in, defBody s_values_in, defScope s_values_in, [], []⟩
def D_keep_text : He5.DefA := ⟨fun K => He.ga K (Str.ofString "keep_text"), (Str.ofString "keep_text"), (Str.ofString "keep_text"), defArgs s_keep_text, defBody s_keep_text, defScope s_keep_text, [], []⟩
def D_keep_in : He5.DefA := ⟨fun K => He.ga K (Str.ofString "keep_in"), (Str.ofString "keep_in"), (Str.ofString "keep_in"), defArgs s_keep_in, defBody s_keep_in, defScope s_keep_in, [], []⟩
def D_amount_text : He5.DefA := ⟨fun K => He.ga K (Str.ofString "amount_text"), (Str.ofString "amount_text"), (Str.ofString "amount_text"), defArgs s_amount_text, defBody s_amount_text, defScope s_amount_text, [], []⟩
def D_amount_in : He5.DefA := ⟨fun K => He.ga K (Str.ofString "amount_in"), (Str.ofString "amount_in"), (Str.ofString "amount_in"), defArgs s_amount_in, defBody s_amount_in, defScope s_amount_in, [], []⟩
def D_step_text : He5.DefA := ⟨fun K => He.ga K (Str.ofString "step_text"), (Str.ofString "step_text"), (Str.ofString "step_text"), defArgs s_step_text, defBody s_step_text, defScope s_step_text, [], []⟩
def D_steps_text : He5.DefA := ⟨fun K => He.ga K (Str.ofString "steps_text"), (Str.ofString "steps_text"), (Str.ofString "steps_text"), defArgs s_steps_text, defBody s_steps_text, defScope s_steps_text, [], []⟩
def D_step_in : He5.DefA := ⟨fun K => He.ga K (Str.ofString "step_in"), (Str.ofString "step_in"), (Str.ofString "step_in"), defArgs s_step_in, defBody s_step_in, defScope s_step_in, [], []⟩
def D_steps_in : He5.DefA := ⟨fun K => He.ga K (Str.ofString "steps_in"), (Str.ofString "steps_in"), (Str.ofString "steps_in"), defArgs s_steps_in, defBody s_steps_in, defScope s_steps_in, [], []⟩
def D_order_text : He5.DefA := ⟨fun K => He.ga K (Str.ofString "order_text"), (Str.ofString "order_text"), (Str.ofString "order_text"), defArgs s_order_text, defBody s_order_text, defScope s_order_text, [], []⟩
def D_making_in : He5.DefA := ⟨fun K => He.ga K (Str.ofString "making_in"), (Str.ofString "making_in"), (Str.ofString "making_in"), defArgs s_making_in, defBody s_making_in, defScope s_making_in, [], []⟩
def D_order_in : He5.DefA := ⟨fun K => He.ga K (Str.ofString "order_in"), (Str.ofString "order_in"), (Str.ofString "order_in"), defArgs s_order_in, defBody s_order_in, defScope s_order_in, [], []⟩
def D_format_steps : He5.DefA := ⟨fun K => He.ga K (Str.ofString "format_steps"), (Str.ofString "format_steps"), (Str.ofString "format_steps"), defArgs s_format_steps, defBody s_format_steps, defScope s_format_steps, [], []⟩
def D_parse_steps : He5.DefA := ⟨fun K => He.ga K (Str.ofString "parse_steps"), (Str.ofString "parse_steps"), (Str.ofString "parse_steps"), defArgs s_parse_steps, defBody s_parse_steps, defScope s_parse_steps, [], []⟩
def D_format_order : He5.DefA := ⟨fun K => He.ga K (Str.ofString "format_order"), (Str.ofString "format_order"), (Str.ofString "format_order"), defArgs s_format_order, defBody s_format_order, defScope s_format_order, [], []⟩
def D_parse_order : He5.DefA := ⟨fun K => He.ga K (Str.ofString "parse_order"), (Str.ofString "parse_order"), (Str.ofString "parse_order"), defArgs s_parse_order, defBody s_parse_order, defScope s_parse_order, [], []⟩
def D_format_keep : He5.DefA := ⟨fun K => He.ga K (Str.ofString "format_keep"), (Str.ofString "format_keep"), (Str.ofString "format_keep"), defArgs s_format_keep, defBody s_format_keep, defScope s_format_keep, [], []⟩
def D_parse_keep : He5.DefA := ⟨fun K => He.ga K (Str.ofString "parse_keep"), (Str.ofString "parse_keep"), (Str.ofString "parse_keep"), defArgs s_parse_keep, defBody s_parse_keep, defScope s_parse_keep, [], []⟩
def D_format_amount : He5.DefA := ⟨fun K => He.ga K (Str.ofString "format_amount"), (Str.ofString "format_amount"), (Str.ofString "format_amount"), defArgs s_format_amount, defBody s_format_amount, defScope s_format_amount, [], []⟩
def D_parse_amount : He5.DefA := ⟨fun K => He.ga K (Str.ofString "parse_amount"), (Str.ofString "parse_amount"), (Str.ofString "parse_amount"), defArgs s_parse_amount, defBody s_parse_amount, defScope s_parse_amount, [], []⟩
def D__law_dice : He5.DefA := ⟨fun K => He.ga K (Str.ofString "_law_dice"), (Str.ofString "_law_dice"), (Str.ofString "_law_dice"), defArgs s__law_dice, defBody s__law_dice, defScope s__law_dice, [], []⟩
def D__law_pull : He5.DefA := ⟨fun K => He.ga K (Str.ofString "_law_pull"), (Str.ofString "_law_pull"), (Str.ofString "_law_pull"), defArgs s__law_pull, defBody s__law_pull, defScope s__law_pull, [], []⟩
def D__law_pick : He5.DefA := ⟨fun K => He.ga K (Str.ofString "_law_pick"), (Str.ofString "_law_pick"), (Str.ofString "_law_pick"), defArgs s__law_pick, defBody s__law_pick, defScope s__law_pick, [], []⟩
def D__law_columns : He5.DefA := ⟨fun K => He.ga K (Str.ofString "_law_columns"), (Str.ofString "_law_columns"), (Str.ofString "_law_columns"), defArgs s__law_columns, defBody s__law_columns, defScope s__law_columns, [], []⟩
def D__law_some : He5.DefA := ⟨fun K => He.ga K (Str.ofString "_law_some"), (Str.ofString "_law_some"), (Str.ofString "_law_some"), defArgs s__law_some, defBody s__law_some, defScope s__law_some, [], []⟩
def D__law_scale : He5.DefA := ⟨fun K => He.ga K (Str.ofString "_law_scale"), (Str.ofString "_law_scale"), (Str.ofString "_law_scale"), defArgs s__law_scale, defBody s__law_scale, defScope s__law_scale, [], []⟩
def D__law_lowest : He5.DefA := ⟨fun K => He.ga K (Str.ofString "_law_lowest"), (Str.ofString "_law_lowest"), (Str.ofString "_law_lowest"), defArgs s__law_lowest, defBody s__law_lowest, defScope s__law_lowest, [], []⟩
def D__law_weight : He5.DefA := ⟨fun K => He.ga K (Str.ofString "_law_weight"), (Str.ofString "_law_weight"), (Str.ofString "_law_weight"), defArgs s__law_weight, defBody s__law_weight, defScope s__law_weight, [], []⟩
def D__law_made : He5.DefA := ⟨fun K => He.ga K (Str.ofString "_law_made"), (Str.ofString "_law_made"), (Str.ofString "_law_made"), defArgs s__law_made, defBody s__law_made, defScope s__law_made, [], []⟩
def D__law_amount : He5.DefA := ⟨fun K => He.ga K (Str.ofString "_law_amount"), (Str.ofString "_law_amount"), (Str.ofString "_law_amount"), defArgs s__law_amount, defBody s__law_amount, defScope s__law_amount, [], []⟩
def D__law_amount_text : He5.DefA := ⟨fun K => He.ga K (Str.ofString "_law_amount_text"), (Str.ofString "_law_amount_text"), (Str.ofString "_law_amount_text"), defArgs s__law_amount_text, defBody s__law_amount_text, defScope s__law_amount_text, [], []⟩
def D__law_columns_text : He5.DefA := ⟨fun K => He.ga K (Str.ofString "_law_columns_text"), (Str.ofString "_law_columns_text"), (Str.ofString "_law_columns_text"), defArgs s__law_columns_text, defBody s__law_columns_text, defScope s__law_columns_text, [], []⟩
def D__law_values_text : He5.DefA := ⟨fun K => He.ga K (Str.ofString "_law_values_text"), (Str.ofString "_law_values_text"), (Str.ofString "_law_values_text"), defArgs s__law_values_text, defBody s__law_values_text, defScope s__law_values_text, [], []⟩
def D__law_spoilt : He5.DefA := ⟨fun K => He.ga K (Str.ofString "_law_spoilt"), (Str.ofString "_law_spoilt"), (Str.ofString "_law_spoilt"), defArgs s__law_spoilt, defBody s__law_spoilt, defScope s__law_spoilt, [], []⟩
def D__law_read : He5.DefA := ⟨fun K => He.ga K (Str.ofString "_law_read"), (Str.ofString "_law_read"), (Str.ofString "_law_read"), defArgs s__law_read, defBody s__law_read, defScope s__law_read, [], []⟩
def D__law_step : He5.DefA := ⟨fun K => He.ga K (Str.ofString "_law_step"), (Str.ofString "_law_step"), (Str.ofString "_law_step"), defArgs s__law_step, defBody s__law_step, defScope s__law_step, [], []⟩
def D__law_steps_text : He5.DefA := ⟨fun K => He.ga K (Str.ofString "_law_steps_text"), (Str.ofString "_law_steps_text"), (Str.ofString "_law_steps_text"), defArgs s__law_steps_text, defBody s__law_steps_text, defScope s__law_steps_text, [], []⟩
def D__law_witness : He5.DefA := ⟨fun K => He.ga K (Str.ofString "_law_witness"), (Str.ofString "_law_witness"), (Str.ofString "_law_witness"), defArgs s__law_witness, defBody s__law_witness, defScope s__law_witness, [], []⟩
def D__law_witness_text : He5.DefA := ⟨fun K => He.ga K (Str.ofString "_law_witness_text"), (Str.ofString "_law_witness_text"), (Str.ofString "_law_witness_text"), defArgs s__law_witness_text, defBody s__law_witness_text, defScope s__law_witness_text, [], []⟩
def D__law_steps_right : He5.DefA := ⟨fun K => He.ga K (Str.ofString "_law_steps_right"), (Str.ofString "_law_steps_right"), (Str.ofString "_law_steps_right"), defArgs s__law_steps_right, defBody s__law_steps_right, defScope s__law_steps_right, [], []⟩
def D__law_keeps_right : He5.DefA := ⟨fun K => He.ga K (Str.ofString "_law_keeps_right"), (Str.ofString "_law_keeps_right"), (Str.ofString "_law_keeps_right"), defArgs s__law_keeps_right, defBody s__law_keeps_right, defScope s__law_keeps_right, [], []⟩
def D__law_amounts_right : He5.DefA := ⟨fun K => He.ga K (Str.ofString "_law_amounts_right"), (Str.ofString "_law_amounts_right"), (Str.ofString "_law_amounts_right"), defArgs s__law_amounts_right, defBody s__law_amounts_right, defScope s__law_amounts_right, [], []⟩
def D_law : He5.DefA := ⟨fun K => He.ga K (Str.ofString "law"), (Str.ofString "law"), (Str.ofString "law"), defArgs s_law, defBody s_law, defScope s_law, [], []⟩
def fa_0 : List He.Fa := [.glo (Str.ofString "is_integer"), .glo (Str.ofString "is_index"), .glo (Str.ofString "is_name"), .glo (Str.ofString "are_columns"), .glo (Str.ofString "common_divisor"), .glo (Str.ofString "is_fraction"), .glo (Str.ofString "require_scale"), .glo (Str.ofString "are_indices"), .glo (Str.ofString "is_step_form"), .glo (Str.ofString "are_step_forms"), .glo (Str.ofString "are_makings"), .glo (Str.ofString "is_order_form"), .glo (Str.ofString "are_keep_indices"), .glo (Str.ofString "integer_in"), .glo (Str.ofString "require_text"), .glo (Str.ofString "require_same"), .glo (Str.ofString "columns_text"), .glo (Str.ofString "columns_in"), .glo (Str.ofString "values_text"), .glo (Str.ofString "values_in"), .glo (Str.ofString "keep_text"), .glo (Str.ofString "keep_in"), .glo (Str.ofString "amount_text"), .glo (Str.ofString "amount_in"), .glo (Str.ofString "step_text"), .glo (Str.ofString "steps_text"), .glo (Str.ofString "step_in"), .glo (Str.ofString "steps_in"), .glo (Str.ofString "order_text"), .glo (Str.ofString "making_in"), .glo (Str.ofString "order_in"), .glo (Str.ofString "format_steps"), .glo (Str.ofString "parse_steps"), .glo (Str.ofString "format_order"), .glo (Str.ofString "parse_order"), .glo (Str.ofString "format_keep"), .glo (Str.ofString "parse_keep"), .glo (Str.ofString "format_amount"), .glo (Str.ofString "parse_amount"), .glo (Str.ofString "_law_dice")]
def fa_1 : List He.Fa := [.glo (Str.ofString "_law_pull"), .glo (Str.ofString "_law_pick"), .glo (Str.ofString "_law_columns"), .glo (Str.ofString "_law_some"), .glo (Str.ofString "_law_scale"), .glo (Str.ofString "_law_lowest"), .glo (Str.ofString "_law_weight"), .glo (Str.ofString "_law_made"), .glo (Str.ofString "_law_amount"), .glo (Str.ofString "_law_amount_text"), .glo (Str.ofString "_law_columns_text"), .glo (Str.ofString "_law_values_text"), .glo (Str.ofString "_law_spoilt"), .glo (Str.ofString "_law_read"), .glo (Str.ofString "_law_step"), .glo (Str.ofString "_law_steps_text"), .glo (Str.ofString "_law_witness"), .glo (Str.ofString "_law_witness_text"), .glo (Str.ofString "_law_steps_right"), .glo (Str.ofString "_law_keeps_right"), .glo (Str.ofString "_law_amounts_right"), .glo (Str.ofString "law"), .glo (Str.ofString "ClassScale"), .glo (Str.ofString "OddsScale"), .glo (Str.ofString "Scale"), .glo (Str.ofString "SumScale"), .str (Str.ofString "SIGNS") (Str.ofString "abcdefghijklmnopqrstuvwxyz"), .int (Str.ofString "MOST_SIGNS") 8, .int (Str.ofString "MOST_COLUMNS") 8, .int (Str.ofString "MAX_SIZE") 4, .str (Str.ofString "SUMS") (Str.ofString "sums"), .str (Str.ofString "CLASSES") (Str.ofString "classes"), .str (Str.ofString "ODDS") (Str.ofString "odds"), .int (Str.ofString "MOST_ROWS") 200, .str (Str.ofString "COMMON") (Str.ofString "common"), .str (Str.ofString "FIXED") (Str.ofString "fixed"), .str (Str.ofString "PAIR") (Str.ofString "pair"), .str (Str.ofString "CHAIN") (Str.ofString "chain"), .str (Str.ofString "WITNESS") (Str.ofString "witness"), .glo (Str.ofString "WORDS")]
def fa_2 : List He.Fa := [.glo (Str.ofString "MAKINGS"), .str (Str.ofString "NOTHING") (Str.ofString "-"), .str (Str.ofString "NONE") (Str.ofString "none"), .str (Str.ofString "NO_STEPS") (Str.ofString "no steps"), .str (Str.ofString "SIDES") (Str.ofString " / "), .str (Str.ofString "STEPS") (Str.ofString " ; "), .str (Str.ofString "FIGURES") (Str.ofString "0123456789"), .int (Str.ofString "MOST_FIGURES") 4000, .free (Str.ofString "isinstance"), .free (Str.ofString "int"), .free (Str.ofString "bool"), .free (Str.ofString "str"), .free (Str.ofString "tuple"), .free (Str.ofString "list"), .free (Str.ofString "dict"), .free (Str.ofString "len"), .free (Str.ofString "all"), .free (Str.ofString "zip"), .free (Str.ofString "range"), .free (Str.ofString "sorted"), .free (Str.ofString "abs"), .free (Str.ofString "max"), .free (Str.ofString "min"), .free (Str.ofString "repr"), .free (Str.ofString "sum"), .cls (Str.ofString "SumScale"), .mkr (Str.ofString "SumScale"), .noat (Str.ofString "SumScale") (Str.ofString "own_word"), .noat (Str.ofString "SumScale") (Str.ofString "own_size"), .noat (Str.ofString "SumScale") (Str.ofString "own_zero"), .noat (Str.ofString "SumScale") (Str.ofString "own_one"), .meth (Str.ofString "SumScale") (Str.ofString "has_form"), .meth (Str.ofString "SumScale") (Str.ofString "is_amount"), .cls (Str.ofString "ClassScale"), .mkr (Str.ofString "ClassScale"), .noat (Str.ofString "ClassScale") (Str.ofString "own_word"), .noat (Str.ofString "ClassScale") (Str.ofString "own_size"), .noat (Str.ofString "ClassScale") (Str.ofString "own_zero"), .noat (Str.ofString "ClassScale") (Str.ofString "own_one"), .meth (Str.ofString "ClassScale") (Str.ofString "has_form")]
def fa_3 : List He.Fa := [.meth (Str.ofString "ClassScale") (Str.ofString "is_amount"), .cls (Str.ofString "OddsScale"), .mkr (Str.ofString "OddsScale"), .noat (Str.ofString "OddsScale") (Str.ofString "own_word"), .noat (Str.ofString "OddsScale") (Str.ofString "own_size"), .noat (Str.ofString "OddsScale") (Str.ofString "own_zero"), .noat (Str.ofString "OddsScale") (Str.ofString "own_one"), .meth (Str.ofString "OddsScale") (Str.ofString "has_form"), .meth (Str.ofString "OddsScale") (Str.ofString "is_amount"), .exc (Str.ofString "InvalidScale"), .glo (Str.ofString "InvalidScale"), .exc (Str.ofString "InvalidStep"), .glo (Str.ofString "InvalidStep"), .exc (Str.ofString "InvalidKeep"), .glo (Str.ofString "InvalidKeep"), .exc (Str.ofString "InvalidOperation"), .glo (Str.ofString "InvalidOperation"), .exc (Str.ofString "ParseError"), .glo (Str.ofString "ParseError"), .exm (Str.ofString "ParseError") (Str.ofString "ParseError") true]
def fa : List He.Fa := fa_0 ++ fa_1 ++ fa_2 ++ fa_3
def fn_0 : List He5.DefA := [D_is_integer, D_is_index, D_is_name, D_are_columns, D_common_divisor, D_is_fraction, D_Scale___init__, D_Scale_sums, D_Scale_classes, D_Scale_odds, D_SumScale_has_form, D_ClassScale_has_form, D_OddsScale_has_form, D_Scale_is_amount, D_Scale___eq__, D_require_scale, D_are_indices, D_is_step_form, D_are_step_forms, D_are_makings, D_is_order_form, D_are_keep_indices, D_integer_in, D_require_text, D_require_same, D_columns_text, D_columns_in, D_values_text, D_values_in, D_keep_text, D_keep_in, D_amount_text, D_amount_in, D_step_text, D_steps_text, D_step_in, D_steps_in, D_order_text, D_making_in, D_order_in]
def fn_1 : List He5.DefA := [D_format_steps, D_parse_steps, D_format_order, D_parse_order, D_format_keep, D_parse_keep, D_format_amount, D_parse_amount, D__law_dice, D__law_pull, D__law_pick, D__law_columns, D__law_some, D__law_scale, D__law_lowest, D__law_weight, D__law_made, D__law_amount, D__law_amount_text, D__law_columns_text, D__law_values_text, D__law_spoilt, D__law_read, D__law_step, D__law_steps_text, D__law_witness, D__law_witness_text, D__law_steps_right, D__law_keeps_right, D__law_amounts_right, D_law]
def fn : List He5.DefA := fn_0 ++ fn_1
def ex_0 : List (PySem.W.Frag → Bool) := [fun K => He.tupB K (Str.ofString "WORDS") ([(Str.ofString "labels"), (Str.ofString "row"), (Str.ofString "turn"), (Str.ofString "triangles")].map He.Dv.str), fun K => He.tupB K (Str.ofString "MAKINGS") ([(Str.ofString ""), (Str.ofString "a"), (Str.ofString "ab"), (Str.ofString "abc"), (Str.ofString "ac"), (Str.ofString "b"), (Str.ofString "bc"), (Str.ofString "c")].map He.Dv.str), fun K => decide (He.ma K (He.ga K (Str.ofString "SumScale")) (Str.ofString "__init__") = He.ma K (He.ga K (Str.ofString "Scale")) (Str.ofString "__init__")), fun K => decide (He.ma K (He.ga K (Str.ofString "SumScale")) (Str.ofString "is_amount") = He.ma K (He.ga K (Str.ofString "Scale")) (Str.ofString "is_amount")), fun K => He.eqO (PySem.W.findIn K (.ref (He.ga K (Str.ofString "SumScale"))) (cmpInfo .Eq).2.1) (some (some (.ref (He.ma K (He.ga K (Str.ofString "Scale")) (Str.ofString "__eq__"))))), fun K => DH.clsdB K (He.ga K (Str.ofString "SumScale")), fun K => PySem.W.notFirst K (He.ga K (Str.ofString "SumScale")) (.ref (He.ga K (Str.ofString "SumScale"))), fun K => PySem.W.notFirst K (He.ga K (Str.ofString "SumScale")) (.ref (He.ga K (Str.ofString "ClassScale"))), fun K => PySem.W.notFirst K (He.ga K (Str.ofString "SumScale")) (.ref (He.ga K (Str.ofString "OddsScale"))), fun K => decide (He.ma K (He.ga K (Str.ofString "ClassScale")) (Str.ofString "__init__") = He.ma K (He.ga K (Str.ofString "Scale")) (Str.ofString "__init__")), fun K => decide (He.ma K (He.ga K (Str.ofString "ClassScale")) (Str.ofString "is_amount") = He.ma K (He.ga K (Str.ofString "Scale")) (Str.ofString "is_amount")), fun K => He.eqO (PySem.W.findIn K (.ref (He.ga K (Str.ofString "ClassScale"))) (cmpInfo .Eq).2.1) (some (some (.ref (He.ma K (He.ga K (Str.ofString "Scale")) (Str.ofString "__eq__"))))), fun K => DH.clsdB K (He.ga K (Str.ofString "ClassScale")), fun K => PySem.W.notFirst K (He.ga K (Str.ofString "ClassScale")) (.ref (He.ga K (Str.ofString "SumScale"))), fun K => PySem.W.notFirst K (He.ga K (Str.ofString "ClassScale")) (.ref (He.ga K (Str.ofString "ClassScale"))), fun K => PySem.W.notFirst K (He.ga K (Str.ofString "ClassScale")) (.ref (He.ga K (Str.ofString "OddsScale"))), fun K => decide (He.ma K (He.ga K (Str.ofString "OddsScale")) (Str.ofString "__init__") = He.ma K (He.ga K (Str.ofString "Scale")) (Str.ofString "__init__")), fun K => decide (He.ma K (He.ga K (Str.ofString "OddsScale")) (Str.ofString "is_amount") = He.ma K (He.ga K (Str.ofString "Scale")) (Str.ofString "is_amount")), fun K => He.eqO (PySem.W.findIn K (.ref (He.ga K (Str.ofString "OddsScale"))) (cmpInfo .Eq).2.1) (some (some (.ref (He.ma K (He.ga K (Str.ofString "Scale")) (Str.ofString "__eq__"))))), fun K => DH.clsdB K (He.ga K (Str.ofString "OddsScale")), fun K => PySem.W.notFirst K (He.ga K (Str.ofString "OddsScale")) (.ref (He.ga K (Str.ofString "SumScale"))), fun K => PySem.W.notFirst K (He.ga K (Str.ofString "OddsScale")) (.ref (He.ga K (Str.ofString "ClassScale"))), fun K => PySem.W.notFirst K (He.ga K (Str.ofString "OddsScale")) (.ref (He.ga K (Str.ofString "OddsScale"))), fun K => decide ([He.ga K (Str.ofString "SumScale"), He.ga K (Str.ofString "ClassScale"), He.ga K (Str.ofString "OddsScale")].Nodup), fun K => PySem.W.isFn K (.ref (He.ma K (He.ga K (Str.ofString "Scale")) (Str.ofString "__eq__"))), fun K => DH.isiB K (.ref (He.ga K (Str.ofString "Scale"))) [(He.ga K (Str.ofString "SumScale"), true), (He.ga K (Str.ofString "ClassScale"), true), (He.ga K (Str.ofString "OddsScale"), true)], fun K => DH.creadB K (He.ga K (Str.ofString "Scale")), fun K => He5.wrapB K (He.ga K (Str.ofString "Scale")) "staticmethod" "staticmethod.__get__" (Str.ofString "sums"), fun K => He5.wrapB K (He.ga K (Str.ofString "Scale")) "staticmethod" "staticmethod.__get__" (Str.ofString "classes"), fun K => He5.wrapB K (He.ga K (Str.ofString "Scale")) "staticmethod" "staticmethod.__get__" (Str.ofString "odds"), fun K => decide ([(He.cT K ((Str.ofString "_law_steps_right"), none)).2, (He.cT K ((Str.ofString "_law_keeps_right"), none)).2, (He.cT K ((Str.ofString "_law_amounts_right"), none)).2, (He.cT K ((Str.ofString "law"), none)).2].Nodup)]
def ex : List (PySem.W.Frag → Bool) := ex_0
def tf : List He.Defn := [((Str.ofString "_law_steps_right"), none), ((Str.ofString "_law_keeps_right"), none), ((Str.ofString "_law_amounts_right"), none), ((Str.ofString "law"), none)]
def TT (K : PySem.W.Frag) : List (Addr × Str) := [((He.cT K ((Str.ofString "_law_steps_right"), none)).2, (envOfC (Str.ofString "_law_steps_right") (defScope s__law_steps_right) 0 0 .none).qual ++ "<lambda>"), ((He.cT K ((Str.ofString "_law_keeps_right"), none)).2, (envOfC (Str.ofString "_law_keeps_right") (defScope s__law_keeps_right) 0 0 .none).qual ++ "<lambda>"), ((He.cT K ((Str.ofString "_law_amounts_right"), none)).2, (envOfC (Str.ofString "_law_amounts_right") (defScope s__law_amounts_right) 0 0 .none).qual ++ "<lambda>"), ((He.cT K ((Str.ofString "law"), none)).2, (envOfC (Str.ofString "law") (defScope s_law) 0 0 .none).qual ++ "<lambda>")]
abbrev RR : PySem.W.OpenRow := PySem.W.OpenLaw.row PySem.Challenge.rw_mostkept_k87_texts_of_steps_and_keeps
abbrev qv : Program := PySem.W.view RR.prog [103]
def names0 : List PySem.Str := [Str.ofString "_wall", Str.ofString "TableError", Str.ofString "InvalidScale", Str.ofString "InvalidStep", Str.ofString "InvalidKeep", Str.ofString "InvalidOperation", Str.ofString "ParseError", Str.ofString "InvalidNumber", Str.ofString "SIGNS", Str.ofString "MOST_SIGNS", Str.ofString "MOST_COLUMNS", Str.ofString "is_integer", Str.ofString "is_index", Str.ofString "is_name", Str.ofString "are_columns", Str.ofString "MAX_SIZE", Str.ofString "SUMS", Str.ofString "CLASSES", Str.ofString "ODDS", Str.ofString "common_divisor", Str.ofString "reduced", Str.ofString "is_fraction", Str.ofString "Scale", Str.ofString "SumScale", Str.ofString "ClassScale", Str.ofString "OddsScale", Str.ofString "require_scale", Str.ofString "are_indices", Str.ofString "MOST_ROWS", Str.ofString "COMMON", Str.ofString "FIXED", Str.ofString "PAIR", Str.ofString "CHAIN", Str.ofString "WITNESS", Str.ofString "WORDS"]
def names1 : List PySem.Str := [Str.ofString "MAKINGS", Str.ofString "is_step_form", Str.ofString "are_step_forms", Str.ofString "are_makings", Str.ofString "is_order_form", Str.ofString "are_keep_indices", Str.ofString "NOTHING", Str.ofString "NONE", Str.ofString "NO_STEPS", Str.ofString "SIDES", Str.ofString "STEPS", Str.ofString "FIGURES", Str.ofString "MOST_FIGURES", Str.ofString "integer_in", Str.ofString "require_text", Str.ofString "require_same", Str.ofString "columns_text", Str.ofString "columns_in", Str.ofString "values_text", Str.ofString "values_in", Str.ofString "keep_text", Str.ofString "keep_in", Str.ofString "amount_text", Str.ofString "amount_in", Str.ofString "step_text", Str.ofString "steps_text", Str.ofString "step_in", Str.ofString "steps_in", Str.ofString "order_text", Str.ofString "making_in", Str.ofString "order_in", Str.ofString "format_steps", Str.ofString "parse_steps", Str.ofString "format_order", Str.ofString "parse_order"]
def names2 : List PySem.Str := [Str.ofString "format_keep", Str.ofString "parse_keep", Str.ofString "format_amount", Str.ofString "parse_amount", Str.ofString "_law_dice", Str.ofString "_law_pull", Str.ofString "_law_pick", Str.ofString "_law_columns", Str.ofString "_law_some", Str.ofString "_law_scale", Str.ofString "_law_lowest", Str.ofString "_law_weight", Str.ofString "_law_made", Str.ofString "_law_amount", Str.ofString "_law_amount_text", Str.ofString "_law_columns_text", Str.ofString "_law_values_text", Str.ofString "_law_spoilt", Str.ofString "_law_read", Str.ofString "_law_step", Str.ofString "_law_steps_text", Str.ofString "_law_witness", Str.ofString "_law_witness_text", Str.ofString "_law_steps_right", Str.ofString "_law_keeps_right", Str.ofString "_law_amounts_right"]
def names : List PySem.Str := names0 ++ names1 ++ names2
abbrev hk : PySem.W.Hook := DH.hook 5 fa fn tf ex
def ob (s : PySem.W.SharedT) : DH.Al := DH.obs 5 fa fn tf ex (HandSHeadRun.getT s)
theorem ob_eq (s : PySem.W.SharedT) : ob s = hk.obs s.abs := DH.obs_eq (HandSHeadRun.getT_eq s)
theorem run (w : World) : HandSHeadRun.RunEq RR qv hk ob 7000 names w := by
  intro os
  kernel_rfl
end M87

-- H87b
/-! H87b: the facts. Printed by gen.py. -/
namespace M87
open PySem PySem.Spec PyProof.Rows L2 DL
def AD (K : PySem.W.Frag) : Ad := ⟨He.ga K (Str.ofString "SumScale"), He.ga K (Str.ofString "ClassScale"), He.ga K (Str.ofString "OddsScale")⟩
theorem isi_Scale_ok {K : PySem.W.Frag} {h : Heap} (c : DH.Says fa fn tf ex h K) : IsiOk K (.ref (He.ga K (Str.ofString "Scale"))) (isi_Scale ⟨He.ga K (Str.ofString "SumScale"), He.ga K (Str.ofString "ClassScale"), He.ga K (Str.ofString "OddsScale")⟩) :=
  DH.isi_of (cs := [He.ga K (Str.ofString "SumScale"), He.ga K (Str.ofString "ClassScale"), He.ga K (Str.ofString "OddsScale")]) (c.tell 25 rfl) (fun d => by cases d <;> rfl) fun C hC => by
    simp only [List.mem_cons, List.not_mem_nil, or_false] at hC
    rcases hC with rfl | rfl | rfl
    exact DH.clsd_of (He.cls_ok (c.fact 105 rfl)) (c.tell 5 rfl)
    exact DH.clsd_of (He.cls_ok (c.fact 113 rfl)) (c.tell 12 rfl)
    exact DH.clsd_of (He.cls_ok (c.fact 121 rfl)) (c.tell 19 rfl)
theorem facts_of {P : Program} {w : World} {K : PySem.W.Frag} {h : Heap} {mg : MG} (X : K.In h) (G : h.Ns mainGlobals mg) (c : DH.Says fa fn tf ex h K) : ∃ fd : FuncData, FunD K "law" "law" (defArgs s_law) (defBody s_law) (defScope s_law) [] [] (He.ga K "law") fd ∧
    ∀ base : Heap, K.In base → (∀ p ∈ tf, LamX.TabB base mg (He.cT K p).1 (He.cT K p).2) → ∃ FA : Facts P w K mg base (TT K), FA.a_law = He.ga K "law" ∧ FA.d_law = fd ∧ FA.ad = AD K := by
  obtain ⟨d_is_integer, f_is_integer⟩ := c.def_ 0 (d := D_is_integer) rfl
  obtain ⟨d_is_index, f_is_index⟩ := c.def_ 1 (d := D_is_index) rfl
  obtain ⟨d_is_name, f_is_name⟩ := c.def_ 2 (d := D_is_name) rfl
  obtain ⟨d_are_columns, f_are_columns⟩ := c.def_ 3 (d := D_are_columns) rfl
  obtain ⟨d_common_divisor, f_common_divisor⟩ := c.def_ 4 (d := D_common_divisor) rfl
  obtain ⟨d_is_fraction, f_is_fraction⟩ := c.def_ 5 (d := D_is_fraction) rfl
  obtain ⟨d_Scale___init__, f_Scale___init__⟩ := c.def_ 6 (d := D_Scale___init__) rfl
  obtain ⟨d_Scale_sums, f_Scale_sums⟩ := c.def_ 7 (d := D_Scale_sums) rfl
  obtain ⟨d_Scale_classes, f_Scale_classes⟩ := c.def_ 8 (d := D_Scale_classes) rfl
  obtain ⟨d_Scale_odds, f_Scale_odds⟩ := c.def_ 9 (d := D_Scale_odds) rfl
  obtain ⟨d_SumScale_has_form, f_SumScale_has_form⟩ := c.def_ 10 (d := D_SumScale_has_form) rfl
  obtain ⟨d_ClassScale_has_form, f_ClassScale_has_form⟩ := c.def_ 11 (d := D_ClassScale_has_form) rfl
  obtain ⟨d_OddsScale_has_form, f_OddsScale_has_form⟩ := c.def_ 12 (d := D_OddsScale_has_form) rfl
  obtain ⟨d_Scale_is_amount, f_Scale_is_amount⟩ := c.def_ 13 (d := D_Scale_is_amount) rfl
  obtain ⟨d_Scale___eq__, f_Scale___eq__⟩ := c.def_ 14 (d := D_Scale___eq__) rfl
  obtain ⟨d_require_scale, f_require_scale⟩ := c.def_ 15 (d := D_require_scale) rfl
  obtain ⟨d_are_indices, f_are_indices⟩ := c.def_ 16 (d := D_are_indices) rfl
  obtain ⟨d_is_step_form, f_is_step_form⟩ := c.def_ 17 (d := D_is_step_form) rfl
  obtain ⟨d_are_step_forms, f_are_step_forms⟩ := c.def_ 18 (d := D_are_step_forms) rfl
  obtain ⟨d_are_makings, f_are_makings⟩ := c.def_ 19 (d := D_are_makings) rfl
  obtain ⟨d_is_order_form, f_is_order_form⟩ := c.def_ 20 (d := D_is_order_form) rfl
  obtain ⟨d_are_keep_indices, f_are_keep_indices⟩ := c.def_ 21 (d := D_are_keep_indices) rfl
  obtain ⟨d_integer_in, f_integer_in⟩ := c.def_ 22 (d := D_integer_in) rfl
  obtain ⟨d_require_text, f_require_text⟩ := c.def_ 23 (d := D_require_text) rfl
  obtain ⟨d_require_same, f_require_same⟩ := c.def_ 24 (d := D_require_same) rfl
  obtain ⟨d_columns_text, f_columns_text⟩ := c.def_ 25 (d := D_columns_text) rfl
  obtain ⟨d_columns_in, f_columns_in⟩ := c.def_ 26 (d := D_columns_in) rfl
  obtain ⟨d_values_text, f_values_text⟩ := c.def_ 27 (d := D_values_text) rfl
  obtain ⟨d_values_in, f_values_in⟩ := c.def_ 28 (d := D_values_in) rfl
  obtain ⟨d_keep_text, f_keep_text⟩ := c.def_ 29 (d := D_keep_text) rfl
  obtain ⟨d_keep_in, f_keep_in⟩ := c.def_ 30 (d := D_keep_in) rfl
  obtain ⟨d_amount_text, f_amount_text⟩ := c.def_ 31 (d := D_amount_text) rfl
  obtain ⟨d_amount_in, f_amount_in⟩ := c.def_ 32 (d := D_amount_in) rfl
  obtain ⟨d_step_text, f_step_text⟩ := c.def_ 33 (d := D_step_text) rfl
  obtain ⟨d_steps_text, f_steps_text⟩ := c.def_ 34 (d := D_steps_text) rfl
  obtain ⟨d_step_in, f_step_in⟩ := c.def_ 35 (d := D_step_in) rfl
  obtain ⟨d_steps_in, f_steps_in⟩ := c.def_ 36 (d := D_steps_in) rfl
  obtain ⟨d_order_text, f_order_text⟩ := c.def_ 37 (d := D_order_text) rfl
  obtain ⟨d_making_in, f_making_in⟩ := c.def_ 38 (d := D_making_in) rfl
  obtain ⟨d_order_in, f_order_in⟩ := c.def_ 39 (d := D_order_in) rfl
  obtain ⟨d_format_steps, f_format_steps⟩ := c.def_ 40 (d := D_format_steps) rfl
  obtain ⟨d_parse_steps, f_parse_steps⟩ := c.def_ 41 (d := D_parse_steps) rfl
  obtain ⟨d_format_order, f_format_order⟩ := c.def_ 42 (d := D_format_order) rfl
  obtain ⟨d_parse_order, f_parse_order⟩ := c.def_ 43 (d := D_parse_order) rfl
  obtain ⟨d_format_keep, f_format_keep⟩ := c.def_ 44 (d := D_format_keep) rfl
  obtain ⟨d_parse_keep, f_parse_keep⟩ := c.def_ 45 (d := D_parse_keep) rfl
  obtain ⟨d_format_amount, f_format_amount⟩ := c.def_ 46 (d := D_format_amount) rfl
  obtain ⟨d_parse_amount, f_parse_amount⟩ := c.def_ 47 (d := D_parse_amount) rfl
  obtain ⟨d__law_dice, f__law_dice⟩ := c.def_ 48 (d := D__law_dice) rfl
  obtain ⟨d__law_pull, f__law_pull⟩ := c.def_ 49 (d := D__law_pull) rfl
  obtain ⟨d__law_pick, f__law_pick⟩ := c.def_ 50 (d := D__law_pick) rfl
  obtain ⟨d__law_columns, f__law_columns⟩ := c.def_ 51 (d := D__law_columns) rfl
  obtain ⟨d__law_some, f__law_some⟩ := c.def_ 52 (d := D__law_some) rfl
  obtain ⟨d__law_scale, f__law_scale⟩ := c.def_ 53 (d := D__law_scale) rfl
  obtain ⟨d__law_lowest, f__law_lowest⟩ := c.def_ 54 (d := D__law_lowest) rfl
  obtain ⟨d__law_weight, f__law_weight⟩ := c.def_ 55 (d := D__law_weight) rfl
  obtain ⟨d__law_made, f__law_made⟩ := c.def_ 56 (d := D__law_made) rfl
  obtain ⟨d__law_amount, f__law_amount⟩ := c.def_ 57 (d := D__law_amount) rfl
  obtain ⟨d__law_amount_text, f__law_amount_text⟩ := c.def_ 58 (d := D__law_amount_text) rfl
  obtain ⟨d__law_columns_text, f__law_columns_text⟩ := c.def_ 59 (d := D__law_columns_text) rfl
  obtain ⟨d__law_values_text, f__law_values_text⟩ := c.def_ 60 (d := D__law_values_text) rfl
  obtain ⟨d__law_spoilt, f__law_spoilt⟩ := c.def_ 61 (d := D__law_spoilt) rfl
  obtain ⟨d__law_read, f__law_read⟩ := c.def_ 62 (d := D__law_read) rfl
  obtain ⟨d__law_step, f__law_step⟩ := c.def_ 63 (d := D__law_step) rfl
  obtain ⟨d__law_steps_text, f__law_steps_text⟩ := c.def_ 64 (d := D__law_steps_text) rfl
  obtain ⟨d__law_witness, f__law_witness⟩ := c.def_ 65 (d := D__law_witness) rfl
  obtain ⟨d__law_witness_text, f__law_witness_text⟩ := c.def_ 66 (d := D__law_witness_text) rfl
  obtain ⟨d__law_steps_right, f__law_steps_right⟩ := c.def_ 67 (d := D__law_steps_right) rfl
  obtain ⟨d__law_keeps_right, f__law_keeps_right⟩ := c.def_ 68 (d := D__law_keeps_right) rfl
  obtain ⟨d__law_amounts_right, f__law_amounts_right⟩ := c.def_ 69 (d := D__law_amounts_right) rfl
  obtain ⟨d_law, f_law⟩ := c.def_ 70 (d := D_law) rfl
  refine ⟨d_law, f_law, fun base Y TB => ⟨{
    ad := ⟨He.ga K (Str.ofString "SumScale"), He.ga K (Str.ofString "ClassScale"), He.ga K (Str.ofString "OddsScale")⟩
    a_is_integer := He.ga K (Str.ofString "is_integer")
    d_is_integer := d_is_integer
    f_is_integer := f_is_integer
    g_is_integer := He.glo_ok X G (c.fact 0 rfl)
    a_is_index := He.ga K (Str.ofString "is_index")
    d_is_index := d_is_index
    f_is_index := f_is_index
    g_is_index := He.glo_ok X G (c.fact 1 rfl)
    a_is_name := He.ga K (Str.ofString "is_name")
    d_is_name := d_is_name
    f_is_name := f_is_name
    g_is_name := He.glo_ok X G (c.fact 2 rfl)
    a_are_columns := He.ga K (Str.ofString "are_columns")
    d_are_columns := d_are_columns
    f_are_columns := f_are_columns
    g_are_columns := He.glo_ok X G (c.fact 3 rfl)
    a_common_divisor := He.ga K (Str.ofString "common_divisor")
    d_common_divisor := d_common_divisor
    f_common_divisor := f_common_divisor
    g_common_divisor := He.glo_ok X G (c.fact 4 rfl)
    a_is_fraction := He.ga K (Str.ofString "is_fraction")
    d_is_fraction := d_is_fraction
    f_is_fraction := f_is_fraction
    g_is_fraction := He.glo_ok X G (c.fact 5 rfl)
    a_Scale___init__ := He.ma K (He.ga K (Str.ofString "Scale")) (Str.ofString "__init__")
    d_Scale___init__ := d_Scale___init__
    f_Scale___init__ := f_Scale___init__
    a_Scale_sums := He5.wf K (He.ga K (Str.ofString "Scale")) "staticmethod" (Str.ofString "sums")
    d_Scale_sums := d_Scale_sums
    f_Scale_sums := f_Scale_sums
    a_Scale_classes := He5.wf K (He.ga K (Str.ofString "Scale")) "staticmethod" (Str.ofString "classes")
    d_Scale_classes := d_Scale_classes
    f_Scale_classes := f_Scale_classes
    a_Scale_odds := He5.wf K (He.ga K (Str.ofString "Scale")) "staticmethod" (Str.ofString "odds")
    d_Scale_odds := d_Scale_odds
    f_Scale_odds := f_Scale_odds
    a_SumScale_has_form := He.ma K (He.ga K (Str.ofString "SumScale")) (Str.ofString "has_form")
    d_SumScale_has_form := d_SumScale_has_form
    f_SumScale_has_form := f_SumScale_has_form
    a_ClassScale_has_form := He.ma K (He.ga K (Str.ofString "ClassScale")) (Str.ofString "has_form")
    d_ClassScale_has_form := d_ClassScale_has_form
    f_ClassScale_has_form := f_ClassScale_has_form
    a_OddsScale_has_form := He.ma K (He.ga K (Str.ofString "OddsScale")) (Str.ofString "has_form")
    d_OddsScale_has_form := d_OddsScale_has_form
    f_OddsScale_has_form := f_OddsScale_has_form
    a_Scale_is_amount := He.ma K (He.ga K (Str.ofString "Scale")) (Str.ofString "is_amount")
    d_Scale_is_amount := d_Scale_is_amount
    f_Scale_is_amount := f_Scale_is_amount
    a_Scale___eq__ := He.ma K (He.ga K (Str.ofString "Scale")) (Str.ofString "__eq__")
    d_Scale___eq__ := d_Scale___eq__
    f_Scale___eq__ := f_Scale___eq__
    a_require_scale := He.ga K (Str.ofString "require_scale")
    d_require_scale := d_require_scale
    f_require_scale := f_require_scale
    g_require_scale := He.glo_ok X G (c.fact 6 rfl)
    a_are_indices := He.ga K (Str.ofString "are_indices")
    d_are_indices := d_are_indices
    f_are_indices := f_are_indices
    g_are_indices := He.glo_ok X G (c.fact 7 rfl)
    a_is_step_form := He.ga K (Str.ofString "is_step_form")
    d_is_step_form := d_is_step_form
    f_is_step_form := f_is_step_form
    g_is_step_form := He.glo_ok X G (c.fact 8 rfl)
    a_are_step_forms := He.ga K (Str.ofString "are_step_forms")
    d_are_step_forms := d_are_step_forms
    f_are_step_forms := f_are_step_forms
    g_are_step_forms := He.glo_ok X G (c.fact 9 rfl)
    a_are_makings := He.ga K (Str.ofString "are_makings")
    d_are_makings := d_are_makings
    f_are_makings := f_are_makings
    g_are_makings := He.glo_ok X G (c.fact 10 rfl)
    a_is_order_form := He.ga K (Str.ofString "is_order_form")
    d_is_order_form := d_is_order_form
    f_is_order_form := f_is_order_form
    g_is_order_form := He.glo_ok X G (c.fact 11 rfl)
    a_are_keep_indices := He.ga K (Str.ofString "are_keep_indices")
    d_are_keep_indices := d_are_keep_indices
    f_are_keep_indices := f_are_keep_indices
    g_are_keep_indices := He.glo_ok X G (c.fact 12 rfl)
    a_integer_in := He.ga K (Str.ofString "integer_in")
    d_integer_in := d_integer_in
    f_integer_in := f_integer_in
    g_integer_in := He.glo_ok X G (c.fact 13 rfl)
    a_require_text := He.ga K (Str.ofString "require_text")
    d_require_text := d_require_text
    f_require_text := f_require_text
    g_require_text := He.glo_ok X G (c.fact 14 rfl)
    a_require_same := He.ga K (Str.ofString "require_same")
    d_require_same := d_require_same
    f_require_same := f_require_same
    g_require_same := He.glo_ok X G (c.fact 15 rfl)
    a_columns_text := He.ga K (Str.ofString "columns_text")
    d_columns_text := d_columns_text
    f_columns_text := f_columns_text
    g_columns_text := He.glo_ok X G (c.fact 16 rfl)
    a_columns_in := He.ga K (Str.ofString "columns_in")
    d_columns_in := d_columns_in
    f_columns_in := f_columns_in
    g_columns_in := He.glo_ok X G (c.fact 17 rfl)
    a_values_text := He.ga K (Str.ofString "values_text")
    d_values_text := d_values_text
    f_values_text := f_values_text
    g_values_text := He.glo_ok X G (c.fact 18 rfl)
    a_values_in := He.ga K (Str.ofString "values_in")
    d_values_in := d_values_in
    f_values_in := f_values_in
    g_values_in := He.glo_ok X G (c.fact 19 rfl)
    a_keep_text := He.ga K (Str.ofString "keep_text")
    d_keep_text := d_keep_text
    f_keep_text := f_keep_text
    g_keep_text := He.glo_ok X G (c.fact 20 rfl)
    a_keep_in := He.ga K (Str.ofString "keep_in")
    d_keep_in := d_keep_in
    f_keep_in := f_keep_in
    g_keep_in := He.glo_ok X G (c.fact 21 rfl)
    a_amount_text := He.ga K (Str.ofString "amount_text")
    d_amount_text := d_amount_text
    f_amount_text := f_amount_text
    g_amount_text := He.glo_ok X G (c.fact 22 rfl)
    a_amount_in := He.ga K (Str.ofString "amount_in")
    d_amount_in := d_amount_in
    f_amount_in := f_amount_in
    g_amount_in := He.glo_ok X G (c.fact 23 rfl)
    a_step_text := He.ga K (Str.ofString "step_text")
    d_step_text := d_step_text
    f_step_text := f_step_text
    g_step_text := He.glo_ok X G (c.fact 24 rfl)
    a_steps_text := He.ga K (Str.ofString "steps_text")
    d_steps_text := d_steps_text
    f_steps_text := f_steps_text
    g_steps_text := He.glo_ok X G (c.fact 25 rfl)
    a_step_in := He.ga K (Str.ofString "step_in")
    d_step_in := d_step_in
    f_step_in := f_step_in
    g_step_in := He.glo_ok X G (c.fact 26 rfl)
    a_steps_in := He.ga K (Str.ofString "steps_in")
    d_steps_in := d_steps_in
    f_steps_in := f_steps_in
    g_steps_in := He.glo_ok X G (c.fact 27 rfl)
    a_order_text := He.ga K (Str.ofString "order_text")
    d_order_text := d_order_text
    f_order_text := f_order_text
    g_order_text := He.glo_ok X G (c.fact 28 rfl)
    a_making_in := He.ga K (Str.ofString "making_in")
    d_making_in := d_making_in
    f_making_in := f_making_in
    g_making_in := He.glo_ok X G (c.fact 29 rfl)
    a_order_in := He.ga K (Str.ofString "order_in")
    d_order_in := d_order_in
    f_order_in := f_order_in
    g_order_in := He.glo_ok X G (c.fact 30 rfl)
    a_format_steps := He.ga K (Str.ofString "format_steps")
    d_format_steps := d_format_steps
    f_format_steps := f_format_steps
    g_format_steps := He.glo_ok X G (c.fact 31 rfl)
    a_parse_steps := He.ga K (Str.ofString "parse_steps")
    d_parse_steps := d_parse_steps
    f_parse_steps := f_parse_steps
    g_parse_steps := He.glo_ok X G (c.fact 32 rfl)
    a_format_order := He.ga K (Str.ofString "format_order")
    d_format_order := d_format_order
    f_format_order := f_format_order
    g_format_order := He.glo_ok X G (c.fact 33 rfl)
    a_parse_order := He.ga K (Str.ofString "parse_order")
    d_parse_order := d_parse_order
    f_parse_order := f_parse_order
    g_parse_order := He.glo_ok X G (c.fact 34 rfl)
    a_format_keep := He.ga K (Str.ofString "format_keep")
    d_format_keep := d_format_keep
    f_format_keep := f_format_keep
    g_format_keep := He.glo_ok X G (c.fact 35 rfl)
    a_parse_keep := He.ga K (Str.ofString "parse_keep")
    d_parse_keep := d_parse_keep
    f_parse_keep := f_parse_keep
    g_parse_keep := He.glo_ok X G (c.fact 36 rfl)
    a_format_amount := He.ga K (Str.ofString "format_amount")
    d_format_amount := d_format_amount
    f_format_amount := f_format_amount
    g_format_amount := He.glo_ok X G (c.fact 37 rfl)
    a_parse_amount := He.ga K (Str.ofString "parse_amount")
    d_parse_amount := d_parse_amount
    f_parse_amount := f_parse_amount
    g_parse_amount := He.glo_ok X G (c.fact 38 rfl)
    a__law_dice := He.ga K (Str.ofString "_law_dice")
    d__law_dice := d__law_dice
    f__law_dice := f__law_dice
    g__law_dice := He.glo_ok X G (c.fact 39 rfl)
    a__law_pull := He.ga K (Str.ofString "_law_pull")
    d__law_pull := d__law_pull
    f__law_pull := f__law_pull
    g__law_pull := He.glo_ok X G (c.fact 40 rfl)
    a__law_pick := He.ga K (Str.ofString "_law_pick")
    d__law_pick := d__law_pick
    f__law_pick := f__law_pick
    g__law_pick := He.glo_ok X G (c.fact 41 rfl)
    a__law_columns := He.ga K (Str.ofString "_law_columns")
    d__law_columns := d__law_columns
    f__law_columns := f__law_columns
    g__law_columns := He.glo_ok X G (c.fact 42 rfl)
    a__law_some := He.ga K (Str.ofString "_law_some")
    d__law_some := d__law_some
    f__law_some := f__law_some
    g__law_some := He.glo_ok X G (c.fact 43 rfl)
    a__law_scale := He.ga K (Str.ofString "_law_scale")
    d__law_scale := d__law_scale
    f__law_scale := f__law_scale
    g__law_scale := He.glo_ok X G (c.fact 44 rfl)
    a__law_lowest := He.ga K (Str.ofString "_law_lowest")
    d__law_lowest := d__law_lowest
    f__law_lowest := f__law_lowest
    g__law_lowest := He.glo_ok X G (c.fact 45 rfl)
    a__law_weight := He.ga K (Str.ofString "_law_weight")
    d__law_weight := d__law_weight
    f__law_weight := f__law_weight
    g__law_weight := He.glo_ok X G (c.fact 46 rfl)
    a__law_made := He.ga K (Str.ofString "_law_made")
    d__law_made := d__law_made
    f__law_made := f__law_made
    g__law_made := He.glo_ok X G (c.fact 47 rfl)
    a__law_amount := He.ga K (Str.ofString "_law_amount")
    d__law_amount := d__law_amount
    f__law_amount := f__law_amount
    g__law_amount := He.glo_ok X G (c.fact 48 rfl)
    a__law_amount_text := He.ga K (Str.ofString "_law_amount_text")
    d__law_amount_text := d__law_amount_text
    f__law_amount_text := f__law_amount_text
    g__law_amount_text := He.glo_ok X G (c.fact 49 rfl)
    a__law_columns_text := He.ga K (Str.ofString "_law_columns_text")
    d__law_columns_text := d__law_columns_text
    f__law_columns_text := f__law_columns_text
    g__law_columns_text := He.glo_ok X G (c.fact 50 rfl)
    a__law_values_text := He.ga K (Str.ofString "_law_values_text")
    d__law_values_text := d__law_values_text
    f__law_values_text := f__law_values_text
    g__law_values_text := He.glo_ok X G (c.fact 51 rfl)
    a__law_spoilt := He.ga K (Str.ofString "_law_spoilt")
    d__law_spoilt := d__law_spoilt
    f__law_spoilt := f__law_spoilt
    g__law_spoilt := He.glo_ok X G (c.fact 52 rfl)
    a__law_read := He.ga K (Str.ofString "_law_read")
    d__law_read := d__law_read
    f__law_read := f__law_read
    g__law_read := He.glo_ok X G (c.fact 53 rfl)
    a__law_step := He.ga K (Str.ofString "_law_step")
    d__law_step := d__law_step
    f__law_step := f__law_step
    g__law_step := He.glo_ok X G (c.fact 54 rfl)
    a__law_steps_text := He.ga K (Str.ofString "_law_steps_text")
    d__law_steps_text := d__law_steps_text
    f__law_steps_text := f__law_steps_text
    g__law_steps_text := He.glo_ok X G (c.fact 55 rfl)
    a__law_witness := He.ga K (Str.ofString "_law_witness")
    d__law_witness := d__law_witness
    f__law_witness := f__law_witness
    g__law_witness := He.glo_ok X G (c.fact 56 rfl)
    a__law_witness_text := He.ga K (Str.ofString "_law_witness_text")
    d__law_witness_text := d__law_witness_text
    f__law_witness_text := f__law_witness_text
    g__law_witness_text := He.glo_ok X G (c.fact 57 rfl)
    a__law_steps_right := He.ga K (Str.ofString "_law_steps_right")
    d__law_steps_right := d__law_steps_right
    f__law_steps_right := f__law_steps_right
    g__law_steps_right := He.glo_ok X G (c.fact 58 rfl)
    tc__law_steps_right := (He.cT K ((Str.ofString "_law_steps_right"), none)).1
    tp__law_steps_right := (He.cT K ((Str.ofString "_law_steps_right"), none)).2
    tb__law_steps_right := TB _ (show ((Str.ofString "_law_steps_right"), none) ∈ tf from .head _)
    cd__law_steps_right := DH.code_of f__law_steps_right
    mT__law_steps_right := fun _ _ _ => .head _
    uT__law_steps_right := fun _ _ _ p hp e => DH.key_uniq (T := TT K) (of_decide_eq_true (c.tell 30 rfl)) hp (q := ((He.cT K ((Str.ofString "_law_steps_right"), none)).2, (envOfC (Str.ofString "_law_steps_right") (defScope s__law_steps_right) 0 0 .none).qual ++ "<lambda>")) (.head _) e
    a__law_keeps_right := He.ga K (Str.ofString "_law_keeps_right")
    d__law_keeps_right := d__law_keeps_right
    f__law_keeps_right := f__law_keeps_right
    g__law_keeps_right := He.glo_ok X G (c.fact 59 rfl)
    tc__law_keeps_right := (He.cT K ((Str.ofString "_law_keeps_right"), none)).1
    tp__law_keeps_right := (He.cT K ((Str.ofString "_law_keeps_right"), none)).2
    tb__law_keeps_right := TB _ (show ((Str.ofString "_law_keeps_right"), none) ∈ tf from .tail _ (.head _))
    cd__law_keeps_right := DH.code_of f__law_keeps_right
    mT__law_keeps_right := fun _ _ _ => .tail _ (.head _)
    uT__law_keeps_right := fun _ _ _ p hp e => DH.key_uniq (T := TT K) (of_decide_eq_true (c.tell 30 rfl)) hp (q := ((He.cT K ((Str.ofString "_law_keeps_right"), none)).2, (envOfC (Str.ofString "_law_keeps_right") (defScope s__law_keeps_right) 0 0 .none).qual ++ "<lambda>")) (.tail _ (.head _)) e
    a__law_amounts_right := He.ga K (Str.ofString "_law_amounts_right")
    d__law_amounts_right := d__law_amounts_right
    f__law_amounts_right := f__law_amounts_right
    g__law_amounts_right := He.glo_ok X G (c.fact 60 rfl)
    tc__law_amounts_right := (He.cT K ((Str.ofString "_law_amounts_right"), none)).1
    tp__law_amounts_right := (He.cT K ((Str.ofString "_law_amounts_right"), none)).2
    tb__law_amounts_right := TB _ (show ((Str.ofString "_law_amounts_right"), none) ∈ tf from .tail _ (.tail _ (.head _)))
    cd__law_amounts_right := DH.code_of f__law_amounts_right
    mT__law_amounts_right := fun _ _ _ => .tail _ (.tail _ (.head _))
    uT__law_amounts_right := fun _ _ _ p hp e => DH.key_uniq (T := TT K) (of_decide_eq_true (c.tell 30 rfl)) hp (q := ((He.cT K ((Str.ofString "_law_amounts_right"), none)).2, (envOfC (Str.ofString "_law_amounts_right") (defScope s__law_amounts_right) 0 0 .none).qual ++ "<lambda>")) (.tail _ (.tail _ (.head _))) e
    a_law := He.ga K (Str.ofString "law")
    d_law := d_law
    f_law := f_law
    g_law := He.glo_ok X G (c.fact 61 rfl)
    tc_law := (He.cT K ((Str.ofString "law"), none)).1
    tp_law := (He.cT K ((Str.ofString "law"), none)).2
    tb_law := TB _ (show ((Str.ofString "law"), none) ∈ tf from .tail _ (.tail _ (.tail _ (.head _))))
    cd_law := DH.code_of f_law
    mT_law := fun _ _ _ => .tail _ (.tail _ (.tail _ (.head _)))
    uT_law := fun _ _ _ p hp e => DH.key_uniq (T := TT K) (of_decide_eq_true (c.tell 30 rfl)) hp (q := ((He.cT K ((Str.ofString "law"), none)).2, (envOfC (Str.ofString "law") (defScope s_law) 0 0 .none).qual ++ "<lambda>")) (.tail _ (.tail _ (.tail _ (.head _)))) e
    c_SIGNS := DH.con_str X G (c.fact 66 rfl)
    c_MOST_SIGNS := DH.con_int X G (c.fact 67 rfl)
    c_MOST_COLUMNS := DH.con_int X G (c.fact 68 rfl)
    c_MAX_SIZE := DH.con_int X G (c.fact 69 rfl)
    c_SUMS := DH.con_str X G (c.fact 70 rfl)
    c_CLASSES := DH.con_str X G (c.fact 71 rfl)
    c_ODDS := DH.con_str X G (c.fact 72 rfl)
    c_MOST_ROWS := DH.con_int X G (c.fact 73 rfl)
    c_COMMON := DH.con_str X G (c.fact 74 rfl)
    c_FIXED := DH.con_str X G (c.fact 75 rfl)
    c_PAIR := DH.con_str X G (c.fact 76 rfl)
    c_CHAIN := DH.con_str X G (c.fact 77 rfl)
    c_WITNESS := DH.con_str X G (c.fact 78 rfl)
    c_WORDS := DH.con_tup X G (c.fact 79 rfl) (c.tell 0 rfl)
    c_MAKINGS := DH.con_tup X G (c.fact 80 rfl) (c.tell 1 rfl)
    c_NOTHING := DH.con_str X G (c.fact 81 rfl)
    c_NONE := DH.con_str X G (c.fact 82 rfl)
    c_NO_STEPS := DH.con_str X G (c.fact 83 rfl)
    c_SIDES := DH.con_str X G (c.fact 84 rfl)
    c_STEPS := DH.con_str X G (c.fact 85 rfl)
    c_FIGURES := DH.con_str X G (c.fact 86 rfl)
    c_MOST_FIGURES := DH.con_int X G (c.fact 87 rfl)
    n_isinstance := He.free_ok X G (c.fact 88 rfl)
    n_int := He.free_ok X G (c.fact 89 rfl)
    n_bool := He.free_ok X G (c.fact 90 rfl)
    n_str := He.free_ok X G (c.fact 91 rfl)
    n_tuple := He.free_ok X G (c.fact 92 rfl)
    n_list := He.free_ok X G (c.fact 93 rfl)
    n_dict := He.free_ok X G (c.fact 94 rfl)
    n_len := He.free_ok X G (c.fact 95 rfl)
    n_all := He.free_ok X G (c.fact 96 rfl)
    n_zip := He.free_ok X G (c.fact 97 rfl)
    n_range := He.free_ok X G (c.fact 98 rfl)
    n_sorted := He.free_ok X G (c.fact 99 rfl)
    n_abs := He.free_ok X G (c.fact 100 rfl)
    n_max := He.free_ok X G (c.fact 101 rfl)
    n_min := He.free_ok X G (c.fact 102 rfl)
    n_repr := He.free_ok X G (c.fact 103 rfl)
    n_sum := He.free_ok X G (c.fact 104 rfl)
    a_Scale := He.ga K (Str.ofString "Scale")
    g_Scale := He.glo_ok X G (c.fact 64 rfl)
    isi_Scale := isi_Scale_ok c
    mc_Scale := .type "type"
    rd_Scale := DH.cread_of (c.tell 26 rfl)
    p_Scale_sums := He.ma K (He.ga K (Str.ofString "Scale")) (Str.ofString "sums")
    sm_Scale_sums := DH.smet_of (c.tell 27 rfl)
    p_Scale_classes := He.ma K (He.ga K (Str.ofString "Scale")) (Str.ofString "classes")
    sm_Scale_classes := DH.smet_of (c.tell 28 rfl)
    p_Scale_odds := He.ma K (He.ga K (Str.ofString "Scale")) (Str.ofString "odds")
    sm_Scale_odds := DH.smet_of (c.tell 29 rfl)
    g_SumScale := He.glo_ok X G (c.fact 65 rfl)
    cl_SumScale := He.cls_ok (c.fact 105 rfl)
    mk_SumScale := by rw [← of_decide_eq_true (c.tell 2 rfl)]; exact He.mkr_ok (c.fact 106 rfl)
    me_SumScale_has_form := He.meth_ok (c.fact 111 rfl)
    me_SumScale_is_amount := by rw [← of_decide_eq_true (c.tell 3 rfl)]; exact He.meth_ok (c.fact 112 rfl)
    eq_SumScale := He.eqO_ok (c.tell 4 rfl)
    g_ClassScale := He.glo_ok X G (c.fact 62 rfl)
    cl_ClassScale := He.cls_ok (c.fact 113 rfl)
    mk_ClassScale := by rw [← of_decide_eq_true (c.tell 9 rfl)]; exact He.mkr_ok (c.fact 114 rfl)
    me_ClassScale_has_form := He.meth_ok (c.fact 119 rfl)
    me_ClassScale_is_amount := by rw [← of_decide_eq_true (c.tell 10 rfl)]; exact He.meth_ok (c.fact 120 rfl)
    eq_ClassScale := He.eqO_ok (c.tell 11 rfl)
    g_OddsScale := He.glo_ok X G (c.fact 63 rfl)
    cl_OddsScale := He.cls_ok (c.fact 121 rfl)
    mk_OddsScale := by rw [← of_decide_eq_true (c.tell 16 rfl)]; exact He.mkr_ok (c.fact 122 rfl)
    me_OddsScale_has_form := He.meth_ok (c.fact 127 rfl)
    me_OddsScale_is_amount := by rw [← of_decide_eq_true (c.tell 17 rfl)]; exact He.meth_ok (c.fact 128 rfl)
    eq_OddsScale := He.eqO_ok (c.tell 18 rfl)
    ef := (c.tell 24 rfl)
    nd := of_decide_eq_true (c.tell 23 rfl)
    nf := fun C h C' h' => by
      simp only [clsI, List.mem_cons, List.not_mem_nil, or_false] at h h'
      rcases h with rfl | rfl | rfl <;> rcases h' with rfl | rfl | rfl
      exact (c.tell 6 rfl)
      exact (c.tell 7 rfl)
      exact (c.tell 8 rfl)
      exact (c.tell 13 rfl)
      exact (c.tell 14 rfl)
      exact (c.tell 15 rfl)
      exact (c.tell 20 rfl)
      exact (c.tell 21 rfl)
      exact (c.tell 22 rfl)
    fld_own_word := fun C h => by
      simp only [clsI, List.mem_cons, List.not_mem_nil, or_false] at h
      rcases h with rfl | rfl | rfl
      exact ⟨He.cls_ok (c.fact 105 rfl), He.noat_ok (c.fact 107 rfl)⟩
      exact ⟨He.cls_ok (c.fact 113 rfl), He.noat_ok (c.fact 115 rfl)⟩
      exact ⟨He.cls_ok (c.fact 121 rfl), He.noat_ok (c.fact 123 rfl)⟩
    fld_own_size := fun C h => by
      simp only [clsI, List.mem_cons, List.not_mem_nil, or_false] at h
      rcases h with rfl | rfl | rfl
      exact ⟨He.cls_ok (c.fact 105 rfl), He.noat_ok (c.fact 108 rfl)⟩
      exact ⟨He.cls_ok (c.fact 113 rfl), He.noat_ok (c.fact 116 rfl)⟩
      exact ⟨He.cls_ok (c.fact 121 rfl), He.noat_ok (c.fact 124 rfl)⟩
    fld_own_zero := fun C h => by
      simp only [clsI, List.mem_cons, List.not_mem_nil, or_false] at h
      rcases h with rfl | rfl | rfl
      exact ⟨He.cls_ok (c.fact 105 rfl), He.noat_ok (c.fact 109 rfl)⟩
      exact ⟨He.cls_ok (c.fact 113 rfl), He.noat_ok (c.fact 117 rfl)⟩
      exact ⟨He.cls_ok (c.fact 121 rfl), He.noat_ok (c.fact 125 rfl)⟩
    fld_own_one := fun C h => by
      simp only [clsI, List.mem_cons, List.not_mem_nil, or_false] at h
      rcases h with rfl | rfl | rfl
      exact ⟨He.cls_ok (c.fact 105 rfl), He.noat_ok (c.fact 110 rfl)⟩
      exact ⟨He.cls_ok (c.fact 113 rfl), He.noat_ok (c.fact 118 rfl)⟩
      exact ⟨He.cls_ok (c.fact 121 rfl), He.noat_ok (c.fact 126 rfl)⟩
    x_InvalidScale := He.ga K (Str.ofString "InvalidScale")
    g_InvalidScale := He.glo_ok X G (c.fact 130 rfl)
    xi_InvalidScale := (He.exc_ok (c.fact 129 rfl)).1
    xk_InvalidScale := (He.exc_ok (c.fact 129 rfl)).2.1
    xs_InvalidScale := (He.exc_ok (c.fact 129 rfl)).2.2.1
    xt_InvalidScale := (He.exc_ok (c.fact 129 rfl)).2.2.2
    x_InvalidStep := He.ga K (Str.ofString "InvalidStep")
    g_InvalidStep := He.glo_ok X G (c.fact 132 rfl)
    xi_InvalidStep := (He.exc_ok (c.fact 131 rfl)).1
    xk_InvalidStep := (He.exc_ok (c.fact 131 rfl)).2.1
    xs_InvalidStep := (He.exc_ok (c.fact 131 rfl)).2.2.1
    xt_InvalidStep := (He.exc_ok (c.fact 131 rfl)).2.2.2
    x_InvalidKeep := He.ga K (Str.ofString "InvalidKeep")
    g_InvalidKeep := He.glo_ok X G (c.fact 134 rfl)
    xi_InvalidKeep := (He.exc_ok (c.fact 133 rfl)).1
    xk_InvalidKeep := (He.exc_ok (c.fact 133 rfl)).2.1
    xs_InvalidKeep := (He.exc_ok (c.fact 133 rfl)).2.2.1
    xt_InvalidKeep := (He.exc_ok (c.fact 133 rfl)).2.2.2
    x_InvalidOperation := He.ga K (Str.ofString "InvalidOperation")
    g_InvalidOperation := He.glo_ok X G (c.fact 136 rfl)
    xi_InvalidOperation := (He.exc_ok (c.fact 135 rfl)).1
    xk_InvalidOperation := (He.exc_ok (c.fact 135 rfl)).2.1
    xs_InvalidOperation := (He.exc_ok (c.fact 135 rfl)).2.2.1
    xt_InvalidOperation := (He.exc_ok (c.fact 135 rfl)).2.2.2
    x_ParseError := He.ga K (Str.ofString "ParseError")
    g_ParseError := He.glo_ok X G (c.fact 138 rfl)
    xi_ParseError := (He.exc_ok (c.fact 137 rfl)).1
    xk_ParseError := (He.exc_ok (c.fact 137 rfl)).2.1
    xs_ParseError := (He.exc_ok (c.fact 137 rfl)).2.2.1
    xt_ParseError := (He.exc_ok (c.fact 137 rfl)).2.2.2
    te_ParseError := He.exm_ok (c.fact 139 rfl)
    }, rfl, rfl, rfl⟩⟩
theorem glo_law {K : PySem.W.Frag} {h : Heap} {mg : MG} (X : K.In h) (G : h.Ns mainGlobals mg) (c : DH.Says fa fn tf ex h K) : mg "law" = some (.ref (He.ga K "law")) := He.glo_ok X G (c.fact 61 rfl)
theorem nd_of {K : PySem.W.Frag} {h : Heap} (c : DH.Says fa fn tf ex h K) : (clsI (AD K)).Nodup := of_decide_eq_true (c.tell 23 rfl)
end M87

-- DE
/-! DE: the end of a law whose def stands only where no repr is under way. -/
namespace DE
open PySem PySem.Spec PyProof.Rows L2 LamX
section
variable {P : Program} {w : World} {K : PySem.W.Frag} {mg mb : Str → Option Value} {k : Nat} {fa a : Addr} {cs : List (Addr × Addr)} {fd : FuncData} {x : Str} {sp : Sp} {s₁ : Shared} {vs : List Value} {ns : List Int}
/-- what is told at the call: the tables; the script, if the fragment does not hold it -/
def told (K : PySem.W.Frag) (cs : List (Addr × Addr)) (a : Addr) (vs : List Value) (ns : List Int) : Hp := fun b =>
  if b ∈ cs.map (·.2) then some (.tbl #[]) else if b = a ∧ K.lookup a = none then some (.frz { cls := .type "list", data := .seq vs.toArray } (.lst (ns.map V.int))) else none
theorem told_some {b : Addr} {u : HO} (h : told K cs a vs ns b = some u) : (b ∈ cs.map (·.2) ∧ u = .tbl #[]) ∨ (b = a ∧ K.lookup a = none ∧ u = .frz { cls := .type "list", data := .seq vs.toArray } (.lst (ns.map V.int))) := by
  unfold told at h
  split at h
  · rename_i e; cases h; exact .inl ⟨e, rfl⟩
  · split at h
    · rename_i e; cases h; exact .inr ⟨e.1, e.2, rfl⟩
    · cases h
theorem told_tab {b : Addr} (h : b ∈ cs.map (·.2)) : told K cs a vs ns b = some (.tbl #[]) := by unfold told; rw [if_pos h]
theorem law_callG (KX : K.In s₁.heap) (hns : s₁.heap.Ns mainGlobals mg) (hb : s₁.heap.Ns builtinsNs mb) (hbb : ∀ x : Str, x ≠ "__name__" → mb x = bootBuiltins x) (hlim : s₁.heap.NoLimit) (hg : s₁.gens = #[])
    (hT : ∀ p ∈ cs, s₁.heap.get? p.2 = some { cls := .none, data := .fields #[] }) (nT : ∀ p ∈ cs, K.lookup p.2 = none) (C : ∀ p ∈ cs, PySem.W.CodeHd s₁.heap p.1 p.2)
    (hbm : ∃ (bm : Addr) (ob : Obj), mg "__builtins__" = some (.ref bm) ∧ bm ≠ builtinsNs ∧ s₁.heap.get? bm = some ob ∧ ob.cls = .type "module" ∧ ob.dict = some builtinsNs ∧ ob.data = .plain)
    (ha : s₁.heap.get? a = some { cls := .type "list", data := .seq vs.toArray }) (hi : IntsAre vs ns) (hl : ns.length ≤ sizeLine) (hr : Room k callerA)
    (F : ∀ base : Heap, K.In base → base.Ns mainGlobals mg → (∀ p ∈ cs, TabB base mg p.1 p.2) → DL.FnG P w K mg base k fa fd [x] sp) (hbind : ∀ (s : Shared) (u : Value), BindsTo s fd ⟨[u], []⟩ [(x, u)])
    (hsp : ∀ H : Hp, (∀ p ∈ cs, H p.2 = some (.tbl #[])) → SqL K H a (ns.map V.int) → sp [.ref a] H (fun v _ => v = .bl true) fun _ _ _ => False) :
    codeAny (model P w) callerA (.call (.ref fa) ⟨[.ref a], []⟩) (fun r s' => r = .ok (.ret (.bool true)) ∧ OldK s₁.heap s'.heap ∧ s'.os = s₁.os ∧ AllBare s'.gens) s₁ := by
  have rv := vals_ints hi
  have mem : ∀ p ∈ cs, p.2 ∈ cs.map (·.2) := fun p hp => List.mem_map.mpr ⟨p, hp, rfl⟩
  have isT : ∀ b ∈ cs.map (·.2), s₁.heap.get? b = some { cls := .none, data := .fields #[] } := fun b hb => by
    obtain ⟨p, hp, rfl⟩ := List.mem_map.mp hb
    exact hT p hp
  have noK : ∀ b ∈ cs.map (·.2), K.lookup b = none := fun b hb => by
    obtain ⟨p, hp, rfl⟩ := List.mem_map.mp hb
    exact nT p hp
  have aT : a ∉ cs.map (·.2) := fun z => by
    have e := congrArg Obj.data (Option.some.inj (ha.symm.trans (isT a z)))
    cases e
  generalize hH : told K cs a vs ns = H
  have some_ : ∀ {b : Addr} {u : HO}, H b = some u → (b ∈ cs.map (·.2) ∧ u = .tbl #[]) ∨ (b = a ∧ K.lookup a = none ∧ u = .frz { cls := .type "list", data := .seq vs.toArray } (.lst (ns.map V.int))) := fun e => by subst hH; exact told_some e
  have tab_ : ∀ b ∈ cs.map (·.2), H b = some (.tbl #[]) := fun b e => by subst hH; exact told_tab e
  -- what stands in the fragment, what is a dict, a module, a code object is not told
  have free : ∀ {b : Addr} {o : Obj}, s₁.heap.get? b = some o → (∀ ws n, o.data ≠ .seq ws n) → o.data ≠ .fields #[] → H b = none := fun {b o} e n1 n2 => by
    cases q : H b with
    | none => rfl
    | some u =>
      rcases some_ q with ⟨z, _⟩ | ⟨rfl, _, _⟩
      · rw [isT b z] at e; cases e; exact (n2 rfl).elim
      · rw [ha] at e; cases e; exact (n1 _ _ rfl).elim
  have freeK : ∀ {b : Addr} {o : Obj}, K.lookup b = some o → H b = none := fun {b o} e => by
    cases q : H b with
    | none => rfl
    | some u =>
      rcases some_ q with ⟨z, _⟩ | ⟨rfl, z, _⟩
      · rw [noK b z] at e; cases e
      · rw [z] at e; cases e
  have keep : ∀ {b : Addr} {o : Obj}, s₁.heap.get? b = some o → H b = none → (hidT s₁.heap H).get? b = some o := fun e n => hidT_get e n
  have nsK : ∀ {b : Addr} {m : Str → Option Value}, s₁.heap.Ns b m → (hidT s₁.heap H).Ns b m := fun {b m} ⟨o, es, ep, e, d, r⟩ =>
    ⟨o, es, ep, keep e (free e (fun ws n z => by rw [d] at z; cases z) (fun z => by rw [d] at z; cases z)), d, r⟩
  have inK : K.In (hidT s₁.heap H) := fun b o e => keep (KX b o e) (freeK e)
  have hM : L2.Mod K mg (hidT s₁.heap H) := ⟨inK, nsK hns, ⟨mb, nsK hb, hbb⟩, let ⟨mc, h1, h2⟩ := hlim; ⟨mc, nsK h1, h2⟩⟩
  have ok : HOk P w H s₁.heap := fun b u e => by
    rcases some_ e with ⟨z, rfl⟩ | ⟨rfl, _, rfl⟩
    · exact isT b z
    · exact ⟨ha, by rw [List.length_map]; exact hl, vs, _, rv, ha⟩
  have hS : SqL K H a (ns.map V.int) := by
    cases q : K.lookup a with
    | none =>
      refine .inl (.inr ⟨{ cls := .type "list", data := .seq vs.toArray }, ?_⟩)
      subst hH
      unfold told
      rw [if_neg aT, if_pos ⟨rfl, q⟩]
    | some o =>
      have e := KX a o q
      rw [ha] at e
      cases e
      exact .inr ⟨_, vs.toArray, _, q, rfl, rfl, rfl, by rw [List.size_toArray, hi.length]; exact hl, by simpa using rv⟩
  have TB : ∀ p ∈ cs, TabB (hidT s₁.heap H) mg p.1 p.2 := fun p hp => by
    have hTp := hT p hp
    refine ⟨?_, ?_, fun z => ?_⟩
    · obtain ⟨o, us, file, tf, flags, tg, inF, text, tt, e1, r1, r2, r3, rest⟩ := C p hp
      refine ⟨o, us, file, tf, flags, tg, inF, text, tt, keep e1 (free e1 (fun ws n z => by rw [r2] at z; cases z) fun z => ?_), r1, r2, r3, rest⟩
      rw [r2] at z
      cases z
      simp at r3
    · obtain ⟨bm, ob, b1, b2, b3, b4, b5, b6⟩ := hbm
      have n1 : bm ≠ mainGlobals := fun q => by
        obtain ⟨o, es, ep, e, hd, _⟩ := hns
        rw [q, e] at b3
        cases b3
        rw [hd] at b6
        cases b6
      have n2 : bm ≠ p.2 := fun q => by
        rw [q, hTp] at b3
        cases b3
        cases b6
      exact ⟨bm, ob, b1, b2, n1, n2, keep b3 (free b3 (fun ws n z => by rw [b6] at z; cases z) fun z => by rw [b6] at z; cases z), b4, b5, b6⟩
    · obtain ⟨o, es, ep, e, hd, _⟩ := hns
      rw [z, hTp] at e
      cases e
      cases hd
  have e0 : Env0 P w K mg (hidT s₁.heap H) callerA [] s₁ H := ⟨rfl, hM, fun b o e => of_hidT e, Nat.le_of_eq (hidT_size _ _), trivial, fun b hb => absurd (show b ∈ ([] : List Addr) from hb) (by simp), ok, .of_eq hg⟩
  refine codeAny_mono ((F _ inK (nsK hns) TB).run callerA [] s₁ H ⟨[.ref a], []⟩ [.ref a] [.ref a] _ _ rfl hr e0 (hbind s₁ (.ref a)) (.cons rfl .nil) (hsp H (fun p hp => tab_ _ (mem p hp)) hS)) fun r s' h => ?_
  match r, h with
  | .error e, h =>
    obtain ⟨_, _, _, _, _, _, _, _, _, _, _, _, z⟩ := h
    exact z.elim
  | .ok .next, h => exact False.elim h
  | .ok .brk, h => exact False.elim h
  | .ok .cont, h => exact False.elim h
  | .ok (.ret u), h =>
    obtain ⟨v, H', os, bare, un, ok', r', q⟩ := h
    cases (show v = .bl true from q)
    cases (show u = Value.bool true from r')
    -- what is no table stands as it stood; a table may have grown
    have same : ∀ b o, b ∉ cs.map (·.2) → s₁.heap.get? b = some o → s'.heap.get? b = some o := fun b o nb e => by
      cases q : H b with
      | none => exact un.keep b o e q (by intro z; exact absurd (show b ∈ ([] : List Addr) from z) (by simp)) (by simp)
      | some u =>
        rcases some_ q with ⟨z, _⟩ | ⟨rfl, _, rfl⟩
        · exact absurd z nb
        · rw [ha] at e
          cases e
          exact (ok' _ _ (un.frzs _ _ _ q)).1
    have more : ∀ b ∈ cs.map (·.2), ∃ es : Array Value, s'.heap.get? b = some { cls := .none, data := .fields es } := fun b hb => by
      obtain ⟨es, z⟩ := un.tbls b #[] (tab_ b hb)
      exact ⟨_, ok' b _ z⟩
    refine ⟨rfl, ⟨fun b o e => ?_, fun b o e => ?_⟩, os, bare⟩
    · by_cases hb : b ∈ cs.map (·.2)
      · obtain ⟨es, z⟩ := more b hb
        rw [isT b hb] at e
        cases e
        obtain ⟨p, hp, rfl⟩ := List.mem_map.mp hb
        exact .inr (.inl ⟨((C p hp).tab (hT p hp)).isCodeTable, rfl, #[], es, rfl, by rw [Array.empty_append]; exact z⟩)
      · exact .inl (same b o hb e)
    · by_cases hb : b ∈ cs.map (·.2)
      · exact let ⟨es, z⟩ := more b hb; ⟨_, z⟩
      · exact ⟨o, same b o hb e⟩
end
/-- the end: F gives the fragment, the def's object, the tables, the promise -/
theorem walk_ofG {l : PySem.W.OpenLaw} {n k : Nat} {q : Program} {loose : List Str} {XP : (Str → Option Value) → Heap → Prop} {YP : World → Heap → Prop} {d : DefRec} {x : Str}
    (hn : l.most = some n) (hn2 : n ≤ sizeLine) (hdf : d.params.defaults = []) (hr : Room k callerA)
    (F : ∀ (w : World) (mg : Str → Option Value) (fa : Addr) (h : Heap), YP w h → h.Ns mainGlobals mg → mg d.name = some (.ref fa) → ∃ (K : PySem.W.Frag) (fd : FuncData) (cs : List (Addr × Addr)) (sp : Sp), K.In h ∧
      (∀ p ∈ cs, h.get? p.2 = some { cls := .none, data := .fields #[] }) ∧ (∀ p ∈ cs, K.lookup p.2 = none) ∧ (∀ p ∈ cs, PySem.W.CodeHd h p.1 p.2) ∧ (∀ (s : Shared) (u : Value), BindsTo s fd ⟨[u], []⟩ [(x, u)]) ∧
      (∀ (H : Hp) (a : Addr) (ns : List Int), ns.length ≤ n → (∀ z ∈ ns, Builtin.Int.intBits z ≤ 1048576) → (∀ p ∈ cs, H p.2 = some (.tbl #[])) → SqL K H a (ns.map V.int) → sp [.ref a] H (fun v _ => v = .bl true) fun _ _ _ => False) ∧
      ∀ base : Heap, K.In base → base.Ns mainGlobals mg → (∀ p ∈ cs, TabB base mg p.1 p.2) → DL.FnG l.prog w K mg base k fa fd [x] sp) :
    PySem.W.WalkO q loose XP YP l.row.toRowW d [] (fun f vs => PySem.call f vs) := by
  refine Att.attach_callB hn hdf fun w s₀ s₁ mg mb fa o pm cd doc a vs ns G Y ho hd hcd hmg hobj hints hlen hbits hg => ?_
  obtain ⟨K, fd, cs, sp, KX, hT, nT, C, hb, hsp, hF⟩ := F w mg fa _ Y G.T.g hmg
  exact law_callG KX G.T.g G.T.b G.T.builtins G.T.nolimit hg hT nT C G.T.bmain hobj hints (Nat.le_trans hlen hn2) hr hF hb fun H hH hS => hsp H a ns hlen hbits hH hS
end DE

-- PA
/-! PA: texts of columns, steps, keeps, amounts, papers: the plain functions and what holds of them. -/
namespace TX
open PySem TL

/-! ### joined and cut texts -/
theorem mem_joinL {S : List Nat} {c : Nat} : ∀ {ps : List (List Nat)}, c ∈ joinL S ps → c ∈ S ∨ ∃ p ∈ ps, c ∈ p
  | [], h => by cases h
  | [p], h => .inr ⟨p, by simp, h⟩
  | p :: q :: r, h => by
    have h : c ∈ p ++ (S ++ joinL S (q :: r)) := h
    simp only [List.mem_append] at h
    rcases h with h | h | h
    · exact .inr ⟨p, by simp, h⟩
    · exact .inl h
    · rcases mem_joinL h with h | ⟨z, hz, hc⟩
      · exact .inl h
      · exact .inr ⟨z, List.mem_cons_of_mem _ hz, hc⟩
theorem joinL_cons (S p : List Nat) : ∀ r : List (List Nat), ∃ t, joinL S (p :: r) = p ++ t
  | [] => ⟨[], (List.append_nil p).symm⟩
  | q :: r => ⟨S ++ joinL S (q :: r), rfl⟩
theorem tl_joinT (y : Str) (ps : List Str) : tl (Txt.join y ps) = joinL (tl y) (ps.map tl) := by rw [join_eq, tl_join]
theorem mem_join {y : Str} {ps : List Str} {c : Nat} (h : c ∈ tl (Txt.join y ps)) : c ∈ tl y ∨ ∃ p ∈ ps, c ∈ tl p := by
  rw [tl_joinT] at h
  rcases mem_joinL h with h | ⟨z, hz, hc⟩
  · exact .inl h
  · obtain ⟨p, hp, rfl⟩ := List.mem_map.mp hz
    exact .inr ⟨p, hp, hc⟩
theorem join_cons (y p : Str) (r : List Str) : ∃ t, tl (Txt.join y (p :: r)) = tl p ++ t := by
  rw [tl_joinT]
  exact joinL_cons _ _ _
/-- the sign in the middle of the separator is not in the part -/
theorem pre_mid {a m b : Nat} {p r : List Nat} (hm : m ∉ p) (ham : a ≠ m) : ∀ i, i < p.length → pre [a, m, b] ((p ++ ([a, m, b] ++ r)).drop i) = false := by
  intro i hi
  cases hp : pre [a, m, b] ((p ++ ([a, m, b] ++ r)).drop i) with
  | false => rfl
  | true =>
    exfalso
    have e : ((p ++ ([a, m, b] ++ r)).drop i).take 3 = [a, m, b] := eq_of_beq hp
    have e1 : (p ++ ([a, m, b] ++ r))[i + 1]? = some m := by
      have z := congrArg (fun l => l[1]?) e
      simpa [List.getElem?_take, List.getElem?_drop] using z
    by_cases h1 : i + 1 < p.length
    · rw [List.getElem?_append_left h1] at e1
      exact hm (List.mem_of_getElem? e1)
    · have e2 : i + 1 = p.length := by omega
      rw [e2, List.getElem?_append_right (Nat.le_refl _)] at e1
      simp at e1
      exact ham e1
theorem pre_mid_last {a m b : Nat} {p : List Nat} (hm : m ∉ p) : ∀ i, i < p.length → pre [a, m, b] (p.drop i) = false := by
  intro i hi
  cases hp : pre [a, m, b] (p.drop i) with
  | false => rfl
  | true =>
    exfalso
    have e : (p.drop i).take 3 = [a, m, b] := eq_of_beq hp
    have e1 : p[i + 1]? = some m := by
      have z := congrArg (fun l => l[1]?) e
      simpa [List.getElem?_take, List.getElem?_drop] using z
    exact hm (List.mem_of_getElem? e1)
theorem spl_join_mid {a m b : Nat} (ham : a ≠ m) : ∀ {parts : List (List Nat)}, parts ≠ [] → (∀ p ∈ parts, m ∉ p) → spl [a, m, b] 0 [] (joinL [a, m, b] parts) = parts
  | [], h, _ => absurd rfl h
  | [p], _, hp => by
    show spl [a, m, b] 0 [] p = [p]
    rw [spl_last (pre_mid_last (hp p (List.mem_singleton.mpr rfl))), List.nil_append]
  | p :: q :: r, _, hp => by
    show spl [a, m, b] 0 [] (p ++ ([a, m, b] ++ joinL [a, m, b] (q :: r))) = p :: q :: r
    rw [spl_part (by simp) (pre_mid (hp p (List.mem_cons_self ..)) ham), List.nil_append, spl_join_mid ham (by simp) fun z hz => hp z (List.mem_cons_of_mem _ hz)]
theorem split_join_mid {y : Str} {a m b : Nat} (ey : tl y = [a, m, b]) (ham : a ≠ m) (hk : y.cps.all (· < 256) = true) {parts : List Str} (hne : parts ≠ []) (hp : ∀ p ∈ parts, m ∉ tl p) :
    Txt.split (Txt.join y parts) y = parts := by
  refine map_tl_inj ?_
  rw [split_spl _ y (by rw [ey]; simp) (kind_ok hk), join_eq, tl_join, ey]
  refine spl_join_mid ham (fun e => hne (List.map_eq_nil_iff.mp e)) fun p h => ?_
  obtain ⟨z, hz, rfl⟩ := List.mem_map.mp h
  exact hp z hz
theorem partition_mid {y : Str} {a m b : Nat} (ey : tl y = [a, m, b]) (ham : a ≠ m) {p q : Str} (h : m ∉ tl p) : Txt.partition (p ++ y ++ q) y = (p, y, q) := by
  rw [partition_par _ y (by rw [ey]; simp), tl_append, tl_append, List.append_assoc, ey, par_part (by simp) (pre_mid h ham)]
  show ((⟨([] ++ tl p).toArray⟩ : Str), y, (⟨(tl q).toArray⟩ : Str)) = _
  rw [List.nil_append, mk_tl, mk_tl]
theorem app_assoc (x y z : Str) : x ++ y ++ z = x ++ (y ++ z) := ext_tl (by simp only [tl_append, List.append_assoc])
theorem empty_app (x : Str) : Str.empty ++ x = x := ext_tl (by rw [tl_append]; rfl)
theorem len_app (x y : Str) : (x ++ y).length = x.length + y.length := by rw [len_tl, len_tl, len_tl, tl_append, List.length_append]
theorem len_join (y : Str) : ∀ ps : List Str, (Txt.join y ps).length ≤ (ps.map (·.length)).sum + ps.length * y.length := by
  intro ps
  rw [join_eq]
  induction ps with
  | nil => exact Nat.zero_le _
  | cons p r ih =>
    cases r with
    | nil =>
      show p.length ≤ _
      simp
    | cons q r =>
      show (p ++ y ++ Str.join y (q :: r)).length ≤ _
      rw [len_app, len_app, List.map_cons, List.sum_cons, List.length_cons, Nat.succ_mul]
      omega
theorem sum_le {B : Nat} : ∀ {l : List Str}, (∀ x ∈ l, x.length ≤ B) → (l.map (·.length)).sum ≤ l.length * B
  | [], _ => by simp
  | x :: r, h => by
    have h1 := h x (List.mem_cons_self ..)
    have h2 := sum_le (l := r) fun y hy => h y (List.mem_cons_of_mem _ hy)
    rw [List.map_cons, List.sum_cons, List.length_cons, Nat.succ_mul]
    omega
theorem len_join_le {y : Str} {l : List Str} {n B : Nat} (hl : l.length ≤ n) (h : ∀ x ∈ l, x.length ≤ B) : (l.map (·.length)).sum + l.length * y.length ≤ n * (B + y.length) := by
  have h1 := sum_le h
  have h2 : l.length * (B + y.length) ≤ n * (B + y.length) := Nat.mul_le_mul_right _ hl
  rw [Nat.mul_add] at h2
  omega

/-! ### columns -/
abbrev A (s : String) : Str := Str.ofString s
def isLow (c : Nat) : Bool := decide (97 ≤ c) && decide (c ≤ 122)
def isName (x : Str) : Bool := decide (1 ≤ x.length) && decide (x.length ≤ 8) && (tl x).all isLow
def ltS (x y : Str) : Bool := decide (tl x < tl y)
def ascS : List Str → Bool
  | x :: y :: r => ltS x y && ascS (y :: r)
  | _ => true
def areCols (xs : List Str) : Bool := decide (xs.length ≤ 8) && xs.all isName && ascS xs
def colsText (xs : List Str) : Str := if xs = [] then A "-" else Txt.join (A " ") xs
def colsIn (t : Str) : List Str := if t = A "-" then [] else Txt.split t (A " ")
theorem low_iff {c : Nat} : isLow c = true ↔ 97 ≤ c ∧ c ≤ 122 := by simp [isLow]
theorem name_low {x : Str} (h : isName x = true) : ∀ c ∈ tl x, 97 ≤ c ∧ c ≤ 122 := by
  simp only [isName, Bool.and_eq_true, List.all_eq_true] at h
  exact fun c hc => low_iff.mp (h.2 c hc)
theorem name_free {x : Str} (h : isName x = true) {c : Nat} (hc : c < 97 ∨ 122 < c) : c ∉ tl x := fun m => by
  have := name_low h c m
  omega
theorem name_len {x : Str} (h : isName x = true) : 1 ≤ x.length ∧ x.length ≤ 8 := by
  simp only [isName, Bool.and_eq_true, decide_eq_true_eq] at h
  exact h.1
theorem name_head {x : Str} (h : isName x = true) : ∃ c r, tl x = c :: r ∧ 97 ≤ c ∧ c ≤ 122 := by
  have l := (name_len h).1
  rw [len_tl] at l
  cases e : tl x with
  | nil => rw [e] at l; cases l
  | cons c r =>
    have := name_low h c (by rw [e]; exact List.mem_cons_self ..)
    exact ⟨c, r, rfl, this⟩
theorem tl_sp : tl (A " ") = [32] := by decide +kernel
theorem tl_dash : tl (A "-") = [45] := by decide +kernel
theorem cols_name {xs : List Str} (h : areCols xs = true) : ∀ x ∈ xs, isName x = true := by
  simp only [areCols, Bool.and_eq_true, List.all_eq_true] at h
  exact h.1.2
theorem cols_len {xs : List Str} (h : areCols xs = true) : xs.length ≤ 8 := by
  simp only [areCols, Bool.and_eq_true, decide_eq_true_eq] at h
  exact h.1.1
theorem colsIn_text {xs : List Str} (h : areCols xs = true) : colsIn (colsText xs) = xs := by
  cases xs with
  | nil => rfl
  | cons x r =>
    have hn := cols_name h
    have e0 : colsText (x :: r) = Txt.join (A " ") (x :: r) := if_neg (by simp)
    have e1 : Txt.join (A " ") (x :: r) ≠ A "-" := by
      intro e
      obtain ⟨t, et⟩ := join_cons (A " ") x r
      obtain ⟨c, q, ec, hc⟩ := name_head (hn x (List.mem_cons_self ..))
      rw [e, tl_dash, ec] at et
      injection et with e1 _
      omega
    rw [e0]
    unfold colsIn
    rw [if_neg e1, split_join (s := 32) (S := []) tl_sp (by decide +kernel) (by simp) fun p hp => name_free (hn p hp) (by omega)]
/-- the signs of the text of columns -/
theorem cols_signs {xs : List Str} (h : areCols xs = true) : ∀ c ∈ tl (colsText xs), c = 32 ∨ c = 45 ∨ (97 ≤ c ∧ c ≤ 122) := by
  intro c hc
  unfold colsText at hc
  split at hc
  · rw [tl_dash] at hc; simp at hc; omega
  · rcases mem_join hc with hc | ⟨p, hp, hc⟩
    · rw [tl_sp] at hc; simp at hc; omega
    · have := name_low (cols_name h p hp) c hc
      omega
theorem colsText_len {xs : List Str} (h : areCols xs = true) : (colsText xs).length ≤ 72 := by
  unfold colsText
  split
  · decide +kernel
  · have h1 := len_join (A " ") xs
    have h2 := len_join_le (y := A " ") (cols_len h) fun x hx => (name_len (cols_name h x hx)).2
    have h3 : (A " ").length = 1 := by decide +kernel
    rw [h3] at h1 h2
    omega

/-! ### steps -/
inductive Stp where
  | two (w x : Str)
  | pr (l o : List Str)
deriving DecidableEq
def isForm : Stp → Bool
  | .two w x => (w == A "common" || w == A "fixed") && isName x
  | .pr l o => areCols l && areCols o
def stepText : Stp → Str
  | .two w x => w ++ A " " ++ x
  | .pr l o => A "pair" ++ A " " ++ colsText l ++ A " / " ++ colsText o
def stepIn (t : Str) : Stp :=
  if (Txt.partition t (A " ")).1 = A "pair" then .pr (colsIn (Txt.partition (Txt.partition t (A " ")).2.2 (A " / ")).1) (colsIn (Txt.partition (Txt.partition t (A " ")).2.2 (A " / ")).2.2)
  else .two (Txt.partition t (A " ")).1 (Txt.partition t (A " ")).2.2
def stepsText (ss : List Stp) : Str := if ss = [] then A "no steps" else Txt.join (A " ; ") (ss.map stepText)
def stepsFound (t : Str) : List Stp := if t = A "no steps" then [] else (Txt.split t (A " ; ")).map stepIn
def stepsIn (t : Str) : Option (List Stp) := if (stepsFound t).all isForm = true ∧ t = stepsText (stepsFound t) then some (stepsFound t) else none
theorem stepsIn_some {t : Str} {ss : List Stp} (h : stepsIn t = some ss) : ss.all isForm = true ∧ stepsText ss = t := by
  unfold stepsIn at h
  split at h
  · rename_i k; cases h; exact ⟨k.1, k.2.symm⟩
  · cases h
theorem tl_sides : tl (A " / ") = [32, 47, 32] := by decide +kernel
theorem tl_semi : tl (A " ; ") = [32, 59, 32] := by decide +kernel
theorem stepIn_text {s : Stp} (h : isForm s = true) : stepIn (stepText s) = s := by
  cases s with
  | two w x =>
    simp only [isForm, Bool.and_eq_true, Bool.or_eq_true, beq_iff_eq] at h
    have hw : 32 ∉ tl w ∧ w ≠ A "pair" := by
      rcases h.1 with e | e <;> subst e <;> decide +kernel
    have e : Txt.partition (w ++ A " " ++ x) (A " ") = (w, A " ", x) := partition_app (s := 32) (S := []) tl_sp hw.1
    unfold stepIn stepText
    rw [e, if_neg hw.2]
  | pr l o =>
    simp only [isForm, Bool.and_eq_true] at h
    have e : Txt.partition (stepText (.pr l o)) (A " ") = (A "pair", A " ", colsText l ++ A " / " ++ colsText o) := by
      have e1 : stepText (.pr l o) = A "pair" ++ A " " ++ (colsText l ++ A " / " ++ colsText o) := by
        show A "pair" ++ A " " ++ colsText l ++ A " / " ++ colsText o = _
        simp only [app_assoc]
      rw [e1]
      exact partition_app (s := 32) (S := []) tl_sp (by decide +kernel)
    have e2 : Txt.partition (colsText l ++ A " / " ++ colsText o) (A " / ") = (colsText l, A " / ", colsText o) := by
      refine partition_mid tl_sides (by decide) fun m => ?_
      have := cols_signs h.1 47 m
      omega
    unfold stepIn
    rw [e, if_pos rfl, e2, colsIn_text h.1, colsIn_text h.2]
theorem step_signs {s : Stp} (h : isForm s = true) : ∀ c ∈ tl (stepText s), c = 32 ∨ c = 45 ∨ c = 47 ∨ (97 ≤ c ∧ c ≤ 122) := by
  intro c hc
  cases s with
  | two w x =>
    simp only [isForm, Bool.and_eq_true, Bool.or_eq_true, beq_iff_eq] at h
    have hw : ∀ c ∈ tl w, 97 ≤ c ∧ c ≤ 122 := by
      rcases h.1 with e | e <;> subst e <;> decide +kernel
    simp only [stepText, tl_append, List.mem_append, tl_sp, List.mem_singleton] at hc
    rcases hc with (hc | hc) | hc
    · have := hw c hc; omega
    · omega
    · have := name_low h.2 c hc; omega
  | pr l o =>
    simp only [isForm, Bool.and_eq_true] at h
    have hp : ∀ c ∈ tl (A "pair"), 97 ≤ c ∧ c ≤ 122 := by decide +kernel
    simp only [stepText, tl_append, List.mem_append, tl_sp, tl_sides, List.mem_cons, List.not_mem_nil, or_false] at hc
    rcases hc with (((hc | hc) | hc) | hc) | hc
    · have := hp c hc; omega
    · omega
    · have := cols_signs h.1 c hc; omega
    · omega
    · have := cols_signs h.2 c hc; omega
theorem step_head {s : Stp} (h : isForm s = true) : ∃ c r, tl (stepText s) = c :: r ∧ c ≠ 110 := by
  cases s with
  | two w x =>
    simp only [isForm, Bool.and_eq_true, Bool.or_eq_true, beq_iff_eq] at h
    rcases h.1 with e | e <;> subst e
    · refine ⟨99, tl (A "ommon") ++ (tl (A " ") ++ tl x), ?_, by decide⟩
      simp only [stepText, tl_append, List.append_assoc]
      rw [show tl (A "common") = 99 :: tl (A "ommon") by decide +kernel]; rfl
    · refine ⟨102, tl (A "ixed") ++ (tl (A " ") ++ tl x), ?_, by decide⟩
      simp only [stepText, tl_append, List.append_assoc]
      rw [show tl (A "fixed") = 102 :: tl (A "ixed") by decide +kernel]; rfl
  | pr l o =>
    refine ⟨112, tl (A "air") ++ (tl (A " ") ++ (tl (colsText l) ++ (tl (A " / ") ++ tl (colsText o)))), ?_, by decide⟩
    simp only [stepText, tl_append, List.append_assoc]
    rw [show tl (A "pair") = 112 :: tl (A "air") by decide +kernel]; rfl
theorem stepText_len {s : Stp} (h : isForm s = true) : (stepText s).length ≤ 152 := by
  cases s with
  | two w x =>
    simp only [isForm, Bool.and_eq_true, Bool.or_eq_true, beq_iff_eq] at h
    have hw : w.length ≤ 6 := by
      rcases h.1 with e | e <;> subst e <;> decide +kernel
    have := (name_len h.2).2
    have h3 : (A " ").length = 1 := by decide +kernel
    simp only [stepText, len_app, h3]
    omega
  | pr l o =>
    simp only [isForm, Bool.and_eq_true] at h
    have h1 := colsText_len h.1
    have h2 := colsText_len h.2
    have h3 : (A " ").length = 1 := by decide +kernel
    have h4 : (A " / ").length = 3 := by decide +kernel
    have h5 : (A "pair").length = 4 := by decide +kernel
    simp only [stepText, len_app, h3, h4, h5]
    omega
theorem steps_round {ss : List Stp} (h : ss.all isForm = true) : stepsIn (stepsText ss) = some ss := by
  have hf : stepsFound (stepsText ss) = ss := by
    cases ss with
    | nil => rfl
    | cons s r =>
      have e0 : stepsText (s :: r) = Txt.join (A " ; ") ((s :: r).map stepText) := if_neg (by simp)
      rw [List.all_eq_true] at h
      have e1 : Txt.join (A " ; ") ((s :: r).map stepText) ≠ A "no steps" := by
        intro e
        obtain ⟨t, et⟩ := join_cons (A " ; ") (stepText s) (r.map stepText)
        obtain ⟨c, q, ec, hc⟩ := step_head (h s (List.mem_cons_self ..))
        rw [List.map_cons] at e
        rw [e, ec, show tl (A "no steps") = 110 :: tl (A "o steps") by decide +kernel] at et
        injection et with e1 _
        exact hc e1.symm
      rw [e0]
      unfold stepsFound
      rw [if_neg e1, split_join_mid tl_semi (by decide) (by decide +kernel) (by simp)]
      · rw [List.map_map]
        have e : ∀ x ∈ s :: r, (stepIn ∘ stepText) x = id x := fun x hx => stepIn_text (h x hx)
        rw [List.map_congr_left e, List.map_id]
      · intro p hp
        obtain ⟨x, hx, rfl⟩ := List.mem_map.mp hp
        intro m
        have := step_signs (h x hx) 59 m
        omega
  unfold stepsIn
  rw [hf, if_pos ⟨h, rfl⟩]
end TX

-- PB
/-! PB: texts of keeps, amounts and papers. -/
namespace TX
open PySem TL NumText

/-! ### integers -/
abbrev intText (i : Int) : Str := Str.ofString (toString i)
theorem tl_nat (n : Nat) : tl (intText (n : Int)) = numL n := tl_num n
theorem tl_neg {n : Nat} (h : 0 < n) : tl (intText (-(n : Int))) = 45 :: numL n := by
  have e : toString (-(n : Int)) = "-" ++ toString ((n : Nat) : Int) := by
    rw [PyProof.Rows.toString_neg (by omega)]
    have e2 : (0 : Int) - -(n : Int) = (n : Int) := by omega
    rw [e2]
  show tl (Str.ofString (toString (-(n : Int)))) = _
  rw [e, tl_ofString, String.toList_append, List.map_append, ← tl_ofString, ← tl_ofString]
  rw [show tl (Str.ofString (toString ((n : Nat) : Int))) = numL n from tl_num n]
  rw [show tl (Str.ofString "-") = [45] by decide +kernel]
  rfl
def digs (l : List Nat) : Bool := !l.isEmpty && l.all fun c => decide (48 ≤ c) && decide (c ≤ 57)
theorem digs_iff {l : List Nat} : digs l = true ↔ l ≠ [] ∧ AllDigits l := by
  unfold digs AllDigits
  simp only [Bool.and_eq_true, List.all_eq_true, Bool.not_eq_true', decide_eq_true_eq]
  constructor
  · rintro ⟨h1, h2⟩
    exact ⟨fun e => (by rw [e] at h1; cases h1), h2⟩
  · rintro ⟨h1, h2⟩
    refine ⟨?_, h2⟩
    cases l with
    | nil => exact absurd rfl h1
    | cons a l => rfl
theorem digs_num (n : Nat) : digs (numL n) = true := digs_iff.mpr ⟨numL_ne n, numL_digits n⟩
def negT (t : Str) : Bool := (tl t).head? == some 45
def figs (t : Str) : List Nat := if negT t = true then (tl t).tail else tl t
def integerIn (t : Str) : Option Int := if digs (figs t) = true then some (if negT t = true then -(digitsVal (figs t) : Nat) else (digitsVal (figs t) : Nat)) else none
theorem integerIn_text (i : Int) : integerIn (intText i) = some i := by
  unfold integerIn figs negT
  by_cases h : 0 ≤ i
  · obtain ⟨n, rfl⟩ := Int.eq_ofNat_of_zero_le h
    rw [tl_nat]
    have hh : ((numL n).head? == some 45) = false := by
      cases e : numL n with
      | nil => rfl
      | cons c r =>
        have := numL_digits n c (by rw [e]; exact List.mem_cons_self ..)
        rw [List.head?_cons, beq_eq_false_iff_ne]
        intro z
        injection z with z
        omega
    simp only [hh, Bool.false_eq_true, if_false, digs_num, if_true, numL_val]
  · obtain ⟨n, hn⟩ := Int.eq_ofNat_of_zero_le (a := -i) (by omega)
    have e : i = -(n : Int) := by omega
    subst e
    rw [tl_neg (by omega)]
    have hh : ((45 :: numL n).head? == some 45) = true := rfl
    rw [hh, if_pos rfl, List.tail_cons, if_pos (digs_num n), if_pos rfl, numL_val]
theorem intText_of {t : Str} {i : Int} (h : integerIn t = some i) (hl : t.length ≤ 4300) : PySem.intText? t = some i := by
  unfold integerIn at h
  split at h
  · rename_i hd
    obtain ⟨h1, h2⟩ := digs_iff.mp hd
    cases h
    unfold figs at h1 h2 ⊢
    cases hn : negT t with
    | true =>
      rw [hn, if_pos rfl] at h1 h2
      rw [if_pos rfl, if_pos rfl]
      unfold negT at hn
      cases e : tl t with
      | nil => rw [e] at hn; cases hn
      | cons c r =>
        rw [e] at hn h1 h2
        have e1 : c = 45 := by
          have z : some c = some 45 := eq_of_beq hn
          injection z
        subst e1
        exact intText_neg e h2 h1 hl
    | false =>
      rw [hn, if_neg (by simp)] at h1 h2
      rw [if_neg (by simp), if_neg (by simp)]
      exact intText_digits h2 h1 hl
  · cases h
theorem foldDig_lt : ∀ (l : List Nat) (a : Nat), AllDigits l → l.foldl (fun acc c => acc * 10 + (c - 48)) a < (a + 1) * 10 ^ l.length
  | [], a, _ => by simp
  | c :: r, a, h => by
    have ih := foldDig_lt r (a * 10 + (c - 48)) h.tail
    have hc := h.head
    rw [List.foldl_cons, List.length_cons, Nat.pow_succ]
    have h2 : a * 10 + (c - 48) + 1 ≤ (a + 1) * 10 := by omega
    have h3 : (a * 10 + (c - 48) + 1) * 10 ^ r.length ≤ (a + 1) * 10 * 10 ^ r.length := Nat.mul_le_mul_right _ h2
    have h4 : (a + 1) * 10 * 10 ^ r.length = (a + 1) * (10 ^ r.length * 10) := by rw [Nat.mul_assoc, Nat.mul_comm 10]
    omega
theorem digitsVal_lt {l : List Nat} (h : AllDigits l) : digitsVal l < 10 ^ l.length := by
  have z := foldDig_lt l 0 h
  unfold digitsVal
  omega
theorem integerIn_lt {t : Str} {i : Int} (h : integerIn t = some i) : i.natAbs < 10 ^ t.length := by
  unfold integerIn at h
  split at h
  · rename_i hd
    obtain ⟨h1, h2⟩ := digs_iff.mp hd
    cases h
    have h3 := digitsVal_lt h2
    have h4 : (figs t).length ≤ t.length := by
      rw [len_tl]
      unfold figs
      split
      · rw [List.length_tail]; omega
      · exact Nat.le_refl _
    have h5 : 10 ^ (figs t).length ≤ 10 ^ t.length := Nat.pow_le_pow_right (by omega) h4
    split <;> omega
  · cases h
/-- short enough to be written -/
theorem log_lt {i : Int} {k : Nat} (h : i.natAbs < 10 ^ k) (hk : k ≤ 570) : i.natAbs.log2 < 1920 := by
  by_cases h0 : i.natAbs = 0
  · rw [h0]; decide
  · rw [Nat.log2_lt h0]
    have h1 : 10 ^ k ≤ 10 ^ 570 := Nat.pow_le_pow_right (by omega) hk
    have h2 : (10 : Nat) ^ 570 < 2 ^ 1920 := by decide +kernel
    omega
theorem int_signs (i : Int) : ∀ c ∈ tl (intText i), c = 45 ∨ (48 ≤ c ∧ c ≤ 57) := by
  by_cases h : 0 ≤ i
  · obtain ⟨n, rfl⟩ := Int.eq_ofNat_of_zero_le h
    rw [tl_nat]
    exact fun c hc => .inr (numL_digits n c hc)
  · obtain ⟨n, hn⟩ := Int.eq_ofNat_of_zero_le (a := -i) (by omega)
    have e : i = -(n : Int) := by omega
    subst e
    rw [tl_neg (by omega)]
    intro c hc
    rcases List.mem_cons.mp hc with rfl | hc
    · exact .inl rfl
    · exact .inr (numL_digits n c hc)
theorem int_head (i : Int) : ∃ c r, tl (intText i) = c :: r ∧ (c = 45 → r ≠ []) ∧ (c = 45 ∨ (48 ≤ c ∧ c ≤ 57)) := by
  by_cases h : 0 ≤ i
  · obtain ⟨n, rfl⟩ := Int.eq_ofNat_of_zero_le h
    rw [tl_nat]
    cases e : numL n with
    | nil => exact absurd e (numL_ne n)
    | cons c r =>
      have := numL_digits n c (by rw [e]; exact List.mem_cons_self ..)
      exact ⟨c, r, rfl, fun z => by omega, .inr this⟩
  · obtain ⟨n, hn⟩ := Int.eq_ofNat_of_zero_le (a := -i) (by omega)
    have e : i = -(n : Int) := by omega
    subst e
    rw [tl_neg (by omega)]
    exact ⟨45, numL n, rfl, fun _ => numL_ne n, .inl rfl⟩

/-! ### lists of integers -/
def mapO {α β : Type} (f : α → Option β) : List α → Option (List β)
  | [] => some []
  | x :: r => match f x with
    | none => none
    | some y => match mapO f r with
      | none => none
      | some ys => some (y :: ys)
theorem mapO_map {α β : Type} {f : α → Option β} {g : β → α} (h : ∀ y, f (g y) = some y) : ∀ ys : List β, mapO f (ys.map g) = some ys
  | [] => rfl
  | y :: ys => by
    show (match f (g y) with | none => none | some y => match mapO f (ys.map g) with | none => none | some ys => some (y :: ys)) = _
    rw [h y, mapO_map h ys]
theorem mapO_mem {α β : Type} {f : α → Option β} : ∀ {xs : List α} {ys : List β}, mapO f xs = some ys → xs.length = ys.length ∧ ∀ y ∈ ys, ∃ x ∈ xs, f x = some y
  | [], ys, h => by cases h; exact ⟨rfl, fun y hy => by cases hy⟩
  | x :: xs, ys, h => by
    unfold mapO at h
    split at h
    · cases h
    · rename_i y hy
      split at h
      · cases h
      · rename_i zs hz
        cases h
        obtain ⟨h1, h2⟩ := mapO_mem hz
        refine ⟨by rw [List.length_cons, List.length_cons, h1], fun z hm => ?_⟩
        rcases List.mem_cons.mp hm with rfl | hm
        · exact ⟨x, List.mem_cons_self .., hy⟩
        · obtain ⟨w, m, e⟩ := h2 z hm
          exact ⟨w, List.mem_cons_of_mem _ m, e⟩
def valuesText (is : List Int) : Str := if is = [] then A "-" else Txt.join (A " ") (is.map intText)
def valuesIn (t : Str) : Option (List Int) := if t = A "-" then some [] else mapO integerIn (Txt.split t (A " "))
theorem ints_join_head (y : Str) (i : Int) (r : List Int) : ∃ c q, tl (Txt.join y ((i :: r).map intText)) = c :: q ∧ (c = 45 → q ≠ []) ∧ (c = 45 ∨ (48 ≤ c ∧ c ≤ 57)) := by
  obtain ⟨t, et⟩ := join_cons y (intText i) (r.map intText)
  obtain ⟨c, q, ec, h1, h2⟩ := int_head i
  rw [ec] at et
  refine ⟨c, q ++ t, et, fun e z => h1 e ?_, h2⟩
  exact (List.append_eq_nil_iff.mp z).1
theorem values_round (is : List Int) : valuesIn (valuesText is) = some is := by
  cases is with
  | nil => rfl
  | cons i r =>
    have e0 : valuesText (i :: r) = Txt.join (A " ") ((i :: r).map intText) := if_neg (by simp)
    have e1 : Txt.join (A " ") ((i :: r).map intText) ≠ A "-" := by
      intro e
      obtain ⟨c, q, ec, h1, h2⟩ := ints_join_head (A " ") i r
      rw [e, tl_dash] at ec
      injection ec with e1 e2
      exact h1 e1.symm e2.symm
    rw [e0]
    unfold valuesIn
    rw [if_neg e1, split_join (s := 32) (S := []) tl_sp (by decide +kernel) (by simp) fun p hp => ?_]
    · exact mapO_map integerIn_text _
    · obtain ⟨x, hx, rfl⟩ := List.mem_map.mp hp
      intro m
      have := int_signs x 32 m
      omega
/-! ### keeps -/
def ascI : List Int → Bool
  | x :: y :: r => decide (x < y) && ascI (y :: r)
  | _ => true
def areIdx (is : List Int) : Bool := is.all (fun i => decide (0 ≤ i) && decide (i < 200)) && ascI is
def keepText (is : List Int) : Str := if is = [] then A "none" else valuesText is
def keepFound (t : Str) : Option (List Int) := if t = A "none" then some [] else valuesIn t
def keepIn (t : Str) : Option (List Int) := match keepFound t with
  | none => none
  | some is => if areIdx is = true ∧ t = keepText is then some is else none
theorem keepIn_some {t : Str} {is : List Int} (h : keepIn t = some is) : areIdx is = true ∧ keepText is = t ∧ keepFound t = some is := by
  unfold keepIn at h
  split at h
  · cases h
  · rename_i js hj
    split at h
    · rename_i k; cases h; exact ⟨k.1, k.2.symm, hj⟩
    · cases h
theorem keep_round {is : List Int} (h : areIdx is = true) : keepIn (keepText is) = some is := by
  have e : keepFound (keepText is) = some is := by
    cases is with
    | nil => rfl
    | cons i r =>
      have e0 : keepText (i :: r) = valuesText (i :: r) := if_neg (by simp)
      have e2 : valuesText (i :: r) = Txt.join (A " ") ((i :: r).map intText) := if_neg (by simp)
      have e1 : valuesText (i :: r) ≠ A "none" := by
        intro e
        rw [e2] at e
        obtain ⟨c, q, ec, h1, h2⟩ := ints_join_head (A " ") i r
        rw [e, show tl (A "none") = 110 :: tl (A "one") by decide +kernel] at ec
        injection ec with e1 e2
        omega
      rw [e0]
      unfold keepFound
      rw [if_neg e1, values_round]
  unfold keepIn
  rw [e]
  exact if_pos ⟨h, rfl⟩

/-! ### amounts -/
inductive Kd where
  | sums
  | classes (k : Nat)
  | odds
deriving DecidableEq
def sepK : Kd → Str
  | .odds => A ":"
  | _ => A "/"
def amountText (kd : Kd) (is : List Int) : Str := Txt.join (sepK kd) (is.map intText)
def isAmt (kd : Kd) (is : List Int) : Bool := match kd with
  | .sums => decide (is.length = 1)
  | .classes k => decide (is.length = k)
  | .odds => match is with
    | [a, b] => decide (0 < a) && decide (0 < b) && decide (Int.gcd a b = 1)
    | _ => false
def amountFound (kd : Kd) (t : Str) : Option (List Int) := if kd = .sums then (integerIn t).map fun i => [i] else mapO integerIn (Txt.split t (sepK kd))
def amountIn (kd : Kd) (t : Str) : Option (List Int) := match amountFound kd t with
  | none => none
  | some is => if isAmt kd is = true ∧ t = amountText kd is then some is else none
theorem amountIn_some {kd : Kd} {t : Str} {is : List Int} (h : amountIn kd t = some is) : isAmt kd is = true ∧ amountText kd is = t ∧ amountFound kd t = some is := by
  unfold amountIn at h
  split at h
  · cases h
  · rename_i js hj
    split at h
    · rename_i k; cases h; exact ⟨k.1, k.2.symm, hj⟩
    · cases h
theorem amount_round {kd : Kd} {is : List Int} (h : isAmt kd is = true) (hne : is ≠ []) : amountIn kd (amountText kd is) = some is := by
  have e : amountFound kd (amountText kd is) = some is := by
    unfold amountFound
    split
    · rename_i hk
      subst hk
      have hl : is.length = 1 := by simpa [isAmt] using h
      match is, hl with
      | [i], _ =>
        show (integerIn (Txt.join (sepK .sums) [intText i])).map (fun i => [i]) = _
        have e1 : Txt.join (sepK .sums) [intText i] = intText i := ext_tl (by rw [tl_joinT]; rfl)
        rw [e1, integerIn_text]; rfl
    · have hs : ∃ s, tl (sepK kd) = [s] ∧ (s = 47 ∨ s = 58) ∧ (sepK kd).cps.all (· < 256) = true := by
        cases kd with
        | odds => exact ⟨58, by decide +kernel, .inr rfl, by decide +kernel⟩
        | sums => exact ⟨47, by decide +kernel, .inl rfl, by decide +kernel⟩
        | classes k => exact ⟨47, by show tl (A "/") = _; decide +kernel, .inl rfl, by show (A "/").cps.all (· < 256) = true; decide +kernel⟩
      obtain ⟨s, es, hs, hk⟩ := hs
      unfold amountText
      rw [split_join (s := s) (S := []) es hk (by simpa using hne) fun p hp => ?_]
      · exact mapO_map integerIn_text _
      · obtain ⟨x, hx, rfl⟩ := List.mem_map.mp hp
        intro m
        have := int_signs x s m
        omega
  unfold amountIn
  rw [e]
  exact if_pos ⟨h, rfl⟩

/-! ### order papers -/
inductive Pap where
  | ch (ss : List Stp)
  | wi (p : Str) (m : List (Str × Str))
def words : List Str := [A "labels", A "row", A "turn", A "triangles"]
def maks : List Str := [A "", A "a", A "ab", A "abc", A "ac", A "b", A "bc", A "c"]
abbrev keysOf (m : List (Str × Str)) : List Str := m.map (·.1)
def look (m : List (Str × Str)) (k : Str) : Option Str := (m.find? fun kv => decide (kv.1 = k)).map (·.2)
def areMaks (m : List (Str × Str)) : Bool := m.all (fun kv => isName kv.1) && areCols (DL.sortS (keysOf m)) && m.all (fun kv => maks.contains kv.2)
def isWi (p : Str) (m : List (Str × Str)) : Bool := words.contains p && areMaks m
def makText (v : Str) : Str := if v = A "" then A "-" else v
def rowText (m : List (Str × Str)) (k : Str) : Str := k ++ A " " ++ makText ((look m k).getD (A ""))
def told (m : List (Str × Str)) : Str := if DL.sortS (keysOf m) = [] then A "-" else Txt.join (A ", ") ((DL.sortS (keysOf m)).map (rowText m))
def wiText (p : Str) (m : List (Str × Str)) : Str := A "witness" ++ A " " ++ p ++ A ": " ++ told m
def papText : Pap → Str
  | .ch ss => A "chain" ++ A " " ++ stepsText ss
  | .wi p m => wiText p m
def isPap : Pap → Bool
  | .ch ss => ss.all isForm
  | .wi p m => isWi p m
def makIn (t : Str) : Str × Str := ((Txt.partition t (A " ")).1, if (Txt.partition t (A " ")).2.2 = A "-" then A "" else (Txt.partition t (A " ")).2.2)
def putS (m : List (Str × Str)) (k v : Str) : List (Str × Str) := if (m.any fun kv => decide (kv.1 = k)) = true then m.map (fun kv => if kv.1 = k then (kv.1, v) else kv) else m ++ [(k, v)]
def mergeS (m more : List (Str × Str)) : List (Str × Str) := more.foldl (fun acc kv => putS acc kv.1 kv.2) m
def maksFound (t : Str) : List (Str × Str) := if t = A "-" then [] else mergeS [] ((Txt.split t (A ", ")).map makIn)
def orderIn (t : Str) : Option Pap :=
  if (Txt.partition t (A " ")).1 = A "chain" then (stepsIn (Txt.partition t (A " ")).2.2).map Pap.ch
  else if (Txt.partition t (A " ")).1 = A "witness" ∧ isWi (Txt.partition (Txt.partition t (A " ")).2.2 (A ": ")).1 (maksFound (Txt.partition (Txt.partition t (A " ")).2.2 (A ": ")).2.2) = true ∧
      t = wiText (Txt.partition (Txt.partition t (A " ")).2.2 (A ": ")).1 (maksFound (Txt.partition (Txt.partition t (A " ")).2.2 (A ": ")).2.2)
    then some (.wi (Txt.partition (Txt.partition t (A " ")).2.2 (A ": ")).1 (maksFound (Txt.partition (Txt.partition t (A " ")).2.2 (A ": ")).2.2))
    else none
theorem part_cases (t y : Str) : (Txt.partition t y).2.1 = y ∨ (Txt.partition t y).2.2 = Str.empty := by
  rcases PyProof.Rows.partition_whole t y with ⟨e, _⟩ | ⟨i, e, _⟩
  · right; rw [e]
  · left; rw [e]
theorem orderIn_some {t : Str} {q : Pap} (h : orderIn t = some q) : isPap q = true ∧ papText q = t := by
  unfold orderIn at h
  split at h
  · rename_i hw
    cases e : stepsIn (Txt.partition t (A " ")).2.2 with
    | none => rw [e] at h; cases h
    | some ss =>
      rw [e] at h
      cases h
      obtain ⟨h1, h2⟩ := stepsIn_some e
      refine ⟨h1, ?_⟩
      show A "chain" ++ A " " ++ stepsText ss = t
      have hs := StrLaws.partition_sum t (A " ")
      rcases part_cases t (A " ") with h3 | h3
      · rw [h3, hw] at hs
        rw [h2]
        exact hs
      · rw [h3] at e
        have z : (stepsIn Str.empty).isNone = true := by decide +kernel
        rw [e] at z
        cases z
  · split at h
    · rename_i k
      cases h
      exact ⟨k.2.1, k.2.2.symm⟩
    · cases h
theorem chain_round {ss : List Stp} (h : ss.all isForm = true) : orderIn (A "chain" ++ A " " ++ stepsText ss) = some (.ch ss) := by
  have e : Txt.partition (A "chain" ++ A " " ++ stepsText ss) (A " ") = (A "chain", A " ", stepsText ss) := partition_app (s := 32) (S := []) tl_sp (by decide +kernel)
  unfold orderIn
  rw [e, if_pos rfl, steps_round h]
  rfl
theorem look_cons (k v : Str) (m : List (Str × Str)) (j : Str) : look ((k, v) :: m) j = if k = j then some v else look m j := by
  unfold look
  by_cases h : k = j
  · rw [if_pos h, List.find?_cons_of_pos (by simpa using h)]; rfl
  · rw [if_neg h, List.find?_cons_of_neg (by simpa using h)]
theorem look_mem : ∀ {m : List (Str × Str)} {k : Str}, k ∈ keysOf m → ∃ v, look m k = some v ∧ (k, v) ∈ m
  | [], k, h => by cases h
  | (j, w) :: m, k, h => by
    rw [look_cons]
    by_cases e : j = k
    · subst e
      exact ⟨w, if_pos rfl, List.mem_cons_self ..⟩
    · rw [if_neg e]
      have h2 : k ∈ keysOf m := by
        rcases List.mem_cons.mp h with h | h
        · exact absurd h.symm e
        · exact h
      obtain ⟨v, h3, h4⟩ := look_mem h2
      exact ⟨v, h3, List.mem_cons_of_mem _ h4⟩
theorem look_tab (f : Str → Str) : ∀ {ks : List Str} {k : Str}, k ∈ ks → look (ks.map fun j => (j, f j)) k = some (f k)
  | [], k, h => by cases h
  | j :: ks, k, h => by
    rw [List.map_cons, look_cons]
    by_cases e : j = k
    · subst e
      exact if_pos rfl
    · rw [if_neg e]
      rcases List.mem_cons.mp h with h | h
      · exact absurd h.symm e
      · exact look_tab f h
theorem merge_new : ∀ (l acc : List (Str × Str)), (keysOf l).Nodup → (∀ k ∈ keysOf l, k ∉ keysOf acc) → mergeS acc l = acc ++ l
  | [], acc, _, _ => by simp [mergeS]
  | (k, v) :: l, acc, nd, hd => by
    have h1 : putS acc k v = acc ++ [(k, v)] := by
      unfold putS
      rw [if_neg]
      intro h
      rw [List.any_eq_true] at h
      obtain ⟨kv, hm, he⟩ := h
      exact hd k (List.mem_cons_self ..) (by
        have := of_decide_eq_true he
        rw [← this]
        exact List.mem_map_of_mem hm)
    have nd' := List.nodup_cons.mp nd
    show mergeS (putS acc k v) l = _
    rw [h1, merge_new l _ nd'.2, List.append_assoc]
    · rfl
    · intro j hj hm
      rw [keysOf, List.map_append, List.mem_append] at hm
      rcases hm with hm | hm
      · exact hd j (List.mem_cons_of_mem _ hj) hm
      · simp at hm
        subst hm
        exact nd'.1 hj
theorem sort_asc : ∀ {xs : List Str}, ascS xs = true → DL.sortS xs = xs
  | [], _ => rfl
  | [x], _ => rfl
  | x :: y :: r, h => by
    have h : (ltS x y && ascS (y :: r)) = true := h
    rw [Bool.and_eq_true] at h
    have ih := sort_asc h.2
    show DL.insS x (DL.sortS (y :: r)) = _
    rw [ih]
    unfold DL.insS
    rw [if_neg]
    intro z
    have h1 : tl x < tl y := of_decide_eq_true h.1
    rw [PyProof.Rows.ltCps_eq] at z
    have h2 : tl y < tl x := of_decide_eq_true z
    exact List.lt_irrefl _ (List.lt_trans h1 h2)
theorem mak_ok {v : Str} (h : maks.contains v = true) : makText v ≠ A "" ∧ (if makText v = A "-" then A "" else makText v) = v ∧ 44 ∉ tl (makText v) := by
  have h : v ∈ maks := by simpa using h
  have key : ∀ v ∈ maks, makText v ≠ A "" ∧ (if makText v = A "-" then A "" else makText v) = v ∧ 44 ∉ tl (makText v) := by decide +kernel
  exact key v h
theorem asc_nodup_keys {m : List (Str × Str)} (h : areMaks m = true) : (DL.sortS (keysOf m)).all isName = true ∧ ascS (DL.sortS (keysOf m)) = true := by
  simp only [areMaks, areCols, Bool.and_eq_true] at h
  exact ⟨h.1.2.1.2, h.1.2.2⟩
theorem asc_pw : ∀ {xs : List Str}, ascS xs = true → xs.Pairwise fun x y => tl x < tl y
  | [], _ => .nil
  | [x], _ => by simp
  | x :: y :: r, h => by
    have h : (ltS x y && ascS (y :: r)) = true := h
    rw [Bool.and_eq_true] at h
    have ih := asc_pw h.2
    have h1 : tl x < tl y := of_decide_eq_true h.1
    refine List.pairwise_cons.mpr ⟨fun z hz => ?_, ih⟩
    rcases List.mem_cons.mp hz with rfl | hz
    · exact h1
    · exact List.lt_trans h1 ((List.pairwise_cons.mp ih).1 z hz)
theorem pw_asc : ∀ {xs : List Str}, (xs.Pairwise fun x y => tl x < tl y) → ascS xs = true
  | [], _ => rfl
  | [x], _ => rfl
  | x :: y :: r, h => by
    have h' := List.pairwise_cons.mp h
    show (ltS x y && ascS (y :: r)) = true
    rw [pw_asc h'.2, Bool.and_true]
    exact decide_eq_true (h'.1 y (List.mem_cons_self ..))
theorem pw_nodup {xs : List Str} (h : xs.Pairwise fun x y => tl x < tl y) : xs.Nodup := h.imp fun hxy e => by
  subst e
  exact List.lt_irrefl _ hxy
/-- the makings as they are read again -/
def tab (m : List (Str × Str)) : List (Str × Str) := (DL.sortS (keysOf m)).map fun k => (k, (look m k).getD (A ""))
theorem keys_tab (m : List (Str × Str)) : keysOf (tab m) = DL.sortS (keysOf m) := by
  unfold keysOf tab
  rw [List.map_map]
  have e : ∀ x ∈ DL.sortS (m.map (·.1)), ((fun kv : Str × Str => kv.1) ∘ fun k => (k, (look m k).getD (A ""))) x = id x := fun x _ => rfl
  rw [List.map_congr_left e, List.map_id]
theorem look_tab' {m : List (Str × Str)} {k : Str} (h : k ∈ DL.sortS (keysOf m)) : look (tab m) k = some ((look m k).getD (A "")) := look_tab (fun k => (look m k).getD (A "")) h
theorem areMaks_tab {m : List (Str × Str)} (h : areMaks m = true) : areMaks (tab m) = true := by
  obtain ⟨h1, h2⟩ := asc_nodup_keys h
  have h0 := h
  simp only [areMaks, Bool.and_eq_true, List.all_eq_true] at h ⊢
  rw [List.all_eq_true] at h1
  refine ⟨⟨fun kv hkv => ?_, ?_⟩, fun kv hkv => ?_⟩
  · have : kv.1 ∈ keysOf (tab m) := List.mem_map_of_mem hkv
    rw [keys_tab] at this
    exact h1 _ this
  · rw [keys_tab, sort_asc h2]
    exact h.1.2
  · obtain ⟨k, hk, rfl⟩ := List.mem_map.mp hkv
    obtain ⟨v, e, hm⟩ := look_mem ((DL.sortS_perm (keysOf m)).mem_iff.mp hk)
    show maks.contains ((look m k).getD (A "")) = true
    rw [e]
    exact h.2 _ hm
theorem told_tab {m : List (Str × Str)} (h : areMaks m = true) : told (tab m) = told m := by
  obtain ⟨h1, h2⟩ := asc_nodup_keys h
  unfold told
  rw [keys_tab, sort_asc h2]
  have e : ∀ k ∈ DL.sortS (keysOf m), rowText (tab m) k = rowText m k := fun k hk => by
    unfold rowText
    rw [look_tab' hk]
    rfl
  rw [List.map_congr_left e]
theorem row_signs {m : List (Str × Str)} (h : areMaks m = true) {k : Str} (hk : k ∈ DL.sortS (keysOf m)) :
    makIn (rowText m k) = (k, (look m k).getD (A "")) ∧ 44 ∉ tl (rowText m k) ∧ ∃ c r, tl (rowText m k) = c :: r ∧ c ≠ 45 := by
  obtain ⟨h1, h2⟩ := asc_nodup_keys h
  rw [List.all_eq_true] at h1
  have hn := h1 k hk
  obtain ⟨v, e, hm⟩ := look_mem ((DL.sortS_perm (keysOf m)).mem_iff.mp hk)
  have hv : maks.contains v = true := by
    simp only [areMaks, Bool.and_eq_true, List.all_eq_true] at h
    exact h.2 _ hm
  obtain ⟨m1, m2, m3⟩ := mak_ok hv
  unfold rowText makIn
  rw [e]
  have ep : Txt.partition (k ++ A " " ++ makText ((some v).getD (A ""))) (A " ") = (k, A " ", makText v) := partition_app (s := 32) (S := []) tl_sp (name_free hn (by omega))
  rw [ep]
  refine ⟨by rw [m2]; rfl, ?_, ?_⟩
  · simp only [tl_append, List.mem_append, tl_sp, List.mem_singleton]
    rintro ((z | z) | z)
    · exact name_free hn (by omega) z
    · omega
    · exact m3 z
  · obtain ⟨c, r, ec, hc⟩ := name_head hn
    refine ⟨c, r ++ (tl (A " ") ++ tl (makText ((some v).getD (A "")))), ?_, by omega⟩
    rw [tl_append, tl_append, ec, List.append_assoc]
    rfl
theorem maks_round {m : List (Str × Str)} (h : areMaks m = true) : maksFound (told m) = tab m := by
  obtain ⟨h1, h2⟩ := asc_nodup_keys h
  unfold maksFound told
  by_cases e : DL.sortS (keysOf m) = []
  · rw [if_pos e, if_pos rfl]
    unfold tab
    rw [e]
    rfl
  · rw [if_neg e]
    rw [if_neg, split_join (s := 44) (S := [32]) (by decide +kernel) (by decide +kernel) (by simpa using e) fun p hp => ?_]
    · rw [List.map_map]
      have e2 : ∀ k ∈ DL.sortS (keysOf m), (makIn ∘ rowText m) k = (k, (look m k).getD (A "")) := fun k hk => (row_signs h hk).1
      rw [List.map_congr_left e2]
      show mergeS [] (tab m) = tab m
      rw [merge_new _ _ (by rw [keys_tab]; exact pw_nodup (asc_pw h2)) (fun k _ hk => by cases hk), List.nil_append]
    · obtain ⟨k, hk, rfl⟩ := List.mem_map.mp hp
      exact (row_signs h hk).2.1
    · intro z
      cases e3 : DL.sortS (keysOf m) with
      | nil => exact e e3
      | cons k r =>
        rw [e3, List.map_cons] at z
        obtain ⟨t, et⟩ := join_cons (A ", ") (rowText m k) (r.map (rowText m))
        obtain ⟨c, q, ec, hc⟩ := (row_signs h (k := k) (by rw [e3]; exact List.mem_cons_self ..)).2.2
        rw [z, ec, tl_dash] at et
        injection et with e4 _
        exact hc e4.symm
theorem witness_round {p : Str} {m : List (Str × Str)} (h : isWi p m = true) : orderIn (wiText p m) = some (.wi p (tab m)) := by
  simp only [isWi, Bool.and_eq_true] at h
  have hp : 58 ∉ tl p := by
    have h1 : p ∈ words := by simpa using h.1
    have key : ∀ p ∈ words, 58 ∉ tl p := by decide +kernel
    exact key p h1
  have e1 : Txt.partition (wiText p m) (A " ") = (A "witness", A " ", p ++ A ": " ++ told m) := by
    have e : wiText p m = A "witness" ++ A " " ++ (p ++ A ": " ++ told m) := by
      unfold wiText
      simp only [app_assoc]
    rw [e]
    exact partition_app (s := 32) (S := []) tl_sp (by decide +kernel)
  have e2 : Txt.partition (p ++ A ": " ++ told m) (A ": ") = (p, A ": ", told m) := partition_app (s := 58) (S := [32]) (by decide +kernel) hp
  have e3 : wiText p (tab m) = wiText p m := by
    unfold wiText
    rw [told_tab h.2]
  have hw : isWi p (tab m) = true := by
    simp only [isWi, Bool.and_eq_true]
    exact ⟨h.1, areMaks_tab h.2⟩
  unfold orderIn
  rw [e1, if_neg (show A "witness" ≠ A "chain" by decide +kernel)]
  simp only [e2, maks_round h.2, e3, hw, and_self, if_true]
end TX

-- PC1
/-! PC1: running the mirrors. -/
namespace DL
open PySem PySem.Spec PyProof.Rows L2

@[simp] theorem Res.bind_ok {α β : Type} (a : α) (μ : Mu) (k : α → Mu → Res β) : (Res.ok a μ).bind k = k a μ := (rfl)
@[simp] theorem Res.bind_ex {α β : Type} (x : String) (μ : Mu) (k : α → Mu → Res β) : (Res.ex x μ : Res α).bind k = .ex x μ := (rfl)
@[simp] theorem Res.bind_bad {α β : Type} (k : α → Mu → Res β) : (Res.bad : Res α).bind k = .bad := (rfl)
@[simp] theorem Res.nx_ok {α : Type} (a : α) (μ : Mu) : (Res.ok a μ).nx = .ok a μ := (rfl)
@[simp] theorem Res.exT_ok {α : Type} (n : Nat) (a : α) (μ : Mu) : (Res.ok a μ).exT n = .ok a μ := (rfl)
@[simp] theorem Res.exT_ex {α : Type} (n : Nat) (x : String) (μ : Mu) : (Res.ex x μ : Res α).exT n = .ex x (μ.take n) := (rfl)
@[simp] theorem e_vw (y : Dat) (μ : Mu) : vw (.d y) μ = some y := (rfl)
@[simp] theorem e_ofO (d : Dat) (μ : Mu) : ofO (some d) μ = .ok (.d d) μ := (rfl)
@[simp] theorem e_ofB (d : Bool) (μ : Mu) : ofB (some d) μ = .ok d μ := (rfl)
@[simp] theorem e_var (i : Nat) (ρ : En) (μ : Mu) : fVar i ρ μ = (match ρ.sl[i]? with | some (some x) => .ok x μ | _ => .bad) := (rfl)
@[simp] theorem e_c (d : Dat) (ρ : En) (μ : Mu) : fC d ρ μ = .ok (.d d) μ := (rfl)
@[simp] theorem e_bin (op : O2) (fa fb : EM) (ρ : En) (μ : Mu) : fBin op fa fb ρ μ = ((fa ρ μ).bind fun x μ1 => (fb ρ μ1).bind fun y μ2 => o2 op x y μ2) := (rfl)
@[simp] theorem e_o2 (op : O2) (a b : Dat) (μ : Mu) : o2 op (.d a) (.d b) μ = ofO (op a b) μ := (rfl)
@[simp] theorem e_asB (b : Bool) (μ : Mu) : asB (.d (.bl b)) μ = .ok b μ := (rfl)
@[simp] theorem e_B (f : EM) (ρ : En) (μ : Mu) : fB f ρ μ = ((f ρ μ).bind fun x μ1 => asB x μ1) := (rfl)
@[simp] theorem e_ch (op op' : O2) (fa fb fc : EM) (ρ : En) (μ : Mu) : fCh op op' fa fb fc ρ μ = ((fa ρ μ).bind fun x μ1 => (fb ρ μ1).bind fun y μ2 => (o2 op x y μ2).bind fun z μ3 => (asB z μ3).bind fun k μ4 => match k with
  | true => (fc ρ μ4).bind fun w μ5 => o2 op' y w μ5
  | false => .ok (.d (.bl false)) μ4) := (rfl)
@[simp] theorem e_tru (f : EM) (ρ : En) (μ : Mu) : fTru f ρ μ = ((f ρ μ).bind fun x μ1 => match vw x μ1 with
  | some d => ofB (truD d) μ1
  | none => .bad) := (rfl)
@[simp] theorem e_truBl (b : Bool) : truD (.bl b) = some b := (rfl)
@[simp] theorem e_band (f g : BM) (ρ : En) (μ : Mu) : bAnd f g ρ μ = ((f ρ μ).bind fun b μ1 => match b with
  | true => g ρ μ1
  | false => .ok false μ1) := (rfl)
@[simp] theorem e_bor (f g : BM) (ρ : En) (μ : Mu) : bOr f g ρ μ = ((f ρ μ).bind fun b μ1 => match b with
  | true => .ok true μ1
  | false => g ρ μ1) := (rfl)
@[simp] theorem e_bnot (f : BM) (ρ : En) (μ : Mu) : bNot f ρ μ = ((f ρ μ).bind fun b μ1 => .ok (!b) μ1) := (rfl)
@[simp] theorem e_tru1 (d : Dat) (μ : Mu) : tru1 (.d d) μ = ofB (truD d) μ := (rfl)
@[simp] theorem e_and (fa fb : EM) (ρ : En) (μ : Mu) : fAnd fa fb ρ μ = ((fa ρ μ).bind fun x μ1 => (tru1 x μ1).bind fun k μ2 => match k with
  | true => fb ρ μ2
  | false => .ok x μ2) := (rfl)
@[simp] theorem e_or (fa fb : EM) (ρ : En) (μ : Mu) : fOr fa fb ρ μ = ((fa ρ μ).bind fun x μ1 => (tru1 x μ1).bind fun k μ2 => match k with
  | true => .ok x μ2
  | false => fb ρ μ2) := (rfl)
@[simp] theorem e_not (fa : EM) (ρ : En) (μ : Mu) : fNot fa ρ μ = ((fa ρ μ).bind fun x μ1 => (tru1 x μ1).bind fun k μ2 => .ok (.d (.bl (!k))) μ2) := (rfl)
@[simp] theorem e_if (t : BM) (fa fb : EM) (ρ : En) (μ : Mu) : fIf t fa fb ρ μ = ((t ρ μ).bind fun k μ1 => match k with
  | true => fa ρ μ1
  | false => fb ρ μ1) := (rfl)
@[simp] theorem e_nil (ρ : En) (μ : Mu) : fNil ρ μ = .ok [] μ := (rfl)
@[simp] theorem e_cons (f : EM) (g : AM) (ρ : En) (μ : Mu) : fCons f g ρ μ = ((f ρ μ).bind fun x μ1 => (g ρ μ1).bind fun xs μ2 => .ok (x :: xs) μ2) := (rfl)
@[simp] theorem e_asD (ρ : En) (d : Dat) (μ : Mu) : asD ρ (.d d) μ = some (d, μ) := (rfl)
@[simp] theorem e_z (f : EM) (ρ : En) (μ : Mu) : fZ f ρ μ = ((f ρ μ).bind fun x μ1 => match asD ρ x μ1 with
  | some (d, μ2) => .ok (.d d) μ2
  | none => .bad) := (rfl)
@[simp] theorem e_call (n : Nat) (Fn : FnM) (fa : AM) (ρ : En) (μ : Mu) : fCall n Fn fa ρ μ = ((fa ρ μ).bind fun xs μ1 => if xs.length = n then Fn xs μ1 else .bad) := (rfl)
@[simp] theorem e_sE (f : EM) (k : SV → En → Mu → SO) (ρ : En) (μ : Mu) : sE f k ρ μ = (match f ρ μ with
  | .ok x μ1 => k x ρ μ1
  | .ex nm μ1 => .ex nm ρ μ1
  | .bad => .bad) := (rfl)
@[simp] theorem e_sT (f : BM) (k : Bool → En → Mu → SO) (ρ : En) (μ : Mu) : sT f k ρ μ = (match f ρ μ with
  | .ok x μ1 => k x ρ μ1
  | .ex nm μ1 => .ex nm ρ μ1
  | .bad => .bad) := (rfl)
@[simp] theorem e_sNx (ρ : En) (μ : Mu) : sNx ρ μ = .nx ρ μ := (rfl)
@[simp] theorem e_seq (a b : SM) (ρ : En) (μ : Mu) : sSeq a b ρ μ = (match a ρ μ with
  | .nx ρ1 μ1 => b ρ1 μ1
  | .rt x μ1 => .rt x μ1
  | .bk ρ1 μ1 => .bk ρ1 μ1
  | .ct ρ1 μ1 => .ct ρ1 μ1
  | .ex x ρ1 μ1 => .ex x ρ1 μ1
  | .bad => .bad) := (rfl)
@[simp] theorem e_sIf (c : BM) (a b : SM) (ρ : En) (μ : Mu) : sIf c a b ρ μ = (match c ρ μ with
  | .ok x μ1 => (match x with
    | true => a ρ μ1
    | false => b ρ μ1)
  | .ex nm μ1 => .ex nm ρ μ1
  | .bad => .bad) := (rfl)
@[simp] theorem e_sRet (f : EM) (ρ : En) (μ : Mu) : sRet f ρ μ = (match f ρ μ with
  | .ok x μ1 => .rt x μ1
  | .ex nm μ1 => .ex nm ρ μ1
  | .bad => .bad) := (rfl)
@[simp] theorem e_sDrop (f : EM) (ρ : En) (μ : Mu) : sDrop f ρ μ = (match f ρ μ with
  | .ok x μ1 => .nx ρ μ1
  | .ex nm μ1 => .ex nm ρ μ1
  | .bad => .bad) := (rfl)
@[simp] theorem e_gN (i : Nat) (x : SV) (ρ : En) (μ : Mu) : gN i x ρ μ = some ⟨ρ.sl.set i (some x), ρ.n⟩ := (rfl)
@[simp] theorem e_gO (ρ : En) (μ : Mu) : gO [] ρ μ = some ρ := (rfl)
@[simp] theorem e_gC (g : GM) (h : GsM) (x : SV) (xs : List SV) (ρ : En) (μ : Mu) : gC g h (x :: xs) ρ μ = (match g x ρ μ with
    | some ρ1 => h xs ρ1 μ
    | none => none) := (rfl)
@[simp] theorem e_gT (m : Nat) (h : GsM) (ds : List Dat) (ρ : En) (μ : Mu) : gT m h (.d (.tup ds)) ρ μ = (if ds.length = m then h (ds.map SV.d) ρ μ else none) := (rfl)
@[simp] theorem e_sSet (f : EM) (g : GM) (ρ : En) (μ : Mu) : sSet f g ρ μ = (match f ρ μ with
  | .ok x μ1 => (match g x ρ μ1 with
    | some ρ1 => .nx ρ1 μ1
    | none => .bad)
  | .ex nm μ1 => .ex nm ρ μ1
  | .bad => .bad) := (rfl)
@[simp] theorem e_sPar (i j : Nat) (fa : AM) (ρ : En) (μ : Mu) : sPar i j fa ρ μ = (match fa ρ μ with
  | .ok [x, y] μ1 => .nx ⟨(ρ.sl.set i (some x)).set j (some y), ρ.n⟩ μ1
  | .ok _ _ => .bad
  | .ex nm μ1 => .ex nm ρ μ1
  | .bad => .bad) := (rfl)
@[simp] theorem e_sRaise (nm : String) (ρ : En) (μ : Mu) : sRaise nm ρ μ = .ex nm ρ μ := (rfl)
@[simp] theorem e_cb (f : FD) (fa : AM) (ρ : En) (μ : Mu) : fCb f fa ρ μ = ((fa ρ μ).bind fun xs μ1 => match vws xs μ1 with
  | some ds => ofO (f ds) μ1
  | none => .bad) := (rfl)
@[simp] theorem e_vws0 (μ : Mu) : vws [] μ = some [] := (rfl)
@[simp] theorem e_vws1 (x : SV) (xs : List SV) (μ : Mu) : vws (x :: xs) μ = (match vw x μ, vws xs μ with
    | some d, some ds => some (d :: ds)
    | _, _ => none) := (rfl)
@[simp] theorem e_isi (f : Dat → Option Bool) (fa : EM) (ρ : En) (μ : Mu) : fIsi f fa ρ μ = ((fa ρ μ).bind fun x μ1 => match vw x μ1 with
  | some d => ofO ((f d).map Dat.bl) μ1
  | none => .bad) := (rfl)
@[simp] theorem e_m1 (f : Str → Dat → Option Dat) (fo fe : EM) (ρ : En) (μ : Mu) : fM1 f fo fe ρ μ = ((fo ρ μ).bind fun x μ1 => match x with
  | .d (.str a) => (fe ρ μ1).bind fun y μ2 => (match vw y μ2 with
    | some d => ofO (f a d) μ2
    | none => .bad)
  | _ => .bad) := (rfl)
@[simp] theorem e_fmt (f : EM) (ρ : En) (μ : Mu) : fFmt f ρ μ = ((f ρ μ).bind fun x μ1 => match x with
  | .d x => ofO (fmtD x) μ1
  | _ => .bad) := (rfl)
@[simp] theorem e_joined (fs : List EM) (ρ : En) (μ : Mu) : fJoined fs ρ μ = ((joinGo fs Str.empty ρ μ).bind fun x μ1 => .ok (.d (.str x)) μ1) := (rfl)
@[simp] theorem e_join0 (acc : Str) (ρ : En) (μ : Mu) : joinGo [] acc ρ μ = .ok acc μ := (rfl)
@[simp] theorem e_join1 (f : EM) (fs : List EM) (acc : Str) (ρ : En) (μ : Mu) : joinGo (f :: fs) acc ρ μ = ((f ρ μ).bind fun x μ1 => match x with
    | .d (.str y) => if (acc ++ y).length ≤ sizeLine then joinGo fs (acc ++ y) ρ μ1 else .bad
    | _ => .bad) := (rfl)
@[simp] theorem e_datsOf0 : datsOf [] = some [] := (rfl)
@[simp] theorem e_datsOf1 (d : Dat) (r : List SV) : datsOf (.d d :: r) = (datsOf r).map (d :: ·) := (rfl)
@[simp] theorem e_tup (fa : AM) (ρ : En) (μ : Mu) : fTup fa ρ μ = ((fa ρ μ).bind fun xs μ1 => match datsOf xs with
  | some ds => if ds.length ≤ sizeLine then .ok (.d (.tup ds)) μ1 else .bad
  | none => .bad) := (rfl)
@[simp] theorem e_lst (fa : AM) (ρ : En) (μ : Mu) : fLst fa ρ μ = ((fa ρ μ).bind fun xs μ1 => match datsOf xs with
  | some ds => if ds.length ≤ sizeLine then .ok (.d (.lst ds)) μ1 else .bad
  | none => .bad) := (rfl)
@[simp] theorem e_lstL (fa : AM) (ρ : En) (μ : Mu) : fLstL fa ρ μ = ((fa ρ μ).bind fun xs μ1 => match datsOf xs with
  | some ds => if ds.length ≤ sizeLine then .ok (.r μ1.length) (μ1 ++ [.lst ds]) else .bad
  | none => .bad) := (rfl)
@[simp] theorem e_dctL (ρ : En) (μ : Mu) : fDctL ρ μ = .ok (.r μ.length) (μ ++ [.dct []]) := (rfl)
@[simp] theorem e_seqL (f : EM) (ρ : En) (μ : Mu) : iSeq f ρ μ = ((f ρ μ).bind fun x μ1 => match x with
  | .d (.lst xs) => .ok xs μ1
  | .d (.tup xs) => .ok xs μ1
  | .d (.str z) => .ok (z.cps.toList.map fun c => Dat.str ⟨#[c]⟩) μ1
  | _ => .bad) := (rfl)
@[simp] theorem e_rg1 (fa : EM) (ρ : En) (μ : Mu) : iRg1 fa ρ μ = ((fa ρ μ).bind fun x μ1 => match x with
  | .d (.int j) => if -(2 ^ 62) ≤ j ∧ j < 2 ^ 62 then .ok (rngD 0 j.toNat) μ1 else .bad
  | _ => .bad) := (rfl)
@[simp] theorem e_zip (fa fb : EM) (ρ : En) (μ : Mu) : iZip fa fb ρ μ = ((fa ρ μ).bind fun x μ1 => (fb ρ μ1).bind fun y μ2 => match x, y with
  | .d (.lst xs), .d (.lst ys) => .ok (zipD xs ys) μ2
  | .d (.tup xs), .d (.tup ys) => .ok (zipD xs ys) μ2
  | _, _ => .bad) := (rfl)
@[simp] theorem e_yes (ρ : En) (μ : Mu) : fYes ρ μ = .ok true μ := (rfl)
@[simp] theorem e_lc (it : IM) (g : GM) (tt : BM) (te : EM) (vs : List Nat) (ρ : En) (μ : Mu) : fLc it g tt te vs ρ μ = ((it ρ μ).bind fun xs μ1 => if xs.length ≤ sizeLine then (lcGo g tt te (wipeE ρ.sl vs) μ1.length xs μ1).nx.bind fun ys μ2 => .ok (.d (.lst ys)) μ2 else .bad) := (rfl)
@[simp] theorem e_lcL (it : IM) (g : GM) (tt : BM) (te : EM) (vs : List Nat) (ρ : En) (μ : Mu) : fLcL it g tt te vs ρ μ = ((it ρ μ).bind fun xs μ1 => if xs.length ≤ sizeLine then (lcGo g tt te (wipeE ρ.sl vs) μ1.length xs μ1).nx.bind fun ys μ2 => .ok (.r μ2.length) (μ2 ++ [.lst ys]) else .bad) := (rfl)
@[simp] theorem e_lcX (it : IM) (g : GM) (tt : BM) (te : EM) (vs : List Nat) (ρ : En) (μ : Mu) : fLcX it g tt te vs ρ μ = ((it ρ μ).bind fun xs μ1 => if xs.length ≤ sizeLine then ((lcGo g tt te (wipeE ρ.sl vs) μ1.length xs μ1).exT μ1.length).bind fun ys μ2 => .ok (.d (.lst ys)) μ2 else .bad) := (rfl)
@[simp] theorem e_lcK (sel : List (Key × Dat) → List Dat) (i : Nat) (g : GM) (tt : BM) (te : EM) (vs : List Nat) (ρ : En) (μ : Mu) : fLcK sel i g tt te vs ρ μ = (match ρ.sl[i]? with
  | some (some (.d (.dct kvs))) => if (sel kvs).length ≤ sizeLine then (lcGo g tt te (wipeE ρ.sl vs) μ.length (sel kvs) μ).nx.bind fun ys μ2 => .ok (.d (.lst ys)) μ2 else .bad
  | _ => .bad) := (rfl)
@[simp] theorem e_wipe0 (sl : List (Option SV)) : wipeE sl [] = sl := (rfl)
@[simp] theorem e_wipe1 (sl : List (Option SV)) (v : Nat) (vs : List Nat) : wipeE sl (v :: vs) = (wipeE sl vs).set v none := (rfl)
@[simp] theorem e_no (ρ : En) (μ : Mu) : fNo ρ μ = .ok none μ := (rfl)
@[simp] theorem e_part (f : EM) (ρ : En) (μ : Mu) : fPart f ρ μ = ((f ρ μ).bind fun x μ1 => match x with
  | .d (.int i) => .ok (some i) μ1
  | _ => .bad) := (rfl)
@[simp] theorem e_sl (f : EM) (l h : OM) (ρ : En) (μ : Mu) : fSl f l h ρ μ = ((f ρ μ).bind fun x μ1 => (l ρ μ1).bind fun lo μ2 => (h ρ μ2).bind fun hi μ3 => match vw x μ3 with
  | some d => ofO (slD d lo hi) μ3
  | none => .bad) := (rfl)
@[simp] theorem e_fld (cs : List Addr) (f : Str) (fe : EM) (ρ : En) (μ : Mu) : fFld cs f fe ρ μ = ((fe ρ μ).bind fun x μ1 => match x with
  | .d (.ins C ds) => if C ∈ cs then ofO (ds.lookup f) μ1 else .bad
  | _ => .bad) := (rfl)
@[simp] theorem e_meth (alts : Alts) (m : Str) (n : Nat) (fo : EM) (fa : AM) (ρ : En) (μ : Mu) : fMeth alts m n fo fa ρ μ = ((fo ρ μ).bind fun x μ1 => match x with
  | .d (.ins C ds) => (match alts.lookup C, ds.lookup m with
    | some Fn, none => (fa ρ μ1).bind fun xs μ2 => if (SV.d (.ins C ds) :: xs).length = n then Fn (.d (.ins C ds) :: xs) μ2 else .bad
    | _, _ => .bad)
  | _ => .bad) := (rfl)
@[simp] theorem e_eqO (alts : Alts) (cs : List Addr) (n : Nat) (fa fb : EM) (ρ : En) (μ : Mu) : fEqO alts cs n fa fb ρ μ = ((fa ρ μ).bind fun x μ1 => match x with
  | .d (.ins C ds) => (match alts.lookup C with
    | some Fn => (fb ρ μ1).bind fun y μ2 => (match y with
      | .d (.ins C' es) => if C' ∈ cs ∧ n = 2 then (Fn [.d (.ins C ds), .d (.ins C' es)] μ2).nx else .bad
      | _ => .bad)
    | none => .bad)
  | _ => .bad) := (rfl)
@[simp] theorem e_un (op : Dat → Option Dat) (f : EM) (ρ : En) (μ : Mu) : fUn op f ρ μ = ((f ρ μ).bind fun x μ1 => match vw x μ1 with
  | some d => ofO (op d) μ1
  | none => .bad) := (rfl)
@[simp] theorem e_fin (live : Bool) (n : Nat) (d : Dat) (μ : Mu) : fin live n (.d d) μ = .ok (.d d) (μ.take n) := (rfl)
@[simp] theorem e_read (nm : String) (f : EM) (ρ : En) (μ : Mu) : fRead nm f ρ μ = (match f ⟨ρ.sl, μ.length⟩ μ with
  | .ok x μ1 => (match asD ⟨ρ.sl, μ.length⟩ x μ1 with
    | some (d, μ2) => .ok (.d (.lst [d])) (μ2.take μ.length)
    | none => .bad)
  | .ex e μ1 => if e = nm then .ok (.d (.lst [])) (μ1.take μ.length) else .bad
  | .bad => .bad) := (rfl)
theorem e_def (live : Bool) (N : Nat) (g : SM) (xs : List SV) (μ : Mu) : Fdef live N g xs μ = (match g ⟨xs.map some ++ List.replicate (N - xs.length) none, μ.length⟩ μ with
  | .rt x μ1 => fin live μ.length x μ1
  | .nx _ μ1 => .ok (.d .non) (μ1.take μ.length)
  | .ex nm _ μ1 => .ex nm (μ1.take μ.length)
  | _ => .bad) := (rfl)
/-! ### comprehensions over data -/
theorem lcN_map {i : Nat} {te : EM} {sl : List (Option SV)} {n : Nat} {μ : Mu} (f : Dat → Dat) (hn : n = μ.length) : ∀ {ds : List Dat}, (∀ d ∈ ds, te ⟨sl.set i (some (.d d)), n⟩ μ = .ok (.d (f d)) μ) → lcGo (gN i) fYes te sl n ds μ = .ok (ds.map f) μ
  | [], _ => rfl
  | d :: ds, h => by
    have h1 := h d (List.mem_cons_self ..)
    have ih := lcN_map f hn (ds := ds) fun x hx => h x (List.mem_cons_of_mem _ hx)
    have e : μ.take n = μ := by rw [hn, List.take_length]
    unfold lcGo
    simp only [e_gN, e_yes, Res.bind_ok, h1, e_asD, e, ih, List.map_cons]
theorem lcN_mapT {te : EM} {sl : List (Option SV)} {n : Nat} {μ : Mu} {i j : Nat} (f : Dat → Dat) (hn : n = μ.length) : ∀ {ds : List Dat}, (∀ d ∈ ds, ∃ x y, d = .tup [x, y] ∧ te ⟨(sl.set i (some (.d x))).set j (some (.d y)), n⟩ μ = .ok (.d (f d)) μ) →
    lcGo (gT 2 (gC (gN i) (gC (gN j) gO))) fYes te sl n ds μ = .ok (ds.map f) μ
  | [], _ => rfl
  | d :: ds, h => by
    obtain ⟨x, y, e1, h1⟩ := h d (List.mem_cons_self ..)
    have ih := lcN_mapT f hn (ds := ds) fun x hx => h x (List.mem_cons_of_mem _ hx)
    have e : μ.take n = μ := by rw [hn, List.take_length]
    unfold lcGo
    subst e1
    simp only [e_gT, e_gC, e_gN, e_gO, e_yes, Res.bind_ok, h1, e_asD, e, ih, List.map_cons, List.length_cons, List.length_nil, if_true, List.map_nil]
theorem lcN_opt {nm : String} {i : Nat} {te : EM} {sl : List (Option SV)} {n : Nat} {μ : Mu} (f : Dat → Option Dat) (hn : n = μ.length) : ∀ {ds : List Dat}, (∀ d ∈ ds, te ⟨sl.set i (some (.d d)), n⟩ μ = match f d with | some y => .ok (.d y) μ | none => .ex nm μ) →
    lcGo (gN i) fYes te sl n ds μ = match TX.mapO f ds with | some ys => .ok ys μ | none => .ex nm μ
  | [], _ => rfl
  | d :: ds, h => by
    have h1 := h d (List.mem_cons_self ..)
    have ih := lcN_opt f hn (ds := ds) fun x hx => h x (List.mem_cons_of_mem _ hx)
    have e : μ.take n = μ := by rw [hn, List.take_length]
    unfold lcGo TX.mapO
    cases e1 : f d with
    | none => simp only [e_gN, e_yes, Res.bind_ok, h1, e1, Res.bind_ex]
    | some y =>
      simp only [e_gN, e_yes, Res.bind_ok, h1, e1, e_asD, e, ih]
      cases TX.mapO f ds <;> rfl
theorem allD_map {α : Type} (p : α → Bool) (l : List α) : allD [.lst (l.map fun x => Dat.bl (p x))] = some (.bl (l.all p)) := by
  show (blsD _).map _ = _
  have e : (l.map fun x => Dat.bl (p x)) = (l.map p).map Dat.bl := by rw [List.map_map]; rfl
  rw [e, blsD_map]
  show some (Dat.bl ((l.map p).all id)) = _
  rw [List.all_map]; rfl
theorem joinD_lst {a : Str} {l : List Str} (h : (l.map (·.length)).sum + l.length * a.length ≤ 16777216) : joinD a (.lst (l.map Dat.str)) = some (.str (Txt.join a l)) := by
  show (strsD _).bind _ = _
  rw [strsD_map]
  exact if_pos h
theorem joinD_tup {a : Str} {l : List Str} (h : (l.map (·.length)).sum + l.length * a.length ≤ 16777216) : joinD a (.tup (l.map Dat.str)) = some (.str (Txt.join a l)) := by
  show (strsD _).bind _ = _
  rw [strsD_map]
  exact if_pos h
abbrev okS (x : Str) : Prop := PyData.strOk x = true
theorem okS_iff {x : Str} : okS x ↔ ∀ c ∈ TL.tl x, c < 0x110000 := by
  show (x.cps.all (· < 0x110000)) = true ↔ _
  rw [Array.all_eq_true_iff_forall_mem]
  simp [TL.tl]
@[simp] theorem okS_of (s : String) : PyData.strOk (Str.ofString s) = true := by
  refine okS_iff.mpr fun c hc => ?_
  rw [TL.tl_ofString] at hc
  obtain ⟨d, _, rfl⟩ := List.mem_map.mp hc
  have h := d.valid
  rcases h with h | h
  · have : d.toNat = d.val.toNat := (rfl)
    omega
  · have : d.toNat = d.val.toNat := rfl
    omega
theorem okS_app {x y : Str} (hx : okS x) (hy : okS y) : okS (x ++ y) := by
  rw [okS_iff] at *
  intro c hc
  rw [TL.tl_append, List.mem_append] at hc
  exact hc.elim (hx c) (hy c)
theorem okS_join {y : Str} {ps : List Str} (hy : okS y) (h : ∀ p ∈ ps, okS p) : okS (Txt.join y ps) := by
  rw [okS_iff] at *
  intro c hc
  rcases TX.mem_join hc with hc | ⟨p, hp, hc⟩
  · exact hy c hc
  · exact okS_iff.mp (h p hp) c hc
theorem sub_joinL {S : List Nat} {c : Nat} : ∀ {ps : List (List Nat)} {p : List Nat}, p ∈ ps → c ∈ p → c ∈ TL.joinL S ps
  | [], _, h, _ => by cases h
  | [q], p, h, hc => by
    rw [List.mem_singleton.mp h] at hc
    exact hc
  | q :: q2 :: r, p, h, hc => by
    show c ∈ q ++ (S ++ TL.joinL S (q2 :: r))
    rw [List.mem_append, List.mem_append]
    rcases List.mem_cons.mp h with rfl | h
    · exact .inl hc
    · exact .inr (.inr (sub_joinL h hc))
theorem split_sub {t y p : Str} (h : p ∈ Txt.split t y) : ∀ c ∈ TL.tl p, c ∈ TL.tl t := by
  intro c hc
  have e := StrLaws.join_split t y
  rw [← e, TL.tl_join]
  exact sub_joinL (List.mem_map_of_mem h) hc
theorem okS_split {t y p : Str} (ht : okS t) (h : p ∈ Txt.split t y) : okS p := okS_iff.mpr fun c hc => okS_iff.mp ht c (split_sub h c hc)
theorem part_sub (t y : Str) : (∀ c ∈ TL.tl (Txt.partition t y).1, c ∈ TL.tl t) ∧ (∀ c ∈ TL.tl (Txt.partition t y).2.1, c ∈ TL.tl t) ∧ (∀ c ∈ TL.tl (Txt.partition t y).2.2, c ∈ TL.tl t) := by
  have e := congrArg TL.tl (StrLaws.partition_sum t y)
  rw [TL.tl_append, TL.tl_append] at e
  rw [← e]
  refine ⟨fun c hc => ?_, fun c hc => ?_, fun c hc => ?_⟩ <;> simp only [List.mem_append] <;> simp [hc]
theorem okS_part1 {t y : Str} (ht : okS t) : okS (Txt.partition t y).1 := okS_iff.mpr fun c hc => okS_iff.mp ht c ((part_sub t y).1 c hc)
theorem okS_part2 {t y : Str} (ht : okS t) : okS (Txt.partition t y).2.1 := okS_iff.mpr fun c hc => okS_iff.mp ht c ((part_sub t y).2.1 c hc)
theorem okS_part3 {t y : Str} (ht : okS t) : okS (Txt.partition t y).2.2 := okS_iff.mpr fun c hc => okS_iff.mp ht c ((part_sub t y).2.2 c hc)
theorem okS_name {x : Str} (h : TX.isName x = true) : okS x := okS_iff.mpr fun c hc => by
  have := TX.name_low h c hc
  omega
theorem okS_int (i : Int) : okS (TX.intText i) := okS_of _
theorem shaped_str {x : Str} (h : PyData.strOk x = true) : SeqAt.shaped (toPy (.str x)) = true := by
  simp [SeqAt.shaped, toPy, PyData.canLay0, PyData.depth, h]
theorem shaped_int (x : Int) : SeqAt.shaped (toPy (.int x)) = true := by
  simp [SeqAt.shaped, toPy, PyData.canLay0, PyData.depth]
theorem eqStr (neg : Bool) {x y : Str} (hx : PyData.strOk x = true) (hy : PyData.strOk y = true) : oEq neg (.str x) (.str y) = some (.bl (xor neg (decide (x = y)))) := by
  unfold oEq
  rw [if_pos ⟨shaped_str hx, shaped_str hy⟩]
  simp only [toPy, PyData.eqv]
  congr 3
theorem eqInt (neg : Bool) (x y : Int) : oEq neg (.int x) (.int y) = some (.bl (xor neg (decide (x = y)))) := by
  unfold oEq
  rw [if_pos ⟨shaped_int x, shaped_int y⟩]
  simp only [toPy, PyData.eqv]
  congr 3
@[simp] theorem isi_ss (x : Str) : isiT "str" (.str x) = some true := (rfl)
@[simp] theorem isi_tt (x : List Dat) : isiT "tuple" (.tup x) = some true := (rfl)
@[simp] theorem isi_ii (x : Int) : isiT "int" (.int x) = some true := (rfl)
@[simp] theorem isi_bi (x : Int) : isiT "bool" (.int x) = some false := (rfl)
@[simp] theorem isi_dd (x : List (Key × Dat)) : isiT "dict" (.dct x) = some true := (rfl)
@[simp] theorem isi_it (x : List Dat) : isiT "int" (.tup x) = some false := (rfl)
@[simp] theorem isi_ti (x : Int) : isiT "tuple" (.int x) = some false := (rfl)
@[simp] theorem isi_st (x : List Dat) : isiT "str" (.tup x) = some false := (rfl)
@[simp] theorem isi_ts (x : Str) : isiT "tuple" (.str x) = some false := (rfl)
theorem sizeE : sizeLine = 16777216 := rfl
theorem in_sign (c : Nat) (z : Str) : oIn false (.str ⟨#[c]⟩) (.str z) = some (.bl (decide (c ∈ z.cps.toList))) := by
  show some (Dat.bl (xor false (!(Builtin.Str.occurrences z ⟨#[c]⟩ 0 z.length 1).isEmpty))) = _
  rw [StrLaws.found_one, Bool.false_xor]
@[simp] theorem len_str {x : Str} (h : x.length ≤ 16777216) : lenD [.str x] = some (.int x.length) := if_pos h
@[simp] theorem len_tup (x : List Dat) : lenD [.tup x] = some (.int x.length) := (rfl)
@[simp] theorem len_lst (x : List Dat) : lenD [.lst x] = some (.int x.length) := (rfl)
@[simp] theorem len_scr (x : List Int) : lenD [.scr x] = some (.int x.length) := (rfl)
@[simp] theorem le_int (i j : Int) : oLe (.int i) (.int j) = some (.bl (decide (i ≤ j))) := (rfl)
@[simp] theorem lt_int (i j : Int) : oLt (.int i) (.int j) = some (.bl (decide (i < j))) := (rfl)
@[simp] theorem gt_int (i j : Int) : oGt (.int i) (.int j) = some (.bl (decide (j < i))) := (rfl)
@[simp] theorem ge_int (i j : Int) : oGe (.int i) (.int j) = some (.bl (decide (j ≤ i))) := (rfl)
@[simp] theorem lt_str (i j : Str) : oLt (.str i) (.str j) = some (.bl (TX.ltS i j)) := (rfl)
@[simp] theorem add_int (i j : Int) : oAdd (.int i) (.int j) = some (.int (i + j)) := (rfl)
@[simp] theorem sub_int (i j : Int) : oSub (.int i) (.int j) = some (.int (i - j)) := (rfl)
theorem add_str {i j : Str} (h : i.length + j.length ≤ 16777216) : oAdd (.str i) (.str j) = some (.str (i ++ j)) := if_pos h
@[simp] theorem tup_lst (x : List Dat) : tupleD [.lst x] = some (.tup x) := (rfl)
@[simp] theorem tup_tup (x : List Dat) : tupleD [.tup x] = some (.tup x) := (rfl)
@[simp] theorem list_lst (x : List Dat) : listD [.lst x] = some (.lst x) := (rfl)
@[simp] theorem list_tup (x : List Dat) : listD [.tup x] = some (.lst x) := (rfl)
@[simp] theorem list_dct (x : List (Key × Dat)) : listD [.dct x] = some (.lst (keyDs x)) := (rfl)
@[simp] theorem int_int (x : Int) : intD [.int x] = some (.int x) := (rfl)
@[simp] theorem int_bl (x : Bool) : intD [.bl x] = some (.int (if x then 1 else 0)) := (rfl)
@[simp] theorem str_str (x : Str) : strD [.str x] = some (.str x) := (rfl)
theorem str_int {i : Int} (h : i.natAbs.log2 < 1920) : strD [.int i] = some (.str (TX.intText i)) := if_pos h
@[simp] theorem fmt_str {x : Str} (h : x.length ≤ 16777216) : fmtD (.str x) = some (.str x) := if_pos h
theorem split_str {a b : Str} (h1 : (b.length == 0) = false) (h2 : a.length + 2 ≤ 16777216) : splitD a (.str b) = some (.lst ((Txt.split a b).map Dat.str)) := if_pos ⟨h1, h2⟩
theorem part_str {a b : Str} (h1 : (b.length == 0) = false) (h2 : a.length ≤ 16777216) : partD a (.str b) = some (.tup [.str (Txt.partition a b).1, .str (Txt.partition a b).2.1, .str (Txt.partition a b).2.2]) := if_pos ⟨h1, h2⟩
@[simp] theorem starts_str (a b : Str) : startsD a (.str b) = some (.bl (Txt.startswith a b)) := (rfl)
theorem ix_tn {xs : List Dat} {j : Nat} {v : Dat} (h : xs[j]? = some v) : oIx (.tup xs) (.int (j : Int)) = some v := atI_nat h
theorem ix_ln {xs : List Dat} {j : Nat} {v : Dat} (h : xs[j]? = some v) : oIx (.lst xs) (.int (j : Int)) = some v := atI_nat h
@[simp] theorem ix_t0 (x : Dat) (r : List Dat) : oIx (.tup (x :: r)) (.int 0) = some x := ix_tn (j := 0) rfl
@[simp] theorem ix_t1 (x y : Dat) (r : List Dat) : oIx (.tup (x :: y :: r)) (.int 1) = some y := ix_tn (j := 1) rfl
@[simp] theorem ix_t2 (x y z : Dat) (r : List Dat) : oIx (.tup (x :: y :: z :: r)) (.int 2) = some z := ix_tn (j := 2) rfl
@[simp] theorem ix_l0 (x : Dat) (r : List Dat) : oIx (.lst (x :: r)) (.int 0) = some x := ix_ln (j := 0) rfl
end DL

-- PC2
/-! PC2: what the defs compute: forms, columns, steps. -/
namespace DL
open PySem PySem.Spec PyProof.Rows L2
theorem lc_map {α : Type} {i : Nat} {te : EM} {sl : List (Option SV)} {n : Nat} {μ : Mu} (g f : α → Dat) (hn : n = μ.length) : ∀ {l : List α}, (∀ a ∈ l, te ⟨sl.set i (some (.d (g a))), n⟩ μ = .ok (.d (f a)) μ) → lcGo (gN i) fYes te sl n (l.map g) μ = .ok (l.map f) μ
  | [], _ => rfl
  | d :: ds, h => by
    have h1 := h d (List.mem_cons_self ..)
    have ih := lc_map g f hn (l := ds) fun x hx => h x (List.mem_cons_of_mem _ hx)
    have e : μ.take n = μ := by rw [hn, List.take_length]
    rw [List.map_cons]
    unfold lcGo
    simp only [e_gN, e_yes, Res.bind_ok, h1, e_asD, e, ih, List.map_cons]
theorem lc_mapT {α : Type} {te : EM} {sl : List (Option SV)} {n : Nat} {μ : Mu} {i j : Nat} (g1 g2 f : α → Dat) (hn : n = μ.length) : ∀ {l : List α}, (∀ a ∈ l, te ⟨(sl.set i (some (.d (g1 a)))).set j (some (.d (g2 a))), n⟩ μ = .ok (.d (f a)) μ) →
    lcGo (gT 2 (gC (gN i) (gC (gN j) gO))) fYes te sl n (l.map fun a => .tup [g1 a, g2 a]) μ = .ok (l.map f) μ
  | [], _ => rfl
  | d :: ds, h => by
    have h1 := h d (List.mem_cons_self ..)
    have ih := lc_mapT g1 g2 f hn (l := ds) fun x hx => h x (List.mem_cons_of_mem _ hx)
    have e : μ.take n = μ := by rw [hn, List.take_length]
    rw [List.map_cons]
    unfold lcGo
    simp only [e_gT, e_gC, e_gN, e_gO, e_yes, Res.bind_ok, h1, e_asD, e, ih, List.map_cons, List.length_cons, List.length_nil, if_true, List.map_nil]
def ofE {β γ : Type} (nm : String) (μ : Mu) (e : β → γ) : Option β → Res γ
  | some y => .ok (e y) μ
  | none => .ex nm μ
theorem lc_opt {α β : Type} {nm : String} {i : Nat} {te : EM} {sl : List (Option SV)} {n : Nat} {μ : Mu} (g : α → Dat) (f : α → Option β) (e : β → Dat) (hn : n = μ.length) : ∀ {l : List α}, (∀ a ∈ l, te ⟨sl.set i (some (.d (g a))), n⟩ μ = ofE nm μ (fun y => SV.d (e y)) (f a)) →
    lcGo (gN i) fYes te sl n (l.map g) μ = ofE nm μ (fun ys => ys.map e) (TX.mapO f l)
  | [], _ => rfl
  | d :: ds, h => by
    have h1 := h d (List.mem_cons_self ..)
    have ih := lc_opt g f e hn (l := ds) fun x hx => h x (List.mem_cons_of_mem _ hx)
    have et : μ.take n = μ := by rw [hn, List.take_length]
    rw [List.map_cons]
    unfold lcGo TX.mapO
    cases e1 : f d with
    | none =>
      rw [e1] at h1
      simp only [e_gN, e_yes, Res.bind_ok, h1, ofE, Res.bind_ex]
    | some y =>
      rw [e1] at h1
      simp only [e_gN, e_yes, Res.bind_ok, h1, ofE, e_asD, et, ih]
      cases TX.mapO f ds <;> rfl
theorem zip_adj {α : Type} (g : α → Dat) : ∀ l : List α, zipD (l.map g) (l.map g).tail = (l.zip l.tail).map fun a => .tup [g a.1, g a.2]
  | [] => rfl
  | [x] => rfl
  | x :: y :: r => by
    have ih := zip_adj g (y :: r)
    show Dat.tup [g x, g y] :: zipD ((y :: r).map g) (r.map g) = _
    have e : r.map g = ((y :: r).map g).tail := rfl
    rw [e, ih]
    rfl
theorem cut1 {α : Type} (l : List α) : cutL l (some 1) none = l.tail := by
  unfold cutL
  have e1 : HT.sIx l.length 0 (some 1) = min 1 l.length := HT.sIx_nat l.length 0 1
  have e2 : HT.sIx l.length l.length none = l.length := rfl
  rw [e1, e2]
  cases l with
  | nil => rfl
  | cons x r =>
    rw [show min 1 (x :: r).length = 1 by rw [List.length_cons]; omega]
    exact List.take_of_length_le (by simp)
theorem allD_map' {α : Type} (p : α → Bool) (l : List α) : allD [.lst (l.map fun x => Dat.bl (p x))] = some (.bl (l.all p)) := allD_map p l
end DL
namespace TX
open PySem TL
theorem asc_all : ∀ l : List Str, (l.zip l.tail).all (fun a => ltS a.1 a.2) = ascS l
  | [] => rfl
  | [x] => rfl
  | x :: y :: r => by
    have ih := asc_all (y :: r)
    show (ltS x y && ((y :: r).zip r).all fun a => ltS a.1 a.2) = _
    have e : ((y :: r).zip r).all (fun a => ltS a.1 a.2) = ascS (y :: r) := ih
    rw [e]
    rfl
theorem ascI_all : ∀ l : List Int, (l.zip l.tail).all (fun a => decide (a.1 < a.2)) = ascI l
  | [] => rfl
  | [x] => rfl
  | x :: y :: r => by
    have ih := ascI_all (y :: r)
    show (decide (x < y) && ((y :: r).zip r).all fun a => decide (a.1 < a.2)) = _
    have e : ((y :: r).zip r).all (fun a => decide (a.1 < a.2)) = ascI (y :: r) := ih
    rw [e]
    rfl
end TX
namespace M87
open PySem PySem.Spec PyProof.Rows L2 DL TX
variable (ad : Ad)
theorem q_is_integer (i : Int) (μ : Mu) : F_is_integer ad [.d (.int i)] μ = .ok (.d (.bl true)) μ := by
  simp [F_is_integer, m_is_integer, e_def]
theorem q_is_index (k i : Int) (μ : Mu) : F_is_index ad [.d (.int k), .d (.int i)] μ = .ok (.d (.bl (decide (0 ≤ i) && decide (i < k)))) μ := by
  simp [F_is_index, m_is_index, e_def, q_is_integer, oLe, oLt, cmpD]
  cases h : decide (0 ≤ i) <;> simp
theorem low_mem (c : Nat) : decide (c ∈ (Str.ofString "abcdefghijklmnopqrstuvwxyz").cps.toList) = isLow c := by
  have e : (Str.ofString "abcdefghijklmnopqrstuvwxyz").cps.toList = (List.range 26).map (· + 97) := by decide +kernel
  rw [e]
  unfold isLow
  rw [← Bool.decide_and]
  congr 1
  simp only [List.mem_map, List.mem_range, eq_iff_iff]
  constructor
  · rintro ⟨a, h, rfl⟩; omega
  · rintro ⟨h1, h2⟩; exact ⟨c - 97, by omega, by omega⟩
theorem q_is_name {x : Str} (hx : x.length ≤ 16777216) (μ : Mu) : F_is_name ad [.d (.str x)] μ = .ok (.d (.bl (isName x))) μ := by
  have key : lcGo (gN 1) fYes (fBin (oIn false) (fVar 1) (fC c_SIGNS)) [some (.d (.str x)), none] μ.length (x.cps.toList.map fun c => Dat.str ⟨#[c]⟩) μ = .ok (x.cps.toList.map fun c => Dat.bl (isLow c)) μ :=
    lc_map _ _ rfl fun c _ => by simp [c_SIGNS, in_sign, ← low_mem]
  have h1 : (1 ≤ (x.length : Int)) = (1 ≤ x.length) := by simp; omega
  have h2 : ((x.length : Int) ≤ 8) = (x.length ≤ 8) := by simp; omega
  have h3 : x.cps.size ≤ 16777216 := hx
  simp only [F_is_name, m_is_name, e_def]
  by_cases a : 1 ≤ x.length
  · by_cases b : x.length ≤ 8
    · simp [h1, h2, a, b, hx, sizeE, h3, key, allD_map, isName, TL.tl, c_MOST_SIGNS]
    · simp [h1, h2, a, b, hx, sizeE, isName, c_MOST_SIGNS]
  · simp [h1, h2, a, hx, sizeE, isName, c_MOST_SIGNS]
theorem q_are_columns {xs : List Str} (hx : ∀ x ∈ xs, x.length ≤ 16777216) (hl : xs.length ≤ 16777216) (μ : Mu) : F_are_columns ad [.d (.tup (xs.map Dat.str))] μ = .ok (.d (.bl (areCols xs))) μ := by
  have key : lcGo (gN 1) fYes (fCall 1 (F_is_name ad) (fCons (fVar 1) fNil)) [some (.d (.tup (xs.map Dat.str))), none, none, none] μ.length (xs.map Dat.str) μ = .ok (xs.map fun x => Dat.bl (isName x)) μ :=
    lc_map _ _ rfl fun c hc => by simp [q_is_name ad (hx c hc)]
  have key2 : lcGo (gT 2 (gC (gN 2) (gC (gN 3) gO))) fYes (fBin oLt (fVar 2) (fVar 3)) [some (.d (.tup (xs.map Dat.str))), none, none, none] μ.length ((xs.zip xs.tail).map fun a => .tup [.str a.1, .str a.2]) μ = .ok ((xs.zip xs.tail).map fun a => Dat.bl (ltS a.1 a.2)) μ :=
    lc_mapT _ _ _ rfl fun c hc => by simp
  have h2 : (8 < (xs.length : Int)) = (8 < xs.length) := by simp; omega
  have h4 : (xs.zip xs.tail).length ≤ 16777216 := by rw [List.length_zip]; omega
  have hc := cut1 (xs.map Dat.str)
  simp only [F_are_columns, m_are_columns, e_def, c_MOST_COLUMNS]
  by_cases a : xs.length ≤ 8
  · cases b : xs.all isName
    · simp only [h2, show ¬ 8 < xs.length by omega, sizeE, hl, key, allD_map, b, areCols]
      simp [h2, show ¬ 8 < xs.length by omega, sizeE, hl, key, allD_map, b]
    · simp only [h2, show ¬ 8 < xs.length by omega, sizeE, hl, key, allD_map, b, areCols, a]
      simp [h2, show ¬ 8 < xs.length by omega, sizeE, hl, key, allD_map, b, a, slD, hc, zip_adj, h4, key2, asc_all, show xs.length ≤ 16777217 by omega]
  · simp [h2, show 8 < xs.length by omega, areCols, a]
end M87

-- PC3
/-! PC3: what the defs compute: steps. -/
namespace DL
open PySem PySem.Spec PyProof.Rows L2
structure OkD (n : Nat) (d : Dat) : Prop where
  c : (toPy d).canLay0 = true
  d : (toPy d).depth ≤ n
theorem okD_str {x : Str} {n : Nat} (h : PyData.strOk x = true) : OkD n (.str x) := ⟨by simp [toPy, PyData.canLay0, h], by simp [toPy, PyData.depth]⟩
theorem okD_int (i : Int) {n : Nat} : OkD n (.int i) := ⟨by simp [toPy, PyData.canLay0], by simp [toPy, PyData.depth]⟩
theorem okDs {n : Nat} : ∀ {ds : List Dat}, (∀ d ∈ ds, OkD n d) → PyData.canLayAll0 (toPys ds) = true ∧ PyData.depthAll (toPys ds) ≤ n
  | [], _ => ⟨by simp [toPys, PyData.canLayAll0], by simp [toPys, PyData.depthAll]⟩
  | d :: ds, h => by
    obtain ⟨h1, h2⟩ := h d (List.mem_cons_self ..)
    obtain ⟨h3, h4⟩ := okDs (ds := ds) fun x hx => h x (List.mem_cons_of_mem _ hx)
    refine ⟨by simp [toPys, PyData.canLayAll0, h1, h3], ?_⟩
    simp only [toPys, PyData.depthAll]
    omega
theorem okD_tup {n : Nat} {ds : List Dat} (h : ∀ d ∈ ds, OkD n d) : OkD (n + 1) (.tup ds) := by
  obtain ⟨h1, h2⟩ := okDs h
  refine ⟨by simp [toPy, PyData.canLay0, h1], ?_⟩
  simp only [toPy, PyData.depth]
  omega
theorem okD_lst {n : Nat} {ds : List Dat} (h : ∀ d ∈ ds, OkD n d) : OkD (n + 1) (.lst ds) := by
  obtain ⟨h1, h2⟩ := okDs h
  refine ⟨by simp [toPy, PyData.canLay0, h1], ?_⟩
  simp only [toPy, PyData.depth]
  omega
theorem OkD.mono {n m : Nat} {d : Dat} (h : OkD n d) (hm : n ≤ m) : OkD m d := ⟨h.c, Nat.le_trans h.d hm⟩
theorem OkD.sh {n : Nat} {d : Dat} (h : OkD n d) (hn : n ≤ 64) : SeqAt.shaped (toPy d) = true := by
  unfold SeqAt.shaped
  rw [h.c, Bool.true_and]
  exact decide_eq_true (Nat.le_trans h.d hn)
theorem okD_nilT : OkD 1 (.tup []) := okD_tup (n := 0) fun d h => by cases h
theorem okD_nilL : OkD 1 (.lst []) := okD_lst (n := 0) fun d h => by cases h
theorem eqv_nil (xs : List PyData) : PyData.eqvAll xs [] = xs.isEmpty := by
  cases xs <;> simp [PyData.eqvAll]
theorem toPys_empty (ds : List Dat) : (toPys ds).isEmpty = ds.isEmpty := by cases ds <;> rfl
theorem eq_nilT (neg : Bool) {n : Nat} {ds : List Dat} (h : OkD n (.tup ds)) (hn : n ≤ 64) : oEq neg (.tup ds) (.tup []) = some (.bl (xor neg ds.isEmpty)) := by
  unfold oEq
  rw [if_pos ⟨h.sh hn, okD_nilT.sh (by decide)⟩]
  simp only [toPy, toPys, PyData.eqv, eqv_nil, toPys_empty]
theorem eq_nilL (neg : Bool) (ds : List Dat) : oEq neg (.lst ds) (.lst []) = some (.bl (xor neg ds.isEmpty)) := by
  unfold oEq
  by_cases h : SeqAt.shaped (toPy (.lst ds)) = true ∧ SeqAt.shaped (toPy (.lst [])) = true
  · rw [if_pos h]
    simp only [toPy, toPys, PyData.eqv, eqv_nil, toPys_empty]
  · rw [if_neg h]
    cases ds with
    | nil => exact absurd ⟨okD_nilL.sh (by decide), okD_nilL.sh (by decide)⟩ h
    | cons d r => simp
mutual
theorem eqv_refl : ∀ d : PyData, d.canLay0 = true → PyData.eqv d d = true
  | .none, _ => by simp [PyData.eqv]
  | .bool b, _ => by simp [PyData.eqv]
  | .int i, _ => by simp [PyData.eqv]
  | .str x, _ => by simp [PyData.eqv]
  | .list xs, h => by
    simp only [PyData.canLay0] at h
    simp only [PyData.eqv]
    exact eqvAll_refl xs h
  | .tuple xs, h => by
    simp only [PyData.canLay0] at h
    simp only [PyData.eqv]
    exact eqvAll_refl xs h
  | .dict _, h => by simp [PyData.canLay0] at h
theorem eqvAll_refl : ∀ xs : List PyData, PyData.canLayAll0 xs = true → PyData.eqvAll xs xs = true
  | [], _ => by simp [PyData.eqvAll]
  | x :: xs, h => by
    simp only [PyData.canLayAll0, Bool.and_eq_true] at h
    simp only [PyData.eqvAll, Bool.and_eq_true]
    exact ⟨eqv_refl x h.1, eqvAll_refl xs h.2⟩
end
theorem eq_refl (neg : Bool) {n : Nat} {d : Dat} (h : OkD n d) (hn : n ≤ 64) : oEq neg d d = some (.bl (!neg)) := by
  unfold oEq
  rw [if_pos ⟨h.sh hn, h.sh hn⟩, eqv_refl _ h.c]
  cases neg <;> rfl
theorem flats_strs : ∀ l : List Str, flatsD (l.map Dat.str) = some (l.map V.str)
  | [] => rfl
  | x :: r => by
    rw [List.map_cons]
    unfold flatsD
    rw [flats_strs r]; rfl
theorem in_strs (neg : Bool) (x : Str) (l : List Str) : oIn neg (.str x) (.tup (l.map Dat.str)) = some (.bl (xor neg (l.contains x))) := by
  show inSeqD neg (.str x) (l.map Dat.str) = _
  unfold inSeqD
  rw [flats_strs]
  show some (Dat.bl (if neg then !inV (.str x) (l.map V.str) else inV (.str x) (l.map V.str))) = _
  have e : inV (.str x) (l.map V.str) = l.contains x := by
    unfold inV
    rw [List.any_map]
    show l.any (fun y => y == x) = _
    induction l with
    | nil => rfl
    | cons a r ih => rw [List.any_cons, List.contains_cons, ih, Bool.beq_comm]
  rw [e]
  cases neg <;> simp
theorem in_strsL (neg : Bool) (x : Str) (l : List Str) : oIn neg (.str x) (.lst (l.map Dat.str)) = some (.bl (xor neg (l.contains x))) := in_strs neg x l
end DL
namespace TX
open PySem TL
/-- short texts that can be told -/
structure Fit (x : Str) : Prop where
  ok : PyData.strOk x = true
  len : x.length ≤ 500
theorem Fit.le {x : Str} (h : Fit x) : x.length ≤ 16777216 := Nat.le_trans h.len (by decide)
theorem Fit.part1 {t y : Str} (h : Fit t) : Fit (Txt.partition t y).1 := ⟨DL.okS_part1 h.ok, Nat.le_trans (PyProof.Rows.fact_partition t y).1 h.len⟩
theorem Fit.part3 {t y : Str} (h : Fit t) : Fit (Txt.partition t y).2.2 := ⟨DL.okS_part3 h.ok, Nat.le_trans (PyProof.Rows.fact_partition t y).2.2 h.len⟩
theorem Fit.split {t y p : Str} (h : Fit t) (hp : p ∈ Txt.split t y) : Fit p := ⟨DL.okS_split h.ok hp, Nat.le_trans (PyProof.Rows.part_short hp) h.len⟩
theorem split_num {t y : Str} (h : Fit t) : (Txt.split t y).length ≤ 502 := Nat.le_trans (PyProof.Rows.split_le t y) (by have := h.len; omega)
theorem Fit.name {x : Str} (h : isName x = true) : Fit x := ⟨DL.okS_name h, by have := (name_len h).2; omega⟩
structure FitC (xs : List Str) : Prop where
  f : ∀ x ∈ xs, Fit x
  n : xs.length ≤ 502
theorem FitC.cols {xs : List Str} (h : areCols xs = true) : FitC xs := ⟨fun x hx => .name (cols_name h x hx), by have := cols_len h; omega⟩
theorem FitC.in {t : Str} (h : Fit t) : FitC (colsIn t) := by
  unfold colsIn
  split
  · exact ⟨fun x hx => (by cases hx), by decide⟩
  · exact ⟨fun x hx => h.split hx, split_num h⟩
def FitS : Stp → Prop
  | .two w x => Fit w ∧ Fit x
  | .pr l o => FitC l ∧ FitC o
theorem FitS.form {s : Stp} (h : isForm s = true) : FitS s := by
  cases s with
  | two w x =>
    simp only [isForm, Bool.and_eq_true, Bool.or_eq_true, beq_iff_eq] at h
    refine ⟨?_, .name h.2⟩
    rcases h.1 with e | e <;> subst e <;> exact ⟨DL.okS_of _, by decide +kernel⟩
  | pr l o =>
    simp only [isForm, Bool.and_eq_true] at h
    exact ⟨.cols h.1, .cols h.2⟩
theorem FitS.in {t : Str} (h : Fit t) : FitS (stepIn t) := by
  unfold stepIn
  split
  · exact ⟨.in h.part3.part1, .in h.part3.part3⟩
  · exact ⟨h.part1, h.part3⟩
abbrev colsD (xs : List Str) : DL.Dat := .tup (xs.map DL.Dat.str)
def stpD : Stp → DL.Dat
  | .two w x => .tup [.str w, .str x]
  | .pr l o => .tup [.str (A "pair"), colsD l, colsD o]
abbrev stpsD (ss : List Stp) : DL.Dat := .tup (ss.map stpD)
theorem okC {n : Nat} {xs : List Str} (h : FitC xs) : DL.OkD (n + 1) (colsD xs) := DL.okD_tup fun d hd => by
  obtain ⟨x, hx, rfl⟩ := List.mem_map.mp hd
  exact DL.okD_str (h.f x hx).ok
theorem okStp {s : Stp} (h : FitS s) : DL.OkD 2 (stpD s) := by
  cases s with
  | two w x =>
    refine DL.okD_tup fun d hd => ?_
    simp only [List.mem_cons, List.not_mem_nil, or_false] at hd
    rcases hd with rfl | rfl
    · exact DL.okD_str h.1.ok
    · exact DL.okD_str h.2.ok
  | pr l o =>
    refine DL.okD_tup fun d hd => ?_
    simp only [List.mem_cons, List.not_mem_nil, or_false] at hd
    rcases hd with rfl | rfl | rfl
    · exact DL.okD_str (DL.okS_of _)
    · exact okC h.1
    · exact okC h.2
theorem okStps {ss : List Stp} (h : ∀ s ∈ ss, FitS s) : DL.OkD 3 (stpsD ss) := DL.okD_tup fun d hd => by
  obtain ⟨x, hx, rfl⟩ := List.mem_map.mp hd
  exact okStp (h x hx)
end TX
namespace M87
open PySem PySem.Spec PyProof.Rows L2 DL TX
variable (ad : Ad)
def cf (w : Str) : Bool := w == A "common" || w == A "fixed"
theorem cf_in (x : Str) : oIn false (.str x) (.tup [.str (Str.ofString "common"), .str (Str.ofString "fixed")]) = some (.bl (cf x)) := by
  have e := in_strs false x [A "common", A "fixed"]
  rw [Bool.false_xor] at e
  have e2 : [A "common", A "fixed"].contains x = cf x := by
    unfold cf
    rw [List.contains_cons, List.contains_cons, List.contains_nil, Bool.or_false]
  rw [e2] at e
  exact e
theorem q_is_step_form {s : Stp} (h : FitS s) (μ : Mu) : F_is_step_form ad [.d (stpD s)] μ = .ok (.d (.bl (isForm s))) μ := by
  cases s with
  | two w x =>
    have hw := h.1.ok
    have hf : isForm (.two w x) = (cf w && isName x) := rfl
    simp only [stpD, F_is_step_form, m_is_step_form, e_def, c_PAIR, c_COMMON, c_FIXED, hf]
    by_cases hp : w = A "pair"
    · subst hp
      have : cf (A "pair") = false := by decide +kernel
      simp [eqStr, eqInt, this]
    · cases hc : cf w
      · simp [eqStr, eqInt, hw, hp, cf_in, hc, sizeE]
      · simp [eqStr, eqInt, hw, hp, cf_in, hc, sizeE, q_is_name ad h.2.le]
  | pr l o =>
    have h1 := fun μ => q_are_columns ad (fun x hx => (h.1.f x hx).le) (Nat.le_trans h.1.n (by decide)) μ
    have h2 := fun μ => q_are_columns ad (fun x hx => (h.2.f x hx).le) (Nat.le_trans h.2.n (by decide)) μ
    simp only [stpD, F_is_step_form, m_is_step_form, e_def, c_PAIR, c_COMMON, c_FIXED]
    cases ha : areCols l <;> simp [eqStr, eqInt, h1, h2, ha, isForm]
theorem q_are_step_forms {ss : List Stp} (h : ∀ s ∈ ss, FitS s) (hl : ss.length ≤ 502) (μ : Mu) : F_are_step_forms ad [.d (stpsD ss)] μ = .ok (.d (.bl (ss.all isForm))) μ := by
  have key : lcGo (gN 1) fYes (fCall 1 (F_is_step_form ad) (fCons (fVar 1) fNil)) [some (.d (stpsD ss)), none] μ.length (ss.map stpD) μ = .ok (ss.map fun x => Dat.bl (isForm x)) μ :=
    lc_map _ _ rfl fun c hc => by simp [q_is_step_form ad (h c hc)]
  have h1 : ss.length ≤ 16777216 := Nat.le_trans hl (by decide)
  simp only [F_are_step_forms, m_are_step_forms, e_def]
  simp [key, sizeE, h1, allD_map]
theorem eq_cols (neg : Bool) {xs : List Str} (h : FitC xs) : oEq neg (colsD xs) (.tup []) = some (.bl (xor neg xs.isEmpty)) := by
  rw [eq_nilT neg (okC (n := 0) h) (by decide), List.isEmpty_map]
theorem eq_stps (neg : Bool) {xs : List Stp} (h : ∀ s ∈ xs, FitS s) : oEq neg (stpsD xs) (.tup []) = some (.bl (xor neg xs.isEmpty)) := by
  rw [eq_nilT neg (okStps h) (by decide), List.isEmpty_map]
theorem q_columns_text {xs : List Str} (h : areCols xs = true) (μ : Mu) : F_columns_text ad [.d (colsD xs)] μ = .ok (.d (.str (colsText xs))) μ := by
  have h1 := eq_cols true (.cols h)
  have h2 : joinD (A " ") (colsD xs) = some (.str (Txt.join (A " ") xs)) := joinD_tup (Nat.le_trans (len_join_le (n := 8) (B := 8) (cols_len h) fun x hx => (name_len (cols_name h x hx)).2) (by decide +kernel))
  simp only [F_columns_text, m_columns_text, e_def, c_NOTHING, colsText]
  cases xs with
  | nil => simp [h1, sizeE]
  | cons x r => simp [h1, h2, sizeE]
theorem q_columns_in {t : Str} (h : Fit t) (μ : Mu) : F_columns_in ad [.d (.str t)] μ = .ok (.d (colsD (colsIn t))) μ := by
  have hs : splitD t (.str (A " ")) = some (.lst ((Txt.split t (A " ")).map Dat.str)) := split_str (by decide +kernel) (by have := h.len; omega)
  simp only [F_columns_in, m_columns_in, e_def, c_NOTHING, colsIn]
  by_cases e : t = A "-"
  · simp [eqStr, h.ok, e, sizeE]
  · simp [eqStr, h.ok, e, sizeE, hs]
theorem len_A : (A " ").length = 1 ∧ (A " / ").length = 3 ∧ (A "pair").length = 4 ∧ Str.empty.length = 0 := by decide +kernel
theorem q_step_text {s : Stp} (h : isForm s = true) (μ : Mu) : F_step_text ad [.d (stpD s)] μ = .ok (.d (.str (stepText s))) μ := by
  have hl := stepText_len h
  obtain ⟨l1, l2, l3, l0⟩ := len_A
  cases s with
  | two w x =>
    have hc : cf w = true ∧ isName x = true := by simpa [isForm, cf] using h
    have hf := FitS.form h
    have hp : w ≠ A "pair" := by
      rintro rfl
      have : cf (A "pair") = false := by decide +kernel
      rw [this] at hc
      cases hc.1
    simp only [stepText, len_app] at hl
    simp only [stpD, F_step_text, m_step_text, e_def, c_PAIR, c_SIDES, stepText]
    simp [eqStr, hf.1.ok, hp, hf.1.le, hf.2.le, sizeE, len_app, empty_app, l1, show w.length ≤ 16777215 by omega, show w.length + 1 + x.length ≤ 16777216 by omega]
  | pr l o =>
    simp only [isForm, Bool.and_eq_true] at h
    simp only [stepText, len_app] at hl
    have a1 := colsText_len h.1
    have a2 := colsText_len h.2
    simp only [stpD, F_step_text, m_step_text, e_def, c_PAIR, c_SIDES, stepText]
    simp [eqStr, q_columns_text ad h.1, q_columns_text ad h.2, sizeE, len_app, empty_app, l1, l2, l3, show (colsText l).length ≤ 16777216 by omega, show (colsText o).length ≤ 16777216 by omega]
    rw [if_pos (by omega), if_pos (by omega), if_pos (by omega)]
    simp
end M87

-- PC4
/-! PC4: what the defs compute: steps and papers. -/
namespace DL
open PySem PySem.Spec PyProof.Rows L2
@[simp] theorem e_bnotRes (b : Bool) (μ : Mu) : ((Res.ok b μ).bind fun b μ1 => Res.ok (!b) μ1 : Res Bool) = .ok (!b) μ := (rfl)
end DL
namespace M87
open PySem PySem.Spec PyProof.Rows L2 DL TX
variable (ad : Ad)
theorem stepsText_len {ss : List Stp} (h : ss.all isForm = true) (hl : ss.length ≤ 502) : (stepsText ss).length ≤ 80000 ∧ ((ss.map stepText).map (·.length)).sum + (ss.map stepText).length * (A " ; ").length ≤ 16777216 := by
  rw [List.all_eq_true] at h
  have h1 := len_join (A " ; ") (ss.map stepText)
  have h2 := len_join_le (y := A " ; ") (l := ss.map stepText) (n := 502) (B := 152) (by rw [List.length_map]; exact hl) fun x hx => by
    obtain ⟨s, hs, rfl⟩ := List.mem_map.mp hx
    exact stepText_len (h s hs)
  have h3 : (A " ; ").length = 3 := by decide +kernel
  rw [h3] at h1 h2
  rw [h3]
  refine ⟨?_, by omega⟩
  unfold stepsText
  split
  · decide +kernel
  · omega
theorem q_steps_text {ss : List Stp} (h : ss.all isForm = true) (hl : ss.length ≤ 502) (μ : Mu) : F_steps_text ad [.d (stpsD ss)] μ = .ok (.d (.str (stepsText ss))) μ := by
  have h' := h
  rw [List.all_eq_true] at h'
  have key : lcGo (gN 1) fYes (fCall 1 (F_step_text ad) (fCons (fVar 1) fNil)) [some (.d (stpsD ss)), none] μ.length (ss.map stpD) μ = .ok (ss.map fun x => Dat.str (stepText x)) μ :=
    lc_map _ _ rfl fun c hc => by simp [q_step_text ad (h' c hc)]
  have h1 := eq_stps true fun s hs => FitS.form (h' s hs)
  have h2 : joinD (A " ; ") (.lst (ss.map fun x => Dat.str (stepText x))) = some (.str (Txt.join (A " ; ") (ss.map stepText))) := by
    have e : (ss.map fun x => Dat.str (stepText x)) = (ss.map stepText).map Dat.str := by rw [List.map_map]; rfl
    rw [e]
    exact joinD_lst (stepsText_len h hl).2
  have h3 : ss.length ≤ 16777216 := Nat.le_trans hl (by decide)
  simp only [F_steps_text, m_steps_text, e_def, c_STEPS, c_NO_STEPS, stepsText]
  by_cases e : ss = []
  · subst e
    simp [h1, sizeE]
  · have he : ss.isEmpty = false := by simp [e]
    rw [he] at h1
    simp [h1, h2, sizeE, key, h3, e]
theorem q_step_in {t : Str} (h : Fit t) (μ : Mu) : F_step_in ad [.d (.str t)] μ = .ok (.d (stpD (stepIn t))) μ := by
  have e1 : partD t (.str (A " ")) = some (.tup [.str (Txt.partition t (A " ")).1, .str (Txt.partition t (A " ")).2.1, .str (Txt.partition t (A " ")).2.2]) := part_str (by decide +kernel) h.le
  have e2 : partD (Txt.partition t (A " ")).2.2 (.str (A " / ")) = some (.tup [.str (Txt.partition (Txt.partition t (A " ")).2.2 (A " / ")).1, .str (Txt.partition (Txt.partition t (A " ")).2.2 (A " / ")).2.1, .str (Txt.partition (Txt.partition t (A " ")).2.2 (A " / ")).2.2]) := part_str (by decide +kernel) h.part3.le
  simp only [F_step_in, m_step_in, e_def, c_PAIR, c_SIDES, stepIn]
  by_cases hp : (Txt.partition t (A " ")).1 = A "pair"
  · simp [e1, e2, hp, eqStr, h.part1.ok, q_columns_in ad h.part3.part1, q_columns_in ad h.part3.part3, sizeE, stpD]
  · simp [e1, e2, hp, eqStr, h.part1.ok, sizeE, stpD]
theorem FitS.found {t : Str} (h : Fit t) : (∀ s ∈ stepsFound t, FitS s) ∧ (stepsFound t).length ≤ 502 := by
  unfold stepsFound
  split
  · exact ⟨fun s hs => (by cases hs), by decide⟩
  · refine ⟨fun s hs => ?_, by rw [List.length_map]; exact split_num h⟩
    obtain ⟨p, hp, rfl⟩ := List.mem_map.mp hs
    exact FitS.in (h.split hp)
theorem okS_stepsText {ss : List Stp} (h : ss.all isForm = true) : PyData.strOk (stepsText ss) = true := by
  rw [List.all_eq_true] at h
  unfold stepsText
  split
  · exact okS_of _
  · refine okS_join (okS_of _) fun p hp => ?_
    obtain ⟨s, hs, rfl⟩ := List.mem_map.mp hp
    refine okS_iff.mpr fun c hc => ?_
    have := step_signs (h s hs) c hc
    omega
theorem q_require_same {x y : Str} (hx : PyData.strOk x = true) (hy : PyData.strOk y = true) (μ : Mu) : F_require_same ad [.d (.str x), .d (.str y)] μ = if x = y then .ok (.d .non) μ else .ex "ParseError" μ := by
  simp only [F_require_same, m_require_same, e_def]
  by_cases e : x = y
  · subst e
    simp [eqStr, hx]
  · simp [eqStr, hx, hy, e]
theorem q_require_text (x : Str) (μ : Mu) : F_require_text ad [.d (.str x)] μ = .ok (.d .non) μ := by
  simp [F_require_text, m_require_text, e_def]
theorem q_steps_in {t : Str} (h : Fit t) (μ : Mu) : F_steps_in ad [.d (.str t)] μ = match stepsIn t with | some ss => .ok (.d (stpsD ss)) μ | none => .ex "ParseError" μ := by
  obtain ⟨f1, f2⟩ := FitS.found h
  have hs : splitD t (.str (A " ; ")) = some (.lst ((Txt.split t (A " ; ")).map Dat.str)) := split_str (by decide +kernel) (by have := h.len; omega)
  have key : lcGo (gN 2) fYes (fCall 1 (F_step_in ad) (fCons (fVar 2) fNil)) [some (.d (.str t)), none, none] μ.length ((Txt.split t (A " ; ")).map Dat.str) μ = .ok ((Txt.split t (A " ; ")).map fun x => stpD (stepIn x)) μ :=
    lc_map _ _ rfl fun c hc => by simp [q_step_in ad (h.split hc)]
  have h3 : (Txt.split t (A " ; ")).length ≤ 16777216 := Nat.le_trans (split_num h) (by decide)
  have hf : sSet (fIf (fB (fBin (oEq false) (fVar 0) (fC c_NO_STEPS))) (fTup fNil) (fCb tupleD (fCons (fLc (iSeq (fM1 splitD (fVar 0) (fC c_STEPS))) (gN 2) fYes (fCall 1 (F_step_in ad) (fCons (fVar 2) fNil)) [2]) fNil))) (gN 1) ⟨[some (.d (.str t)), none, none], μ.length⟩ μ =
      .nx ⟨[some (.d (.str t)), some (.d (stpsD (stepsFound t))), none], μ.length⟩ μ := by
    unfold stepsFound
    by_cases e : t = A "no steps"
    · subst e
      simp [eqStr, c_NO_STEPS, sizeE]
    · have em : ((Txt.split t (A " ; ")).map stepIn).map stpD = (Txt.split t (A " ; ")).map fun x => stpD (stepIn x) := by rw [List.map_map]; rfl
      simp [eqStr, h.ok, c_NO_STEPS, c_STEPS, sizeE, e, hs, key, h3]
  simp only [F_steps_in, m_steps_in, e_def, List.map_cons, List.map_nil, List.length_cons, List.length_nil]
  rw [e_seq]
  simp only [List.replicate, List.cons_append, List.nil_append, hf]
  unfold stepsIn
  by_cases a : (stepsFound t).all isForm = true
  · have hst := q_steps_text ad a f2 μ
    have hrs := q_require_same ad h.ok (okS_stepsText a) μ
    by_cases b : t = stepsText (stepsFound t)
    · rw [if_pos b] at hrs
      rw [if_pos ⟨a, b⟩]
      simp [q_are_step_forms ad f1 f2, hst, hrs, a]
    · rw [if_neg b] at hrs
      rw [if_neg fun z => b z.2]
      simp [q_are_step_forms ad f1 f2, hst, hrs, a]
  · have a' : (stepsFound t).all isForm = false := by simpa using a
    simp [q_are_step_forms ad f1 f2, a']
theorem q_format_steps {ss : List Stp} (h : ss.all isForm = true) (hl : ss.length ≤ 502) (μ : Mu) : F_format_steps ad [.d (stpsD ss)] μ = .ok (.d (.str (stepsText ss))) μ := by
  have h' := h
  rw [List.all_eq_true] at h'
  simp [F_format_steps, m_format_steps, e_def, q_are_step_forms ad (fun s hs => FitS.form (h' s hs)) hl, h, q_steps_text ad h hl]
theorem q_parse_steps {t : Str} (h : Fit t) (μ : Mu) : F_parse_steps ad [.d (.str t)] μ = match stepsIn t with | some ss => .ok (.d (stpsD ss)) μ | none => .ex "ParseError" μ := by
  simp only [F_parse_steps, m_parse_steps, e_def]
  cases e : stepsIn t <;> simp [q_require_text, q_steps_in ad h, e]
end M87

-- PC5
/-! PC5: what the defs compute: papers. -/
namespace DL
open PySem PySem.Spec PyProof.Rows L2
def eKv (kv : Str × Str) : Key × Dat := (.inr kv.1, .str kv.2)
theorem pairs_map : ∀ l : List (Str × Str), pairsD (l.map fun kv => Dat.tup [.str kv.1, .str kv.2]) = some (l.map eKv)
  | [] => rfl
  | kv :: r => by
    rw [List.map_cons]
    unfold pairsD
    rw [pairs_map r]
    rfl
theorem inr_dec (a k : Str) : decide ((Sum.inr a : Key) = Sum.inr k) = decide (a = k) := by
  by_cases h : a = k
  · subst h; simp
  · simp [h]
theorem put_map (m : List (Str × Str)) (k v : Str) : putD (m.map eKv) (.inr k) (.str v) = (TX.putS m k v).map eKv := by
  unfold putD TX.putS
  have e : ((m.map eKv).any fun kv => decide (kv.1 = .inr k)) = m.any fun kv => decide (kv.1 = k) := by
    rw [List.any_map]
    congr 1
    funext kv
    exact inr_dec kv.1 k
  rw [e]
  by_cases h : (m.any fun kv => decide (kv.1 = k)) = true
  · rw [if_pos h, if_pos h, List.map_map, List.map_map]
    apply List.map_congr_left
    intro kv _
    show (if (Sum.inr kv.1 : Key) = .inr k then ((Sum.inr kv.1 : Key), Dat.str v) else (Sum.inr kv.1, Dat.str kv.2)) = eKv (if kv.1 = k then (kv.1, v) else kv)
    by_cases h2 : kv.1 = k
    · rw [if_pos (by rw [h2]), if_pos h2]; rfl
    · rw [if_neg (fun z => h2 (Sum.inr.inj z)), if_neg h2]; rfl
  · rw [if_neg h, if_neg h, List.map_append]; rfl
theorem merge_map : ∀ (l m : List (Str × Str)), mergeD (m.map eKv) (l.map eKv) = (TX.mergeS m l).map eKv
  | [], _ => rfl
  | kv :: r, m => by
    show mergeD (putD (m.map eKv) (.inr kv.1) (.str kv.2)) (r.map eKv) = _
    rw [put_map, merge_map r]
    rfl
theorem val_map (m : List (Str × Str)) (k : Str) : valD (m.map eKv) (.inr k) = (TX.look m k).map Dat.str := by
  induction m with
  | nil => rfl
  | cons kv r ih =>
    obtain ⟨j, w⟩ := kv
    rw [TX.look_cons, List.map_cons]
    unfold valD
    by_cases h : j = k
    · rw [if_pos h, List.find?_cons_of_pos (by simp [eKv, h])]; rfl
    · rw [if_neg h, List.find?_cons_of_neg (by simp [eKv, h])]
      exact ih
theorem keyDs_map (m : List (Str × Str)) : keyDs (m.map eKv) = (TX.keysOf m).map Dat.str := by
  unfold keyDs TX.keysOf
  rw [List.map_map, List.map_map]; rfl
theorem valDs_map (m : List (Str × Str)) : valDs (m.map eKv) = m.map fun kv => Dat.str kv.2 := by
  unfold valDs
  rw [List.map_map]; rfl
theorem keySs_map : ∀ m : List (Str × Str), keySs (m.map eKv) = some (TX.keysOf m)
  | [] => rfl
  | kv :: r => by
    show (keySs (r.map eKv)).map (kv.1 :: ·) = _
    rw [keySs_map r]; rfl
theorem sorted_strs {l : List Str} (h : l.length < 64) : sortedD [.lst (l.map Dat.str)] = some (.lst ((sortS l).map Dat.str)) := by
  show (strsD (l.map Dat.str)).bind _ = _
  rw [strsD_map]
  exact if_pos h
theorem sorted_keys {m : List (Str × Str)} (h : m.length < 64) : sortedD [.dct (m.map eKv)] = some (.lst ((sortS (TX.keysOf m)).map Dat.str)) := by
  show (keySs (m.map eKv)).bind _ = _
  rw [keySs_map]
  exact if_pos (by rw [TX.keysOf, List.length_map]; exact h)
theorem dict_map (l : List (Str × Str)) : dictPD [.lst (l.map fun kv => Dat.tup [.str kv.1, .str kv.2])] = some (.dct ((TX.mergeS [] l).map eKv)) := by
  show (pairsD _).map _ = _
  rw [pairs_map]
  show some (Dat.dct (mergeD [] (l.map eKv))) = _
  rw [← merge_map]; rfl
end DL
namespace TX
open PySem TL
abbrev mapD (m : List (Str × Str)) : DL.Dat := .dct (m.map DL.eKv)
def papD : Pap → DL.Dat
  | .ch ss => .tup [.str (A "chain"), stpsD ss]
  | .wi p m => .tup [.str (A "witness"), .str p, mapD m]
structure FitM (m : List (Str × Str)) : Prop where
  f : ∀ kv ∈ m, Fit kv.1 ∧ Fit kv.2
  n : m.length ≤ 502
theorem put_mem {m : List (Str × Str)} {k v : Str} : ∀ kv ∈ putS m k v, kv ∈ m ∨ kv = (k, v) := by
  intro kv h
  unfold putS at h
  split at h
  · obtain ⟨x, hx, e⟩ := List.mem_map.mp h
    split at e
    · rename_i hk
      right
      rw [← e, hk]
    · left
      rw [← e]
      exact hx
  · rcases List.mem_append.mp h with h | h
    · exact .inl h
    · exact .inr (List.mem_singleton.mp h)
theorem put_len (m : List (Str × Str)) (k v : Str) : (putS m k v).length ≤ m.length + 1 := by
  unfold putS
  split
  · rw [List.length_map]; omega
  · rw [List.length_append]; exact Nat.le_refl _
theorem merge_mem : ∀ {l m : List (Str × Str)}, ∀ kv ∈ mergeS m l, kv ∈ m ∨ kv ∈ l
  | [], m, kv, h => .inl h
  | x :: l, m, kv, h => by
    rcases merge_mem (l := l) (m := putS m x.1 x.2) kv h with h | h
    · rcases put_mem kv h with h | h
      · exact .inl h
      · exact .inr (by rw [h]; exact List.mem_cons_self ..)
    · exact .inr (List.mem_cons_of_mem _ h)
theorem merge_len : ∀ (l m : List (Str × Str)), (mergeS m l).length ≤ m.length + l.length
  | [], m => by show m.length ≤ _; omega
  | x :: l, m => by
    have h1 := merge_len l (putS m x.1 x.2)
    have h2 := put_len m x.1 x.2
    show (mergeS (putS m x.1 x.2) l).length ≤ _
    rw [List.length_cons]
    omega
theorem Fit.mak {t : Str} (h : Fit t) : Fit (makIn t).1 ∧ Fit (makIn t).2 := by
  refine ⟨h.part1, ?_⟩
  show Fit (if (Txt.partition t (A " ")).2.2 = A "-" then A "" else (Txt.partition t (A " ")).2.2)
  split
  · exact ⟨DL.okS_of _, by decide +kernel⟩
  · exact h.part3
theorem FitM.found {t : Str} (h : Fit t) : FitM (maksFound t) := by
  unfold maksFound
  split
  · exact ⟨fun kv hk => (by cases hk), by decide⟩
  · refine ⟨fun kv hk => ?_, ?_⟩
    · rcases merge_mem kv hk with hk | hk
      · cases hk
      · obtain ⟨p, hp, rfl⟩ := List.mem_map.mp hk
        exact (h.split hp).mak
    · have h1 := merge_len ((Txt.split t (A ", ")).map makIn) []
      rw [List.length_map] at h1
      have h2 := split_num (y := A ", ") h
      have h3 : ([] : List (Str × Str)).length = 0 := rfl
      omega
theorem sort_mem {l : List Str} {x : Str} : x ∈ DL.sortS l ↔ x ∈ l := (DL.sortS_perm l).mem_iff
theorem sort_len (l : List Str) : (DL.sortS l).length = l.length := (DL.sortS_perm l).length_eq
theorem maks_len {m : List (Str × Str)} (h : areMaks m = true) : m.length ≤ 8 := by
  simp only [areMaks, Bool.and_eq_true] at h
  have z := cols_len h.1.2
  rw [sort_len, keysOf, List.length_map] at z
  exact z
theorem mak_small {v : Str} (h : maks.contains v = true) : PyData.strOk v = true ∧ v.length ≤ 3 ∧ PyData.strOk (makText v) = true ∧ (makText v).length ≤ 3 ∧ (if v.length != 0 then v else A "-") = makText v := by
  have h : v ∈ maks := by simpa using h
  have key : ∀ v ∈ maks, PyData.strOk v = true ∧ v.length ≤ 3 ∧ PyData.strOk (makText v) = true ∧ (makText v).length ≤ 3 ∧ (if v.length != 0 then v else A "-") = makText v := by decide +kernel
  exact key v h
end TX
namespace M87
open PySem PySem.Spec PyProof.Rows L2 DL TX
variable (ad : Ad)
theorem q_making_in {t : Str} (h : Fit t) (μ : Mu) : F_making_in ad [.d (.str t)] μ = .ok (.d (.tup [.str (makIn t).1, .str (makIn t).2])) μ := by
  have e1 : partD t (.str (A " ")) = some (.tup [.str (Txt.partition t (A " ")).1, .str (Txt.partition t (A " ")).2.1, .str (Txt.partition t (A " ")).2.2]) := part_str (by decide +kernel) h.le
  simp only [F_making_in, m_making_in, e_def, c_NOTHING, makIn]
  by_cases hp : (Txt.partition t (A " ")).2.2 = A "-"
  · simp [e1, hp, eqStr, sizeE]
  · simp [e1, hp, eqStr, h.part3.ok, sizeE]
theorem q_are_makings {m : List (Str × Str)} (h : FitM m) (hn : (m.all fun kv => isName kv.1) = true → m.length < 64) (μ : Mu) : F_are_makings ad [.d (mapD m)] μ = .ok (.d (.bl (areMaks m))) μ := by
  have h0 : m.length ≤ 16777216 := Nat.le_trans h.n (by decide)
  have key : lcGo (gN 1) fYes (fCall 1 (F_is_name ad) (fCons (fVar 1) fNil)) [some (.d (mapD m)), none, none] μ.length (m.map fun kv => Dat.str kv.1) μ = .ok (m.map fun kv => Dat.bl (isName kv.1)) μ :=
    lc_map _ _ rfl fun c hc => by simp [q_is_name ad (h.f c hc).1.le]
  have hin : ∀ x : Str, oIn false (.str x) c_MAKINGS = some (.bl (maks.contains x)) := fun x => by
    have e := in_strs false x maks
    rw [Bool.false_xor] at e
    exact e
  have key2 : lcGo (gN 2) fYes (fAnd (fIsi (isiT "str") (fVar 2)) (fBin (oIn false) (fVar 2) (fC c_MAKINGS))) [some (.d (mapD m)), none, none] μ.length (m.map fun kv => Dat.str kv.2) μ = .ok (m.map fun kv => Dat.bl (maks.contains kv.2)) μ :=
    lc_map _ _ rfl fun c hc => by simp only [e_and, e_isi, e_var, List.set_cons_succ, List.set_cons_zero, List.getElem?_cons_succ, List.getElem?_cons_zero, Res.bind_ok, e_vw, isi_ss, Option.map_some, e_ofO, e_tru1, e_truBl, e_ofB, e_bin, e_c, e_o2, hin]
  have hk : keyDs (m.map eKv) = m.map fun kv => Dat.str kv.1 := by rw [keyDs_map, List.map_map]; rfl
  have hcols := fun μ => q_are_columns ad (xs := sortS (keysOf m)) (fun x hx => by
    obtain ⟨kv, hkv, rfl⟩ := List.mem_map.mp (sort_mem.mp hx)
    exact (h.f kv hkv).1.le) (by rw [sort_len, keysOf, List.length_map]; exact h0) μ
  simp only [F_are_makings, m_are_makings, e_def, areMaks]
  cases a : m.all fun kv => isName kv.1
  · simp [hk, key, h0, sizeE, allD_map, a]
  · have hs := sorted_strs (l := keysOf m) (by rw [keysOf, List.length_map]; exact hn a)
    rw [← keyDs_map, hk] at hs
    cases b : areCols (sortS (keysOf m))
    · simp [hk, key, h0, sizeE, allD_map, a, hs, hcols, b]
    · simp [hk, key, h0, sizeE, allD_map, a, hs, hcols, b, valDs_map, key2]
end M87

-- PC6
/-! PC6: what the defs compute: order papers. -/
namespace DL
open PySem PySem.Spec PyProof.Rows L2
@[simp] theorem lcGo_nil (g : GM) (tt : BM) (te : EM) (sl : List (Option SV)) (n : Nat) (μ : Mu) : lcGo g tt te sl n [] μ = .ok [] μ := (rfl)
end DL
namespace M87
open PySem PySem.Spec PyProof.Rows L2 DL TX
variable (ad : Ad)
theorem q_is_order_ch {ss : List Stp} (h : ∀ s ∈ ss, FitS s) (hl : ss.length ≤ 502) (μ : Mu) : F_is_order_form ad [.d (papD (.ch ss))] μ = .ok (.d (.bl (ss.all isForm))) μ := by
  simp [F_is_order_form, m_is_order_form, e_def, papD, c_CHAIN, eqStr, eqInt, q_are_step_forms ad h hl]
theorem in_words (x : Str) : oIn false (.str x) c_WORDS = some (.bl (words.contains x)) := by
  have e := in_strs false x words
  rw [Bool.false_xor] at e
  exact e
theorem q_is_order_wi {w p : Str} {m : List (Str × Str)} (hw : Fit w) (hc : w ≠ A "chain") (h : FitM m) (hn : w = A "witness" → (m.all fun kv => isName kv.1) = true → m.length < 64) (μ : Mu) :
    F_is_order_form ad [.d (.tup [.str w, .str p, mapD m])] μ = .ok (.d (.bl (decide (w = A "witness") && isWi p m))) μ := by
  simp only [F_is_order_form, m_is_order_form, e_def, c_CHAIN, c_WITNESS, isWi]
  by_cases e : w = A "witness"
  · subst e
    have hne : ¬ (A "witness" = A "chain") := hc
    by_cases a : p ∈ words
    · simp [eqStr, eqInt, hne, in_words, a, q_are_makings ad h (hn rfl)]
    · simp [eqStr, eqInt, hne, in_words, a]
  · simp [eqStr, eqInt, hc, e, hw.ok]
theorem wi_len {p : Str} {m : List (Str × Str)} (h : isWi p m = true) : p.length ≤ 9 ∧ PyData.strOk p = true ∧ (told m).length ≤ 112 ∧ PyData.strOk (told m) = true ∧ (((sortS (keysOf m)).map (rowText m)).map (·.length)).sum + ((sortS (keysOf m)).map (rowText m)).length * (A ", ").length ≤ 112 := by
  simp only [isWi, Bool.and_eq_true] at h
  obtain ⟨h1, h2⟩ := asc_nodup_keys h.2
  rw [List.all_eq_true] at h1
  have hp : p ∈ words := by simpa using h.1
  have kp : ∀ p ∈ words, p.length ≤ 9 ∧ PyData.strOk p = true := by decide +kernel
  have hrow : ∀ k ∈ sortS (keysOf m), (rowText m k).length ≤ 12 ∧ PyData.strOk (rowText m k) = true := by
    intro k hk
    obtain ⟨v, e, hm⟩ := look_mem (sort_mem.mp hk)
    have hv : maks.contains v = true := by
      have h3 := h.2
      simp only [areMaks, Bool.and_eq_true, List.all_eq_true] at h3
      exact h3.2 _ hm
    obtain ⟨m1, m2, m3, m4, m5⟩ := mak_small hv
    have hn := h1 k hk
    have hnl := (name_len hn).2
    have l1 : (A " ").length = 1 := by decide +kernel
    unfold rowText
    rw [e]
    refine ⟨?_, okS_app (okS_app (okS_name hn) (okS_of _)) m3⟩
    rw [len_app, len_app, l1]
    show k.length + 1 + (makText v).length ≤ 12
    omega
  have hs : (sortS (keysOf m)).length ≤ 8 := by
    rw [sort_len, keysOf, List.length_map]
    exact maks_len h.2
  have hb := len_join_le (y := A ", ") (l := (sortS (keysOf m)).map (rowText m)) (n := 8) (B := 12) (by rw [List.length_map]; exact hs) fun x hx => by
    obtain ⟨k, hk, rfl⟩ := List.mem_map.mp hx
    exact (hrow k hk).1
  have l2 : (A ", ").length = 2 := by decide +kernel
  rw [l2] at hb
  refine ⟨(kp p hp).1, (kp p hp).2, ?_, ?_, by rw [l2]; omega⟩
  · unfold told
    split
    · decide +kernel
    · have := len_join (A ", ") ((sortS (keysOf m)).map (rowText m))
      rw [l2] at this
      omega
  · unfold told
    split
    · exact okS_of _
    · refine okS_join (okS_of _) fun x hx => ?_
      obtain ⟨k, hk, rfl⟩ := List.mem_map.mp hx
      exact (hrow k hk).2
theorem okS_wiText {p : Str} {m : List (Str × Str)} (h : isWi p m = true) : PyData.strOk (wiText p m) = true := by
  obtain ⟨h1, h2, h3, h4, _⟩ := wi_len h
  exact okS_app (okS_app (okS_app (okS_app (okS_of _) (okS_of _)) h2) (okS_of _)) h4
theorem q_order_ch {ss : List Stp} (h : ss.all isForm = true) (hl : ss.length ≤ 502) (μ : Mu) : F_order_text ad [.d (papD (.ch ss))] μ = .ok (.d (.str (papText (.ch ss)))) μ := by
  have h1 := (stepsText_len h hl).1
  have l1 : (A " ").length = 1 := by decide +kernel
  have l2 : (A "chain").length = 5 := by decide +kernel
  simp only [F_order_text, m_order_text, e_def, papD, papText, c_CHAIN]
  simp [eqStr, q_steps_text ad h hl, show (stepsText ss).length ≤ 16777216 by omega, sizeE, empty_app, len_app, l1, l2]
  rw [if_pos (by omega)]
  simp
theorem q_order_wi {p : Str} {m : List (Str × Str)} (h : isWi p m = true) (μ : Mu) : F_order_text ad [.d (papD (.wi p m))] μ = .ok (.d (.str (wiText p m))) μ := by
  obtain ⟨w1, w2, w3, w4, w5⟩ := wi_len h
  have l1 : (A " ").length = 1 := by decide +kernel
  have l2 : (A "witness").length = 7 := by decide +kernel
  have l3 : (A ": ").length = 2 := by decide +kernel
  have l4 : (A "-").length = 1 := by decide +kernel
  have hm : areMaks m = true := by
    simp only [isWi, Bool.and_eq_true] at h
    exact h.2
  obtain ⟨n1, n2⟩ := asc_nodup_keys hm
  rw [List.all_eq_true] at n1
  have hml := maks_len hm
  have key : ∀ μ : Mu, lcGo (gN 2) fYes (fJoined [(fFmt (fVar 2)), (fC (.str (Str.ofString " "))), (fFmt (fOr (fBin oDget (fBin oIx (fVar 0) (fC (.int 2))) (fVar 2)) (fC c_NOTHING)))]) [some (.d (papD (.wi p m))), none, none] μ.length ((sortS (keysOf m)).map Dat.str) μ = .ok ((sortS (keysOf m)).map fun k => Dat.str (rowText m k)) μ := fun μ =>
    lc_map _ _ rfl fun k hk => by
      obtain ⟨v, e, hmem⟩ := look_mem (sort_mem.mp hk)
      have hv : maks.contains v = true := by
        simp only [areMaks, Bool.and_eq_true, List.all_eq_true] at hm
        exact hm.2 _ hmem
      obtain ⟨m1, m2, m3, m4, m5⟩ := mak_small hv
      have hnl := (name_len (n1 k hk)).2
      have eg : oDget (mapD m) (.str k) = some (.str v) := by
        show (some (Sum.inr k : Key)).bind (fun k => valD (m.map eKv) k) = _
        show valD (m.map eKv) (.inr k) = _
        rw [val_map, e]; rfl
      have et : truD (.str v) = some (v.length != 0) := if_pos (Nat.le_trans m2 (by decide))
      have er : rowText m k = k ++ A " " ++ makText v := by unfold rowText; rw [e]; rfl
      rw [er]
      cases hz : v.length != 0
      · rw [hz] at m5 et
        have m5 : A "-" = makText v := m5
        rw [← m5]
        simp [papD, eg, et, c_NOTHING, sizeE, empty_app, len_app, l1, l4, show k.length ≤ 16777216 by omega]
        rw [if_pos (by omega), if_pos (by omega)]
        simp
      · rw [hz] at m5 et
        have m5 : v = makText v := m5
        rw [← m5]
        simp [papD, eg, et, c_NOTHING, sizeE, empty_app, len_app, l1, show k.length ≤ 16777216 by omega, show v.length ≤ 16777216 by omega]
        rw [if_pos (by omega), if_pos (by omega)]
        simp
  have hs := sorted_strs (l := keysOf m) (by rw [keysOf, List.length_map]; omega)
  rw [← keyDs_map] at hs
  have hj : joinD (A ", ") (.lst ((sortS (keysOf m)).map fun k => Dat.str (rowText m k))) = some (.str (Txt.join (A ", ") ((sortS (keysOf m)).map (rowText m)))) := by
    have e : ((sortS (keysOf m)).map fun k => Dat.str (rowText m k)) = ((sortS (keysOf m)).map (rowText m)).map Dat.str := by rw [List.map_map]; rfl
    rw [e]
    exact joinD_lst (Nat.le_trans w5 (by decide))
  have h3 : (sortS (keysOf m)).length ≤ 16777216 := by
    rw [sort_len, keysOf, List.length_map]
    omega
  have hcw : ¬ (A "witness" = A "chain") := by decide +kernel
  have ea : ∀ x : Str, x.length ≤ 112 → oAdd (.str (A "witness" ++ A " " ++ p ++ A ": ")) (.str x) = some (.str (A "witness" ++ A " " ++ p ++ A ": " ++ x)) := fun x hx => add_str (by rw [len_app, len_app, len_app, l1, l2, l3]; omega)
  simp only [F_order_text, m_order_text, e_def, c_CHAIN, c_WITNESS, wiText]
  have w3' := w3
  unfold told at w3' ⊢
  by_cases e : sortS (keysOf m) = []
  · rw [if_pos e] at w3' ⊢
    rw [e] at hs
    simp only [papD]
    simp [eqStr, hcw, hs, eq_nilL, sizeE, empty_app, len_app, l1, l2, l3, show p.length ≤ 16777216 by omega, c_NOTHING]
    rw [if_pos (by omega), if_pos (by omega)]
    simp [ea _ w3']
  · rw [if_neg e] at w3' ⊢
    have he : (sortS (keysOf m)).isEmpty = false := List.isEmpty_eq_false_iff.mpr e
    have key' := key μ
    simp only [papD] at key' ⊢
    simp [eqStr, hcw, hs, key', eq_nilL, sizeE, empty_app, len_app, l1, l2, l3, show p.length ≤ 16777216 by omega, h3, hj, e, he]
    rw [if_pos (by omega), if_pos (by omega)]
    simp [ea _ w3']
theorem len_join_ge (y : Str) : ∀ ps : List Str, ps.length * y.length ≤ (Str.join y ps).length + y.length
  | [] => by simp
  | [p] => by
    show 1 * y.length ≤ p.length + y.length
    omega
  | p :: q :: r => by
    have ih := len_join_ge y (q :: r)
    show (p :: q :: r).length * y.length ≤ (p ++ y ++ Str.join y (q :: r)).length + y.length
    rw [len_app, len_app, List.length_cons, Nat.succ_mul]
    omega
theorem split_num2 (t : Str) : (Txt.split t (A ", ")).length * 2 ≤ t.length + 2 := by
  have h := len_join_ge (A ", ") (Txt.split t (A ", "))
  rw [StrLaws.join_split, show (A ", ").length = 2 by decide +kernel] at h
  exact h
theorem maksFound_len (t : Str) : (maksFound t).length * 2 ≤ t.length + 2 := by
  unfold maksFound
  split
  · simp
  · have h1 := merge_len ((Txt.split t (A ", ")).map makIn) []
    rw [List.length_map] at h1
    have h2 := split_num2 t
    have h3 : ([] : List (Str × Str)).length = 0 := rfl
    omega
theorem q_order_in {t : Str} (h : Fit t) (hw : (Txt.partition t (A " ")).1 = A "witness" → t.length ≤ 120) (μ : Mu) :
    F_order_in ad [.d (.str t)] μ = match orderIn t with | some q => .ok (.d (papD q)) μ | none => .ex "ParseError" μ := by
  have e1 : partD t (.str (A " ")) = some (.tup [.str (Txt.partition t (A " ")).1, .str (Txt.partition t (A " ")).2.1, .str (Txt.partition t (A " ")).2.2]) := part_str (by decide +kernel) h.le
  have hrest := h.part3 (y := A " ")
  have hword := h.part1 (y := A " ")
  have hrl : (Txt.partition t (A " ")).2.2.length ≤ t.length := (PyProof.Rows.fact_partition t (A " ")).2.2
  generalize hq : Txt.partition t (A " ") = q at *
  obtain ⟨w, sg, r⟩ := q
  simp only at e1 hrest hword hw hrl
  have e2 : partD r (.str (A ": ")) = some (.tup [.str (Txt.partition r (A ": ")).1, .str (Txt.partition r (A ": ")).2.1, .str (Txt.partition r (A ": ")).2.2]) := part_str (by decide +kernel) hrest.le
  have hp4 := hrest.part1 (y := A ": ")
  have hp5 := hrest.part3 (y := A ": ")
  have htl : (Txt.partition r (A ": ")).2.2.length ≤ r.length := (PyProof.Rows.fact_partition r (A ": ")).2.2
  unfold orderIn
  simp only [hq]
  generalize hq2 : Txt.partition r (A ": ") = q2 at *
  obtain ⟨p, sg2, u⟩ := q2
  simp only at e2 hp4 hp5 htl ⊢
  by_cases hc : w = A "chain"
  · subst hc
    rw [if_pos rfl]
    simp only [F_order_in, m_order_in, e_def, c_CHAIN]
    cases es : stepsIn r with
    | none => simp [e1, eqStr, q_steps_in ad hrest, es]
    | some ss => simp [e1, eqStr, q_steps_in ad hrest, es, sizeE, papD]
  · rw [if_neg hc]
    have hs : splitD u (.str (A ", ")) = some (.lst ((Txt.split u (A ", ")).map Dat.str)) := split_str (by decide +kernel) (by have := hp5.len; omega)
    have h3 : (Txt.split u (A ", ")).length ≤ 16777216 := Nat.le_trans (split_num hp5) (by decide)
    have hf : ∃ μ', fZ (fIf (fB (fBin (oEq false) (fVar 5) (fC c_NOTHING))) fDctL (fCb dictPD (fCons (fLc (iSeq (fM1 splitD (fVar 5) (fC (.str (Str.ofString ", "))))) (gN 8) fYes (fCall 1 (F_making_in ad) (fCons (fVar 8) fNil)) [8]) fNil)))
        ⟨[some (.d (.str t)), some (.d (.str w)), some (.d (.str sg2)), some (.d (.str r)), some (.d (.str p)), some (.d (.str u)), none, none, none], μ.length⟩ μ =
        .ok (.d (mapD (maksFound u))) μ' ∧ μ'.take μ.length = μ := by
      unfold maksFound
      by_cases e : u = A "-"
      · subst e
        refine ⟨μ ++ [.dead], ?_, by simp⟩
        simp [eqStr, c_NOTHING, asD]
      · refine ⟨μ, ?_, by simp⟩
        have key : lcGo (gN 8) fYes (fCall 1 (F_making_in ad) (fCons (fVar 8) fNil)) [some (.d (.str t)), some (.d (.str w)), some (.d (.str sg2)), some (.d (.str r)), some (.d (.str p)), some (.d (.str u)), none, none, none] μ.length ((Txt.split u (A ", ")).map Dat.str) μ = .ok ((Txt.split u (A ", ")).map fun x => Dat.tup [.str (makIn x).1, .str (makIn x).2]) μ :=
          lc_map _ _ rfl fun c hc => by simp [q_making_in ad (hp5.split hc)]
        have hd : dictPD [.lst ((Txt.split u (A ", ")).map fun x => Dat.tup [.str (makIn x).1, .str (makIn x).2])] = some (mapD (mergeS [] ((Txt.split u (A ", ")).map makIn))) := by
          have em : ((Txt.split u (A ", ")).map fun x => Dat.tup [.str (makIn x).1, .str (makIn x).2]) = ((Txt.split u (A ", ")).map makIn).map fun kv => Dat.tup [.str kv.1, .str kv.2] := by rw [List.map_map]; rfl
          rw [em]
          exact dict_map _
        simp [eqStr, hp5.ok, c_NOTHING, e, hs, h3, sizeE, key, hd]
    obtain ⟨μ', hf, ht⟩ := hf
    have hM := FitM.found hp5
    have hform := fun μ => q_is_order_wi ad (p := p) hword hc hM (fun ew _ => by
      have := hw ew
      have := maksFound_len u
      omega) μ
    simp only [F_order_in, m_order_in, e_def, c_CHAIN, List.map_cons, List.map_nil, List.length_cons, List.length_nil]
    simp only [e_seq, e_sSet, e_m1, e_var, e_c, e_sIf, e_B, e_bin, e_o2, List.replicate, List.cons_append, List.nil_append, List.getElem?_cons_zero, List.getElem?_cons_succ, Res.bind_ok, e_vw, e1, e_ofO, e_gT, e_gC, e_gN, e_gO, List.map_cons, List.map_nil, List.length_cons, List.length_nil, List.set_cons_succ, List.set_cons_zero, if_true,
      eqStr false hword.ok (okS_of "chain"), hc, decide_false, Bool.xor_false, e_asB, e_sNx, e2]
    rw [hf]
    by_cases hwi : w = A "witness" ∧ isWi p (maksFound u) = true
    · obtain ⟨hw1, hw2⟩ := hwi
      subst hw1
      have ho := q_order_wi ad hw2 μ'
      have hrs := q_require_same ad h.ok (okS_wiText hw2) μ'
      simp only [papD] at ho
      by_cases b : t = wiText p (maksFound u)
      · rw [if_pos b] at hrs
        rw [if_pos ⟨rfl, hw2, b⟩]
        simp [sizeE, hform, hw2, ho, hrs, ht, papD]
      · rw [if_neg b] at hrs
        rw [if_neg fun z => b z.2.2]
        simp [sizeE, hform, hw2, ho, hrs, ht]
    · have hb : (decide (w = A "witness") && isWi p (maksFound u)) = false := by
        rw [Bool.and_eq_false_iff]
        by_cases e : w = A "witness"
        · right
          cases z : isWi p (maksFound u)
          · rfl
          · exact absurd ⟨e, z⟩ hwi
        · left
          exact decide_eq_false e
      have hform' : ∀ μ, F_is_order_form ad [SV.d (Dat.tup [Dat.str w, Dat.str p, mapD (maksFound u)])] μ = .ok (.d (.bl false)) μ := fun μ => by rw [hform, hb]
      rw [if_neg fun z => hwi ⟨z.1, z.2.1⟩]
      simp [sizeE, hform', ht]
theorem q_format_ch {ss : List Stp} (h : ss.all isForm = true) (hl : ss.length ≤ 502) (μ : Mu) : F_format_order ad [.d (papD (.ch ss))] μ = .ok (.d (.str (papText (.ch ss)))) μ := by
  have h' := h
  rw [List.all_eq_true] at h'
  simp [F_format_order, m_format_order, e_def, q_is_order_ch ad (fun s hs => FitS.form (h' s hs)) hl, h, q_order_ch ad h hl]
theorem fitM_of {m : List (Str × Str)} (h : areMaks m = true) : FitM m := by
  have hl := maks_len h
  simp only [areMaks, Bool.and_eq_true, List.all_eq_true] at h
  refine ⟨fun kv hk => ⟨.name (h.1.1 kv hk), ?_⟩, by omega⟩
  obtain ⟨m1, m2, _⟩ := mak_small (h.2 kv hk)
  exact ⟨m1, by omega⟩
theorem q_format_wi {p : Str} {m : List (Str × Str)} (h : isWi p m = true) (μ : Mu) : F_format_order ad [.d (papD (.wi p m))] μ = .ok (.d (.str (wiText p m))) μ := by
  have hm : areMaks m = true := by
    simp only [isWi, Bool.and_eq_true] at h
    exact h.2
  have hml := maks_len hm
  have hf := fun μ => q_is_order_wi ad (w := A "witness") (p := p) (m := m) ⟨okS_of _, by decide +kernel⟩ (by decide +kernel) (fitM_of hm) (fun _ _ => by omega) μ
  have ho := fun μ => q_order_wi ad h μ
  simp only [papD] at ho ⊢
  simp [F_format_order, m_format_order, e_def, hf, h, ho]
theorem q_parse_order {t : Str} (h : Fit t) (hw : (Txt.partition t (A " ")).1 = A "witness" → t.length ≤ 120) (μ : Mu) :
    F_parse_order ad [.d (.str t)] μ = match orderIn t with | some q => .ok (.d (papD q)) μ | none => .ex "ParseError" μ := by
  simp only [F_parse_order, m_parse_order, e_def]
  cases e : orderIn t <;> simp [q_require_text, q_order_in ad h hw, e]
end M87

-- PC7
/-! PC7: what the defs compute: integers, keeps. -/
namespace TX
open PySem TL
abbrev intsT (is : List Int) : DL.Dat := .tup (is.map DL.Dat.int)
structure FitI (is : List Int) : Prop where
  f : ∀ i ∈ is, i.natAbs < 10 ^ 500
  n : is.length ≤ 502
theorem intText_len {i : Int} (h : i.natAbs < 10 ^ 500) : (intText i).length ≤ 501 := by
  rw [len_tl]
  by_cases h0 : 0 ≤ i
  · obtain ⟨n, rfl⟩ := Int.eq_ofNat_of_zero_le h0
    rw [tl_nat]
    have := numL_len (k := 500) (n := n) (by decide) (by simpa using h)
    omega
  · obtain ⟨n, hn⟩ := Int.eq_ofNat_of_zero_le (a := -i) (by omega)
    have e : i = -(n : Int) := by omega
    subst e
    rw [tl_neg (by omega), List.length_cons]
    have := numL_len (k := 500) (n := n) (by decide) (by simpa using h)
    omega
theorem FitI.log {is : List Int} (h : FitI is) {i : Int} (hi : i ∈ is) : i.natAbs.log2 < 1920 := log_lt (h.f i hi) (by decide)
theorem ints_join_len (y : Str) {is : List Int} (h : FitI is) (hy : y.length ≤ 10) : (((is.map intText).map (·.length)).sum + (is.map intText).length * y.length ≤ 16777216) ∧ (Txt.join y (is.map intText)).length ≤ 300000 := by
  have h1 := len_join_le (y := y) (l := is.map intText) (n := 502) (B := 501) (by rw [List.length_map]; exact h.n) fun x hx => by
    obtain ⟨i, hi, rfl⟩ := List.mem_map.mp hx
    exact intText_len (h.f i hi)
  have h2 := len_join y (is.map intText)
  have h3 : 502 * (501 + y.length) ≤ 502 * 511 := Nat.mul_le_mul_left _ (by omega)
  omega
theorem okS_ints (y : Str) (hy : PyData.strOk y = true) (is : List Int) : PyData.strOk (Txt.join y (is.map intText)) = true := DL.okS_join hy fun p hp => by
  obtain ⟨i, _, rfl⟩ := List.mem_map.mp hp
  exact DL.okS_int i
theorem okS_values (is : List Int) : PyData.strOk (valuesText is) = true := by
  unfold valuesText
  split
  · exact DL.okS_of _
  · exact okS_ints _ (DL.okS_of _) is
theorem okS_keep (is : List Int) : PyData.strOk (keepText is) = true := by
  unfold keepText
  split
  · exact DL.okS_of _
  · exact okS_values is
theorem FitI.found {f : Str → Option Int} (hf : ∀ t i, f t = some i → i.natAbs < 10 ^ t.length) {t y : Str} (h : Fit t) {is : List Int} (e : mapO f (Txt.split t y) = some is) : FitI is := by
  obtain ⟨h1, h2⟩ := mapO_mem e
  refine ⟨fun i hi => ?_, by rw [← h1]; exact split_num h⟩
  obtain ⟨x, hx, ex⟩ := h2 i hi
  have z := hf x i ex
  have h3 : 10 ^ x.length ≤ 10 ^ 500 := Nat.pow_le_pow_right (by omega) (h.split hx).len
  omega
theorem FitI.values {t : Str} (h : Fit t) {is : List Int} (e : valuesIn t = some is) : FitI is := by
  unfold valuesIn at e
  split at e
  · cases e; exact ⟨fun i hi => (by cases hi), by decide⟩
  · exact FitI.found (fun _ _ => integerIn_lt) h e
theorem FitI.keep {t : Str} (h : Fit t) {is : List Int} (e : keepFound t = some is) : FitI is := by
  unfold keepFound at e
  split at e
  · cases e; exact ⟨fun i hi => (by cases hi), by decide⟩
  · exact FitI.values h e
theorem okI {is : List Int} : DL.OkD 1 (intsT is) := DL.okD_tup (n := 0) fun d hd => by
  obtain ⟨x, hx, rfl⟩ := List.mem_map.mp hd
  exact DL.okD_int x
theorem starts_neg (x : Str) : Txt.startswith x (A "-") = negT x := by
  unfold Txt.startswith negT
  have l : (A "-").length = 1 := by decide +kernel
  rw [l, StrLaws.subAt_eq, len_tl]
  have e : (A "-").cps.toList = [45] := tl_dash
  rw [e]
  show (decide (0 + 1 ≤ (tl x).length) && ((tl x).drop 0).take 1 == [45]) = _
  cases tl x with
  | nil => rfl
  | cons c r => simp
theorem tl_cut1 (x : Str) : tl (L2.cutS x (some 1) none) = (tl x).tail := by
  show (x.cps.toList.drop (HT.sIx x.length 0 (some 1))).take (HT.sIx x.length x.length none - HT.sIx x.length 0 (some 1)) = _
  have e1 : HT.sIx x.length 0 (some 1) = min 1 x.length := HT.sIx_nat x.length 0 1
  have e2 : HT.sIx x.length x.length none = x.length := rfl
  rw [e1, e2]
  have hx := len_tl x
  show ((tl x).drop (min 1 x.length)).take (x.length - min 1 x.length) = _
  rw [hx]
  cases tl x with
  | nil => rfl
  | cons c r =>
    rw [show min 1 (c :: r).length = 1 by rw [List.length_cons]; omega]
    exact List.take_of_length_le (by simp)
end TX
namespace M87
open PySem PySem.Spec PyProof.Rows L2 DL TX
variable (ad : Ad)
theorem fig_mem (c : Nat) : decide (c ∈ (Str.ofString "0123456789").cps.toList) = (decide (48 ≤ c) && decide (c ≤ 57)) := by
  have e : (Str.ofString "0123456789").cps.toList = (List.range 10).map (· + 48) := by decide +kernel
  rw [e, ← Bool.decide_and]
  congr 1
  simp only [List.mem_map, List.mem_range, eq_iff_iff]
  constructor
  · rintro ⟨a, h, rfl⟩; omega
  · rintro ⟨h1, h2⟩; exact ⟨c - 48, by omega, by omega⟩
theorem q_integer_in {t : Str} (h : Fit t) (μ : Mu) : F_integer_in ad [.d (.str t)] μ = match integerIn t with | some i => .ok (.d (.int i)) μ | none => .ex "ParseError" μ := by
  obtain ⟨z, hz, hzt⟩ : ∃ z : Str, (if negT t = true then cutS t (some 1) none else t) = z ∧ TL.tl z = figs t := by
    refine ⟨_, rfl, ?_⟩
    unfold figs
    split
    · exact tl_cut1 t
    · rfl
  have hzl : z.length ≤ 500 := by
    rw [TL.len_tl, hzt]
    have := h.len
    rw [TL.len_tl] at this
    unfold figs
    split
    · rw [List.length_tail]; omega
    · exact this
  have hset : sSet (fIf (fTru (fM1 startsD (fVar 0) (fC c_NOTHING))) (fSl (fVar 0) (fPart (fC (.int 1))) fNo) (fVar 0)) (gN 1) ⟨[some (.d (.str t)), none, none], μ.length⟩ μ = .nx ⟨[some (.d (.str t)), some (.d (.str z)), none], μ.length⟩ μ := by
    have e := starts_neg t
    cases hn : negT t
    · rw [hn] at hz e
      simp at hz
      subst hz
      simp [c_NOTHING, e]
    · rw [hn] at hz e
      simp at hz
      simp [c_NOTHING, e, slD, sizeE, h.le, hz]
  have key : lcGo (gN 2) fYes (fBin (oIn false) (fVar 2) (fC c_FIGURES)) [some (.d (.str t)), some (.d (.str z)), none] μ.length (z.cps.toList.map fun c => Dat.str ⟨#[c]⟩) μ = .ok (z.cps.toList.map fun c => Dat.bl (decide (48 ≤ c) && decide (c ≤ 57))) μ :=
    lc_map _ _ rfl fun c _ => by simp only [e_bin, e_var, List.set_cons_succ, List.set_cons_zero, List.getElem?_cons_succ, List.getElem?_cons_zero, Res.bind_ok, e_c, e_o2, c_FIGURES, in_sign, fig_mem, e_ofO]
  have hall : allD [.lst (z.cps.toList.map fun c => Dat.bl (decide (48 ≤ c) && decide (c ≤ 57)))] = some (.bl ((figs t).all fun c => decide (48 ≤ c) && decide (c ≤ 57))) := by
    rw [← hzt]
    exact allD_map _ _
  have h3 : z.cps.size ≤ 16777216 := Nat.le_trans hzl (by decide)
  simp only [F_integer_in, m_integer_in, e_def, List.map_cons, List.map_nil, List.length_cons, List.length_nil]
  rw [e_seq]
  simp only [List.replicate, List.cons_append, List.nil_append, hset]
  have hd : digs (figs t) = (decide (1 ≤ z.length) && (figs t).all fun c => decide (48 ≤ c) && decide (c ≤ 57)) := by
    unfold digs
    congr 1
    rw [TL.len_tl, hzt]
    cases figs t <;> simp
  have hi : ∀ i, integerIn t = some i → intD [.str t] = some (.int i) := fun i hi => by
    show (if t.length ≤ 640 then (PySem.intText? t).map Dat.int else none) = _
    rw [if_pos (by have := h.len; omega), intText_of hi (by have := h.len; omega)]
    rfl
  have hi' : digs (figs t) = false → integerIn t = none := fun e => by
    unfold integerIn
    rw [e]
    rfl
  have hi2 : digs (figs t) = true → ∃ i, integerIn t = some i := fun e => by
    unfold integerIn
    rw [e]
    exact ⟨_, rfl⟩
  have e8 : ((z.length : Int) ≤ 4000) = True := by simp; omega
  by_cases a : 1 ≤ z.length
  · have e1 : ((1 : Int) ≤ (z.length : Int)) = True := by simp; omega
    cases b : (figs t).all fun c => decide (48 ≤ c) && decide (c ≤ 57)
    · rw [b] at hd hall
      rw [hi' (by rw [hd]; simp)]
      simp [c_MOST_FIGURES, show z.length ≤ 16777216 by omega, e8, e1, sizeE, h3, key, hall]
    · rw [b] at hd hall
      obtain ⟨i, hii⟩ := hi2 (by rw [hd]; simp [a])
      rw [hii]
      simp [c_MOST_FIGURES, show z.length ≤ 16777216 by omega, e8, e1, sizeE, h3, key, hall, hi i hii]
  · have e1 : ((1 : Int) ≤ (z.length : Int)) = False := by simp; omega
    rw [hi' (by rw [hd]; simp [a])]
    simp [c_MOST_FIGURES, show z.length ≤ 16777216 by omega, e1]
theorem q_values_in {t : Str} (h : Fit t) (μ : Mu) : F_values_in ad [.d (.str t)] μ = match valuesIn t with | some is => .ok (.d (intsT is)) μ | none => .ex "ParseError" μ := by
  have hs : splitD t (.str (A " ")) = some (.lst ((Txt.split t (A " ")).map Dat.str)) := split_str (by decide +kernel) (by have := h.len; omega)
  have h3 : (Txt.split t (A " ")).length ≤ 16777216 := Nat.le_trans (split_num h) (by decide)
  have key : lcGo (gN 1) fYes (fCall 1 (F_integer_in ad) (fCons (fVar 1) fNil)) [some (.d (.str t)), none] μ.length ((Txt.split t (A " ")).map Dat.str) μ = ofE "ParseError" μ (fun ys => ys.map Dat.int) (mapO integerIn (Txt.split t (A " "))) :=
    lc_opt Dat.str integerIn Dat.int rfl fun c hc => by
      cases ei : integerIn c <;> simp [q_integer_in ad (h.split hc), ei, ofE]
  simp only [F_values_in, m_values_in, e_def, c_NOTHING, valuesIn]
  by_cases e : t = A "-"
  · subst e
    simp [eqStr, sizeE]
  · cases em : mapO integerIn (Txt.split t (A " ")) with
    | none =>
      rw [em] at key
      simp [eqStr, h.ok, e, hs, h3, sizeE, key, em, ofE]
    | some ys =>
      rw [em] at key
      simp [eqStr, h.ok, e, hs, h3, sizeE, key, em, ofE]
theorem eq_ints (neg : Bool) (is : List Int) : oEq neg (intsT is) (.tup []) = some (.bl (xor neg is.isEmpty)) := by
  rw [eq_nilT neg okI (by decide), List.isEmpty_map]
theorem q_values_text {is : List Int} (h : FitI is) (μ : Mu) : F_values_text ad [.d (intsT is)] μ = .ok (.d (.str (valuesText is))) μ := by
  have key : lcGo (gN 1) fYes (fCb strD (fCons (fVar 1) fNil)) [some (.d (intsT is)), none] μ.length (is.map Dat.int) μ = .ok (is.map fun i => Dat.str (intText i)) μ :=
    lc_map _ _ rfl fun c hc => by simp [str_int (h.log hc)]
  have hj : joinD (A " ") (.lst (is.map fun i => Dat.str (intText i))) = some (.str (Txt.join (A " ") (is.map intText))) := by
    have e : (is.map fun i => Dat.str (intText i)) = (is.map intText).map Dat.str := by rw [List.map_map]; rfl
    rw [e]
    exact joinD_lst (ints_join_len (A " ") h (by decide +kernel)).1
  have h1 := eq_ints true is
  have h3 : is.length ≤ 16777216 := Nat.le_trans h.n (by decide)
  simp only [F_values_text, m_values_text, e_def, c_NOTHING, valuesText]
  by_cases e : is = []
  · subst e
    simp [h1, sizeE]
  · have he : is.isEmpty = false := List.isEmpty_eq_false_iff.mpr e
    rw [he] at h1
    simp [h1, hj, sizeE, key, h3, e]
theorem q_keep_text {is : List Int} (h : FitI is) (μ : Mu) : F_keep_text ad [.d (intsT is)] μ = .ok (.d (.str (keepText is))) μ := by
  have h1 := eq_ints true is
  simp only [F_keep_text, m_keep_text, e_def, c_NONE, keepText]
  by_cases e : is = []
  · subst e
    simp [h1, sizeE]
  · have he : is.isEmpty = false := List.isEmpty_eq_false_iff.mpr e
    rw [he] at h1
    simp [h1, sizeE, q_values_text ad h, e]
theorem q_keep_in {t : Str} (h : Fit t) (μ : Mu) : F_keep_in ad [.d (.str t)] μ = match keepFound t with | some is => .ok (.d (intsT is)) μ | none => .ex "ParseError" μ := by
  simp only [F_keep_in, m_keep_in, e_def, c_NONE, keepFound]
  by_cases e : t = A "none"
  · subst e
    simp [eqStr, sizeE]
  · cases ev : valuesIn t <;> simp [eqStr, h.ok, e, q_values_in ad h, ev]
theorem q_are_indices {is : List Int} (h : FitI is) (μ : Mu) : F_are_indices ad [.d (.int 200), .d (intsT is)] μ = .ok (.d (.bl (areIdx is))) μ := by
  have h3 : is.length ≤ 16777216 := Nat.le_trans h.n (by decide)
  have key : lcGo (gN 2) fYes (fCall 2 (F_is_index ad) (fCons (fVar 0) (fCons (fVar 2) fNil))) [some (.d (.int 200)), some (.d (intsT is)), none, none, none] μ.length (is.map Dat.int) μ = .ok (is.map fun i => Dat.bl (decide (0 ≤ i) && decide (i < 200))) μ :=
    lc_map _ _ rfl fun c hc => by simp [q_is_index]
  have key2 : lcGo (gT 2 (gC (gN 3) (gC (gN 4) gO))) fYes (fBin oLt (fVar 3) (fVar 4)) [some (.d (.int 200)), some (.d (intsT is)), none, none, none] μ.length ((is.zip is.tail).map fun a => .tup [.int a.1, .int a.2]) μ = .ok ((is.zip is.tail).map fun a => Dat.bl (decide (a.1 < a.2))) μ :=
    lc_mapT _ _ _ rfl fun c hc => by simp
  have hc := cut1 (is.map Dat.int)
  simp only [F_are_indices, m_are_indices, e_def]
  cases b : is.all fun i => decide (0 ≤ i) && decide (i < 200)
  · simp only [areIdx, b]
    simp [sizeE, h3, key, allD_map, b]
  · simp only [areIdx, b]
    simp [sizeE, h3, key, allD_map, b, slD, hc, zip_adj, key2, ascI_all, show is.length ≤ 16777217 by omega]
theorem q_are_keep_indices {is : List Int} (h : FitI is) (μ : Mu) : F_are_keep_indices ad [.d (intsT is)] μ = .ok (.d (.bl (areIdx is))) μ := by
  simp [F_are_keep_indices, m_are_keep_indices, e_def, c_MOST_ROWS, q_are_indices ad h]
theorem q_parse_keep {t : Str} (h : Fit t) (μ : Mu) : F_parse_keep ad [.d (.str t)] μ = match keepIn t with | some is => .ok (.d (intsT is)) μ | none => .ex "ParseError" μ := by
  simp only [F_parse_keep, m_parse_keep, e_def, keepIn]
  cases e : keepFound t with
  | none => simp [q_require_text, q_keep_in ad h, e]
  | some is =>
    have hI := FitI.keep h e
    by_cases a : areIdx is = true
    · have hrs := q_require_same ad h.ok (okS_keep is) μ
      by_cases b : t = keepText is
      · rw [if_pos b] at hrs
        simp only [if_pos (⟨a, b⟩ : areIdx is = true ∧ t = keepText is)]
        simp [q_require_text, q_keep_in ad h, e, q_are_keep_indices ad hI, a, q_keep_text ad hI, hrs]
      · rw [if_neg b] at hrs
        simp only [if_neg (fun z => b z.2 : ¬ (areIdx is = true ∧ t = keepText is))]
        simp [q_require_text, q_keep_in ad h, e, q_are_keep_indices ad hI, a, q_keep_text ad hI, hrs]
    · have a' : areIdx is = false := by simpa using a
      simp [q_require_text, q_keep_in ad h, e, q_are_keep_indices ad hI, a']
theorem q_format_keep {is : List Int} (h : FitI is) (ha : areIdx is = true) (μ : Mu) : F_format_keep ad [.d (intsT is)] μ = .ok (.d (.str (keepText is))) μ := by
  simp [F_format_keep, m_format_keep, e_def, q_are_keep_indices ad h, ha, q_keep_text ad h]
end M87

-- PC8
/-! PC8: what the defs compute: scales, amounts. -/
namespace M87
open PySem PySem.Spec PyProof.Rows L2 DL TX
variable (ad : Ad)
def fldsD (w : Str) (k : Int) (z o : Dat) : List (Str × Dat) := [(Str.ofString "own_word", .str w), (Str.ofString "own_size", .int k), (Str.ofString "own_zero", z), (Str.ofString "own_one", o)]
def scC (ad : Ad) : Kd → Addr
  | .sums => ad.C_SumScale
  | .classes _ => ad.C_ClassScale
  | .odds => ad.C_OddsScale
def scW : Kd → Str
  | .sums => A "sums"
  | .classes _ => A "classes"
  | .odds => A "odds"
def scN : Kd → Int
  | .classes k => k
  | _ => 1
def scF : Kd → List (Str × Dat)
  | .sums => fldsD (A "sums") 1 (.int 0) (.int 1)
  | .classes k => fldsD (A "classes") k (.tup (List.replicate k (.int 0))) (.tup (.int 1 :: List.replicate (k - 1) (.int 0)))
  | .odds => fldsD (A "odds") 1 (.tup [.int 1, .int 1]) (.tup [.int 2, .int 1])
def scD (ad : Ad) (kd : Kd) : Dat := .ins (scC ad kd) (scF kd)
theorem names_nd : (A "own_word" ≠ A "own_size" ∧ A "own_word" ≠ A "own_zero" ∧ A "own_word" ≠ A "own_one" ∧ A "own_size" ≠ A "own_zero" ∧ A "own_size" ≠ A "own_one" ∧ A "own_zero" ≠ A "own_one") := by decide +kernel
theorem look_word (kd : Kd) : (scF kd).lookup (Str.ofString "own_word") = some (.str (scW kd)) := by
  cases kd <;> simp [scF, fldsD, scW, List.lookup]
theorem look_size (kd : Kd) : (scF kd).lookup (Str.ofString "own_size") = some (.int (scN kd)) := by
  have h : (Str.ofString "own_size" == Str.ofString "own_word") = false := by decide +kernel
  cases kd <;> simp [scF, fldsD, scN, List.lookup, h]
theorem look_no (kd : Kd) (x : String) (h : (Str.ofString x == Str.ofString "own_word") = false ∧ (Str.ofString x == Str.ofString "own_size") = false ∧ (Str.ofString x == Str.ofString "own_zero") = false ∧ (Str.ofString x == Str.ofString "own_one") = false) : (scF kd).lookup (Str.ofString x) = none := by
  cases kd <;> simp [scF, fldsD, List.lookup, h.1, h.2.1, h.2.2.1, h.2.2.2]
theorem sc_mem (kd : Kd) : scC ad kd ∈ clsI ad := by
  cases kd <;> simp [scC, clsI]
theorem q_init (C : Addr) (hC : C ∈ clsI ad) (w : Str) (k : Int) (z o : Dat) (μ : Mu) : F_Scale___init__ ad [.r μ.length, .d (.str w), .d (.int k), .d z, .d o] (μ ++ [.ins C []]) = .ok (.d .non) (μ ++ [.ins C (fldsD w k z o)]) := by
  obtain ⟨n1, n2, n3, n4, n5, n6⟩ := names_nd
  simp [F_Scale___init__, m_Scale___init__, e_def, sFldD, hC, putFD, n1, n2, n3, n4, n5, n6, fldsD]
  rw [List.take_of_length_le (by simp)]
theorem e_make (C : Addr) (n : Nat) (Fn : FnM) (fa : AM) (ρ : En) (μ : Mu) : fMake C n Fn fa ρ μ = ((fa ρ μ).bind fun xs μ1 => if xs.length + 1 = n then ((Fn (.r μ1.length :: xs) (μ1 ++ [.ins C []])).exT μ1.length).bind fun y μ2 => match y, μ2[μ1.length]? with
  | .d .non, some (.ins C' fs) => .ok (.d (.ins C' fs)) (μ2.take μ1.length)
  | _, _ => .bad else .bad) := (rfl)
theorem q_sums (μ : Mu) : F_Scale_sums ad [] μ = .ok (.d (scD ad .sums)) μ := by
  have h := q_init ad ad.C_SumScale (by simp [clsI]) (A "sums") 1 (.int 0) (.int 1) μ
  simp [F_Scale_sums, m_Scale_sums, e_def, e_make, c_SUMS, h, scD, scC, scF]
theorem q_odds (μ : Mu) : F_Scale_odds ad [] μ = .ok (.d (scD ad .odds)) μ := by
  have h := q_init ad ad.C_OddsScale (by simp [clsI]) (A "odds") 1 (.tup [.int 1, .int 1]) (.tup [.int 2, .int 1]) μ
  simp [F_Scale_odds, m_Scale_odds, e_def, e_make, c_ODDS, h, scD, scC, scF, sizeE]
theorem mul_t {k : Int} (h0 : 0 ≤ k) (h1 : k ≤ 1000) : oMul (.tup [.int 0]) (.int k) = some (.tup (List.replicate k.toNat (.int 0))) := by
  have hr : ∀ n : Nat, (List.replicate n [Dat.int 0]).flatten = List.replicate n (.int 0) := fun n => by
    induction n with
    | zero => rfl
    | succ n ih => rw [List.replicate_succ, List.flatten_cons, ih]; rfl
  show (if [Dat.int 0] ≠ [] ∧ 2 ≤ k ∧ k ≤ 1000 ∧ [Dat.int 0].length ≤ 1000 then some (Dat.tup (repD k [Dat.int 0])) else if k = 1 then some (.tup [Dat.int 0]) else if [Dat.int 0] ≠ [] ∧ k ≤ 0 ∧ -1000 ≤ k then some (.tup []) else none) = _
  by_cases a : 2 ≤ k
  · rw [if_pos ⟨by simp, a, h1, by simp⟩]
    unfold repD
    rw [hr]
  · rw [if_neg fun z => a z.2.1]
    by_cases b : k = 1
    · rw [if_pos b, b]; rfl
    · rw [if_neg b, if_pos ⟨by simp, by omega, by omega⟩]
      have : k = 0 := by omega
      rw [this]; rfl
theorem q_classes {k : Nat} (h1 : 1 ≤ k) (h4 : k ≤ 4) (μ : Mu) : F_Scale_classes ad [.d (.int k)] μ = .ok (.d (scD ad (.classes k))) μ := by
  have h := q_init ad ad.C_ClassScale (by simp [clsI]) (A "classes") k (.tup (List.replicate k (.int 0))) (.tup (.int 1 :: List.replicate (k - 1) (.int 0))) μ
  have m1 := mul_t (k := (k : Int)) (by omega) (by omega)
  have m2 := mul_t (k := (k : Int) - 1) (by omega) (by omega)
  rw [Int.toNat_natCast] at m1
  have e2 : ((k : Int) - 1).toNat = k - 1 := by omega
  rw [e2] at m2
  have a1 : oAdd (.tup [.int 1]) (.tup (List.replicate (k - 1) (.int 0))) = some (.tup (.int 1 :: List.replicate (k - 1) (.int 0))) := by
    show (if [Dat.int 1].length + (List.replicate (k - 1) (Dat.int 0)).length ≤ sizeLine then some (Dat.tup ([Dat.int 1] ++ List.replicate (k - 1) (Dat.int 0))) else none) = _
    rw [if_pos (by rw [List.length_replicate, sizeE]; simp; omega)]
    rfl
  have e3 : ((1 : Int) ≤ (k : Int)) = True := by simp; omega
  have e4 : ((k : Int) ≤ 4) = True := by simp; omega
  simp [F_Scale_classes, m_Scale_classes, e_def, e_make, c_CLASSES, c_MAX_SIZE, q_is_integer, e3, e4, m1, m2, a1, h, scD, scC, scF, sizeE]
theorem isi_sc (kd : Kd) : isi_Scale ad (scD ad kd) = some true := by
  show (if scC ad kd ∈ clsI ad then some true else none) = _
  exact if_pos (sc_mem ad kd)
theorem q_require_scale (kd : Kd) (μ : Mu) : F_require_scale ad [.d (scD ad kd)] μ = .ok (.d .non) μ := by
  simp [F_require_scale, m_require_scale, e_def, isi_sc]
theorem okW (kd : Kd) : PyData.strOk (scW kd) = true := by cases kd <;> exact okS_of _
theorem q_eq (k1 k2 : Kd) (μ : Mu) : F_Scale___eq__ ad [.d (scD ad k1), .d (scD ad k2)] μ = .ok (.d (.bl (decide (scW k1 = scW k2) && decide (scN k1 = scN k2)))) μ := by
  have h := isi_sc ad k2
  unfold scD at h ⊢
  simp only [F_Scale___eq__, m_Scale___eq__, e_def]
  by_cases e : scW k1 = scW k2
  · simp [h, sc_mem, look_word, look_size, eqStr, okW, eqInt, e]
  · simp [h, sc_mem, look_word, look_size, eqStr, okW, eqInt, e]
def pickK (kd : Kd) (f g h : FnM) : FnM := match kd with | .sums => f | .classes _ => g | .odds => h
theorem pickK_same (kd : Kd) (f : FnM) : pickK kd f f f = f := by cases kd <;> rfl
theorem alts_sc (hn : (clsI ad).Nodup) (kd : Kd) (f g h : FnM) : (List.lookup (scC ad kd) [(ad.C_SumScale, f), (ad.C_ClassScale, g), (ad.C_OddsScale, h)] : Option FnM) = some (pickK kd f g h) := by
  simp only [clsI, List.nodup_cons, List.mem_cons, List.not_mem_nil, or_false, not_or] at hn
  obtain ⟨⟨n1, n2⟩, n3, _⟩ := hn
  cases kd with
  | sums => simp [scC, List.lookup, pickK]
  | classes k => simp [scC, List.lookup, pickK, show (ad.C_ClassScale == ad.C_SumScale) = false from beq_eq_false_iff_ne.mpr (Ne.symm n1)]
  | odds => simp [scC, List.lookup, pickK, show (ad.C_OddsScale == ad.C_SumScale) = false from beq_eq_false_iff_ne.mpr (Ne.symm n2), show (ad.C_OddsScale == ad.C_ClassScale) = false from beq_eq_false_iff_ne.mpr (Ne.symm n3)]
theorem wh_gcd (n : Nat) (μ : Mu) : ∀ (m a b : Nat), b < m →
    whGo (fB (fBin oGt (fVar 1) (fC (.int 0)))) (sPar 0 1 (fCons (fVar 1) (fCons (fBin oMod (fCb intD (fCons (fVar 0) fNil)) (fVar 1)) fNil))) m ⟨[some (.d (.int a)), some (.d (.int b))], n⟩ μ = .nx ⟨[some (.d (.int (Nat.gcd a b))), some (.d (.int 0))], n⟩ μ
  | 0, _, _, h => by cases h
  | m + 1, a, b, h => by
    unfold whGo
    by_cases hb : b = 0
    · subst hb
      simp
    · have hp : (0 : Int) < (b : Int) := by omega
      have ih := wh_gcd n μ m b (a % b) (by have := Nat.mod_lt a (Nat.pos_of_ne_zero hb); omega)
      have eg : Nat.gcd b (a % b) = Nat.gcd a b := by rw [Nat.gcd_comm a b, Nat.gcd_rec b a, Nat.gcd_comm]
      rw [eg, Int.natCast_emod] at ih
      have em : oMod (.int (a : Int)) (.int (b : Int)) = some (.int ((a : Int) % (b : Int))) := if_pos hp
      simp [show 0 < b by omega, em, ih]
theorem q_common_divisor (a b : Nat) (μ : Mu) : F_common_divisor ad [.d (.int a), .d (.int b)] μ = .ok (.d (.int (Nat.gcd a b))) μ := by
  have h := wh_gcd μ.length μ (b + 1) a b (Nat.lt_succ_self b)
  simp only [F_common_divisor, m_common_divisor, e_def]
  simp [sWh, fu_common_divisor_0, h]
def isFrac (is : List Int) : Bool := isAmt .odds is
theorem q_is_fraction (is : List Int) (hl : is.length ≤ 502) (μ : Mu) : F_is_fraction ad [.d (intsT is)] μ = .ok (.d (.bl (isAmt .odds is))) μ := by
  have h3 : is.length ≤ 16777216 := Nat.le_trans hl (by decide)
  have key : lcGo (gN 1) fYes (fAnd (fCall 1 (F_is_integer ad) (fCons (fVar 1) fNil)) (fBin oGt (fVar 1) (fC (.int 0)))) [some (.d (intsT is)), none] μ.length (is.map Dat.int) μ = .ok (is.map fun i => Dat.bl (decide (0 < i))) μ :=
    lc_map _ _ rfl fun c hc => by simp [q_is_integer]
  simp only [F_is_fraction, m_is_fraction, e_def]
  by_cases h2 : is.length = 2
  · match is, h2 with
    | [a, b], _ =>
      simp only [intsT, List.map_cons, List.map_nil] at key ⊢
      by_cases ha : 0 < a
      · by_cases hb : 0 < b
        · obtain ⟨x, rfl⟩ := Int.eq_ofNat_of_zero_le (show 0 ≤ a by omega)
          obtain ⟨y, rfl⟩ := Int.eq_ofNat_of_zero_le (show 0 ≤ b by omega)
          rw [decide_eq_true ha, decide_eq_true hb] at key
          have ea : allD [.lst [.bl true, .bl true]] = some (.bl true) := rfl
          have eg : isAmt .odds [(x : Int), (y : Int)] = decide (Nat.gcd x y = 1) := by
            show (decide (0 < (x : Int)) && decide (0 < (y : Int)) && decide (Int.gcd (x : Int) (y : Int) = 1)) = _
            rw [decide_eq_true ha, decide_eq_true hb]
            rfl
          have e1 : decide (((Nat.gcd x y : Nat) : Int) = 1) = decide (Nat.gcd x y = 1) := by
            congr 1
            simp only [eq_iff_iff]
            omega
          rw [eg]
          simp [eqInt, key, ea, q_common_divisor, e1, sizeE]
        · rw [decide_eq_true ha, decide_eq_false hb] at key
          have ea : allD [.lst [.bl true, .bl false]] = some (.bl false) := rfl
          simp [eqInt, sizeE, key, ea, isAmt, ha, hb]
      · rw [decide_eq_false ha] at key
        have ea : ∀ q, allD [.lst [.bl false, .bl q]] = some (.bl false) := fun q => rfl
        simp [eqInt, sizeE, key, ea, isAmt, ha]
  · have hf : isAmt .odds is = false := by
      match is, h2 with
      | [], _ => rfl
      | [a], _ => rfl
      | [a, b], h => exact absurd rfl h
      | a :: b :: c :: r, _ => rfl
    have h2' : ¬ ((is.length : Int) = 2) := by omega
    simp [eqInt, hf, h2']
def amD : Kd → List Int → Dat
  | .sums, is => .int (is.headD 0)
  | _, is => intsT is
/-- what reading may come to -/
def FitA (kd : Kd) (is : List Int) : Prop := FitI is ∧ (kd = .sums → is.length = 1)
theorem q_has_form (hn : (clsI ad).Nodup) {kd : Kd} {is : List Int} (h : FitA kd is) (ρ : En) (μ : Mu) (fo fe : EM) (ho : fo ρ μ = .ok (.d (scD ad kd)) μ) (he : fe ρ μ = .ok (.d (amD kd is)) μ) :
    fMeth (alts_has_form ad) (Str.ofString "has_form") 2 fo (fCons fe fNil) ρ μ = .ok (.d (.bl (isAmt kd is))) μ := by
  have hl := look_no kd "has_form" (by decide +kernel)
  have ha := alts_sc ad hn kd (F_SumScale_has_form ad) (F_ClassScale_has_form ad) (F_OddsScale_has_form ad)
  have h3 : is.length ≤ 16777216 := Nat.le_trans h.1.n (by decide)
  unfold scD at ho
  simp only [e_meth, ho, Res.bind_ok, alts_has_form, ha, hl, e_cons, he, e_nil, List.length_cons, List.length_nil, if_true]
  cases kd with
  | sums =>
    have h1 := h.2 rfl
    simp [pickK, F_SumScale_has_form, m_SumScale_has_form, e_def, amD, q_is_integer, isAmt, h1]
  | classes k =>
    have key : ∀ x, lcGo (gN 2) fYes (fCall 1 (F_is_integer ad) (fCons (fVar 2) fNil)) [x, some (.d (intsT is)), none] μ.length (is.map Dat.int) μ = .ok (is.map fun i => Dat.bl true) μ := fun x =>
      lc_map _ _ rfl fun c hc => by simp [q_is_integer]
    have ea : allD [.lst (is.map fun i => Dat.bl true)] = some (.bl true) := by
      have z := allD_map (fun _ : Int => true) is
      rw [z]
      simp
    have hm := sc_mem ad (.classes k)
    have hsz := look_size (.classes k)
    simp only [pickK, F_ClassScale_has_form, m_ClassScale_has_form, e_def, amD]
    by_cases e : is.length = k
    · subst e
      simp [hm, hsz, scN, eqInt, sizeE, key, ea, isAmt, h3]
    · have e' : ¬ ((is.length : Int) = (k : Int)) := by omega
      simp [hm, hsz, scN, eqInt, isAmt, e, e']
  | odds => simp [pickK, F_OddsScale_has_form, m_OddsScale_has_form, e_def, amD, q_is_fraction ad is h.1.n]
theorem q_is_amount (hn : (clsI ad).Nodup) {kd : Kd} {is : List Int} (h : FitA kd is) (ρ : En) (μ : Mu) (fo fe : EM) (ho : fo ρ μ = .ok (.d (scD ad kd)) μ) (he : fe ρ μ = .ok (.d (amD kd is)) μ) :
    fMeth (alts_is_amount ad) (Str.ofString "is_amount") 2 fo (fCons fe fNil) ρ μ = .ok (.d (.bl (isAmt kd is))) μ := by
  have hl := look_no kd "is_amount" (by decide +kernel)
  have ha := alts_sc ad hn kd (F_Scale_is_amount ad) (F_Scale_is_amount ad) (F_Scale_is_amount ad)
  have hb := q_has_form ad hn h ⟨[some (.d (scD ad kd)), some (.d (amD kd is))], μ.length⟩ μ (fVar 0) (fVar 1) (by simp) (by simp)
  have ho' := ho
  unfold scD at ho'
  rw [pickK_same] at ha
  simp only [e_meth, ho', Res.bind_ok, alts_is_amount, ha, hl, e_cons, he, e_nil, List.length_cons, List.length_nil, if_true]
  show F_Scale_is_amount ad [.d (scD ad kd), .d (amD kd is)] μ = _
  simp only [F_Scale_is_amount, m_Scale_is_amount, e_def, e_sRet, List.map_cons, List.map_nil, List.length_cons, List.length_nil, Nat.sub_self, List.replicate_zero, List.append_nil, hb, e_fin, List.take_length]
theorem q_eqO (hn : (clsI ad).Nodup) (kd k2 : Kd) (ρ : En) (μ : Mu) (fo fe : EM) (ho : fo ρ μ = .ok (.d (scD ad kd)) μ) (he : fe ρ μ = .ok (.d (scD ad k2)) μ) :
    fEqO (altsEq ad) (clsI ad) 2 fo fe ρ μ = .ok (.d (.bl (decide (scW kd = scW k2) && decide (scN kd = scN k2)))) μ := by
  have ha := alts_sc ad hn kd (F_Scale___eq__ ad) (F_Scale___eq__ ad) (F_Scale___eq__ ad)
  rw [pickK_same] at ha
  have hq := q_eq ad kd k2 μ
  have hm := sc_mem ad k2
  unfold scD at ho he hq
  simp [ho, he, altsEq, ha, hm, hq]
theorem eq_sums (kd : Kd) : (decide (scW kd = scW .sums) && decide (scN kd = scN .sums)) = decide (kd = .sums) := by
  cases kd with
  | sums => rfl
  | classes k =>
    have : ¬ (scW (.classes k) = scW .sums) := by show ¬ (A "classes" = A "sums"); decide +kernel
    simp [this]
  | odds =>
    have : ¬ (scW .odds = scW .sums) := by show ¬ (A "odds" = A "sums"); decide +kernel
    simp [this]
theorem eq_odds (kd : Kd) : (decide (scW kd = scW .odds) && decide (scN kd = scN .odds)) = decide (kd = .odds) := by
  cases kd with
  | odds => rfl
  | classes k =>
    have : ¬ (scW (.classes k) = scW .odds) := by show ¬ (A "classes" = A "odds"); decide +kernel
    simp [this]
  | sums =>
    have : ¬ (scW .sums = scW .odds) := by show ¬ (A "sums" = A "odds"); decide +kernel
    simp [this]
theorem b_sums (hn : (clsI ad).Nodup) (kd : Kd) (ρ : En) (μ : Mu) (h : fVar 0 ρ μ = .ok (.d (scD ad kd)) μ) : fEqO (altsEq ad) (clsI ad) 2 (fVar 0) (fCall 0 (F_Scale_sums ad) fNil) ρ μ = .ok (.d (.bl (decide (kd = .sums)))) μ := by
  rw [q_eqO ad hn kd .sums ρ μ _ _ h (by simp [q_sums]), eq_sums]
theorem b_odds (hn : (clsI ad).Nodup) (kd : Kd) (ρ : En) (μ : Mu) (h : fVar 0 ρ μ = .ok (.d (scD ad kd)) μ) : fEqO (altsEq ad) (clsI ad) 2 (fVar 0) (fCall 0 (F_Scale_odds ad) fNil) ρ μ = .ok (.d (.bl (decide (kd = .odds)))) μ := by
  rw [q_eqO ad hn kd .odds ρ μ _ _ h (by simp [q_odds]), eq_odds]
theorem sep_ok (kd : Kd) : (sepK kd).length = 1 ∧ PyData.strOk (sepK kd) = true := by
  cases kd with
  | sums => exact ⟨(by show (A "/").length = 1; decide +kernel), okS_of _⟩
  | classes k => exact ⟨(by show (A "/").length = 1; decide +kernel), okS_of _⟩
  | odds => exact ⟨(by show (A ":").length = 1; decide +kernel), okS_of _⟩
theorem okS_amount (kd : Kd) (is : List Int) : PyData.strOk (amountText kd is) = true := okS_ints _ (sep_ok kd).2 is
theorem q_amount_text (hn : (clsI ad).Nodup) {kd : Kd} {is : List Int} (h : FitA kd is) (μ : Mu) : F_amount_text ad [.d (scD ad kd), .d (amD kd is)] μ = .ok (.d (.str (amountText kd is))) μ := by
  have b1 := b_sums ad hn kd ⟨[some (.d (scD ad kd)), some (.d (amD kd is)), none], μ.length⟩ μ (by simp)
  have b2 := b_odds ad hn kd ⟨[some (.d (scD ad kd)), some (.d (amD kd is)), none], μ.length⟩ μ (by simp)
  simp only [F_amount_text, m_amount_text, e_def, List.map_cons, List.map_nil, List.length_cons, List.length_nil, Nat.reduceAdd, Nat.reduceSub, List.replicate_succ, List.replicate_zero, List.cons_append, List.nil_append, e_seq, e_sIf, e_B, b1, Res.bind_ok, e_asB]
  by_cases e : kd = .sums
  · subst e
    match is, h.2 rfl, h with
    | [i], _, h =>
      have hi := h.1.log (List.mem_cons_self ..)
      have et : amountText .sums [i] = intText i := TL.ext_tl (by
        show TL.tl (Txt.join _ [intText i]) = _
        rw [tl_joinT]; rfl)
      simp [amD, str_int hi, et]
  · have h3 : is.length ≤ 16777216 := Nat.le_trans h.1.n (by decide)
    have ed : amD kd is = intsT is := by cases kd <;> first | exact absurd rfl e | rfl
    have key : lcGo (gN 2) fYes (fCb strD (fCons (fVar 2) fNil)) [some (.d (scD ad kd)), some (.d (intsT is)), none] μ.length (is.map Dat.int) μ = .ok (is.map fun i => Dat.str (intText i)) μ :=
      lc_map _ _ rfl fun c hc => by simp [str_int (h.1.log hc)]
    have hj : joinD (sepK kd) (.lst (is.map fun i => Dat.str (intText i))) = some (.str (amountText kd is)) := by
      have e : (is.map fun i => Dat.str (intText i)) = (is.map intText).map Dat.str := by rw [List.map_map]; rfl
      rw [e]
      exact joinD_lst (ints_join_len (sepK kd) h.1 (by rw [(sep_ok kd).1]; decide)).1
    have hsep : fIf (fB (fEqO (altsEq ad) (clsI ad) 2 (fVar 0) (fCall 0 (F_Scale_odds ad) fNil))) (fC (.str (Str.ofString ":"))) (fC (.str (Str.ofString "/"))) ⟨[some (.d (scD ad kd)), some (.d (amD kd is)), none], μ.length⟩ μ = .ok (.d (.str (sepK kd))) μ := by
      simp only [e_if, e_B, b2, Res.bind_ok, e_asB]
      cases kd with
      | sums => exact absurd rfl e
      | classes k => rfl
      | odds => rfl
    simp only [decide_eq_false e, e_sNx, e_sRet, e_m1, hsep, Res.bind_ok]
    rw [ed]
    simp [sizeE, h3, key, hj]
theorem FitA.found {kd : Kd} {t : Str} (h : Fit t) {is : List Int} (e : amountFound kd t = some is) : FitA kd is := by
  unfold amountFound at e
  split at e
  · rename_i hk
    cases ei : integerIn t with
    | none => rw [ei] at e; cases e
    | some i =>
      rw [ei] at e
      cases e
      refine ⟨⟨fun j hj => ?_, by simp⟩, fun _ => rfl⟩
      rw [List.mem_singleton.mp hj]
      have z := integerIn_lt ei
      have h3 : 10 ^ t.length ≤ 10 ^ 500 := Nat.pow_le_pow_right (by omega) h.len
      omega
  · rename_i hk
    exact ⟨FitI.found (fun _ _ => integerIn_lt) h e, fun z => absurd z hk⟩
theorem q_amount_in (hn : (clsI ad).Nodup) (kd : Kd) {t : Str} (h : Fit t) (μ : Mu) : F_amount_in ad [.d (scD ad kd), .d (.str t)] μ = ofE "ParseError" μ (fun is => SV.d (amD kd is)) (amountIn kd t) := by
  have b1 := b_sums ad hn kd ⟨[some (.d (scD ad kd)), some (.d (.str t)), none, none], μ.length⟩ μ (by simp)
  have b2 := b_odds ad hn kd ⟨[some (.d (scD ad kd)), some (.d (.str t)), none, none], μ.length⟩ μ (by simp)
  have hf : sIf (fB (fEqO (altsEq ad) (clsI ad) 2 (fVar 0) (fCall 0 (F_Scale_sums ad) fNil))) (sSet (fCall 1 (F_integer_in ad) (fCons (fVar 1) fNil)) (gN 2)) (sSet (fCb tupleD (fCons (fLcX (iSeq (fM1 splitD (fVar 1) (fIf (fB (fEqO (altsEq ad) (clsI ad) 2 (fVar 0) (fCall 0 (F_Scale_odds ad) fNil))) (fC (.str (Str.ofString ":"))) (fC (.str (Str.ofString "/")))))) (gN 3) fYes (fCall 1 (F_integer_in ad) (fCons (fVar 3) fNil)) [3]) fNil)) (gN 2)) ⟨[some (.d (scD ad kd)), some (.d (.str t)), none, none], μ.length⟩ μ =
      match amountFound kd t with
      | some is => .nx ⟨[some (.d (scD ad kd)), some (.d (.str t)), some (.d (amD kd is)), none], μ.length⟩ μ
      | none => .ex "ParseError" ⟨[some (.d (scD ad kd)), some (.d (.str t)), none, none], μ.length⟩ μ := by
    simp only [e_sIf, e_B, b1, Res.bind_ok, e_asB]
    unfold amountFound
    by_cases e : kd = .sums
    · subst e
      cases ei : integerIn t <;> simp [q_integer_in ad h, ei, amD]
    · have hs : splitD t (.str (sepK kd)) = some (.lst ((Txt.split t (sepK kd)).map Dat.str)) := split_str (by rw [(sep_ok kd).1]; rfl) (by have := h.len; omega)
      have h3 : (Txt.split t (sepK kd)).length ≤ 16777216 := Nat.le_trans (split_num h) (by decide)
      have key : lcGo (gN 3) fYes (fCall 1 (F_integer_in ad) (fCons (fVar 3) fNil)) [some (.d (scD ad kd)), some (.d (.str t)), none, none] μ.length ((Txt.split t (sepK kd)).map Dat.str) μ = ofE "ParseError" μ (fun ys => ys.map Dat.int) (mapO integerIn (Txt.split t (sepK kd))) :=
        lc_opt Dat.str integerIn Dat.int rfl fun c hc => by
          cases ei : integerIn c <;> simp [q_integer_in ad (h.split hc), ei, ofE]
      have hsep : fIf (fB (fEqO (altsEq ad) (clsI ad) 2 (fVar 0) (fCall 0 (F_Scale_odds ad) fNil))) (fC (.str (Str.ofString ":"))) (fC (.str (Str.ofString "/"))) ⟨[some (.d (scD ad kd)), some (.d (.str t)), none, none], μ.length⟩ μ = .ok (.d (.str (sepK kd))) μ := by
        simp only [e_if, e_B, b2, Res.bind_ok, e_asB]
        cases kd with
        | sums => exact absurd rfl e
        | classes k => rfl
        | odds => rfl
      have ed : ∀ is, amD kd is = intsT is := fun is => by cases kd <;> first | exact absurd rfl e | rfl
      have ev : fVar 1 ⟨[some (.d (scD ad kd)), some (.d (.str t)), none, none], μ.length⟩ μ = .ok (.d (.str t)) μ := by simp
      simp only [decide_eq_false e, if_neg e]
      simp only [e_sSet, e_cb, e_cons, e_lcX, e_seqL, e_m1, ev, hsep, Res.bind_ok, e_vw, hs, e_ofO]
      cases em : mapO integerIn (Txt.split t (sepK kd)) with
      | none =>
        rw [em] at key
        simp [sizeE, h3, key, ofE]
      | some ys =>
        rw [em] at key
        simp [sizeE, h3, key, ofE, ed]
  simp only [F_amount_in, m_amount_in, e_def, List.map_cons, List.map_nil, List.length_cons, List.length_nil, Nat.reduceAdd, Nat.reduceSub, List.replicate_succ, List.replicate_zero, List.cons_append, List.nil_append]
  rw [e_seq, hf]
  unfold amountIn
  cases e : amountFound kd t with
  | none => simp [ofE]
  | some is =>
    have hA := FitA.found h e
    have hi := q_is_amount ad hn hA ⟨[some (.d (scD ad kd)), some (.d (.str t)), some (.d (amD kd is)), none], μ.length⟩ μ (fVar 0) (fVar 2) (by simp) (by simp)
    simp only [e_seq, e_sIf, e_bnot, e_tru, hi, Res.bind_ok, e_vw, e_truBl, e_ofB]
    by_cases a : isAmt kd is = true
    · have hrs := q_require_same ad h.ok (okS_amount kd is) μ
      by_cases b : t = amountText kd is
      · rw [if_pos b] at hrs
        simp only [if_pos (⟨a, b⟩ : isAmt kd is = true ∧ t = amountText kd is)]
        simp [a, q_amount_text ad hn hA, hrs, ofE]
      · rw [if_neg b] at hrs
        simp only [if_neg (fun z => b z.2 : ¬ (isAmt kd is = true ∧ t = amountText kd is))]
        simp [a, q_amount_text ad hn hA, hrs, ofE]
    · have a' : isAmt kd is = false := by simpa using a
      simp [a', ofE]
theorem q_parse_amount (hn : (clsI ad).Nodup) (kd : Kd) {t : Str} (h : Fit t) (μ : Mu) : F_parse_amount ad [.d (scD ad kd), .d (.str t)] μ = ofE "ParseError" μ (fun is => SV.d (amD kd is)) (amountIn kd t) := by
  simp only [F_parse_amount, m_parse_amount, e_def]
  cases e : amountIn kd t <;> simp [q_require_scale, q_require_text, q_amount_in ad hn kd h, e, ofE]
theorem q_format_amount (hn : (clsI ad).Nodup) {kd : Kd} {is : List Int} (h : FitA kd is) (ha : isAmt kd is = true) (μ : Mu) : F_format_amount ad [.d (scD ad kd), .d (amD kd is)] μ = .ok (.d (.str (amountText kd is))) μ := by
  have hi := q_is_amount ad hn h ⟨[some (.d (scD ad kd)), some (.d (amD kd is))], μ.length⟩ μ (fVar 0) (fVar 1) (by simp) (by simp)
  have hr : sDrop (fCall 1 (F_require_scale ad) (fCons (fVar 0) fNil)) ⟨[some (.d (scD ad kd)), some (.d (amD kd is))], μ.length⟩ μ = .nx ⟨[some (.d (scD ad kd)), some (.d (amD kd is))], μ.length⟩ μ := by
    simp [q_require_scale]
  simp only [F_format_amount, m_format_amount, e_def, List.map_cons, List.map_nil, List.length_cons, List.length_nil, Nat.sub_self, List.replicate_zero, List.append_nil]
  rw [e_seq, hr]
  simp only [e_seq, e_sIf, e_bnot, e_tru, hi, Res.bind_ok, e_vw, e_truBl, e_ofB, ha]
  simp [q_amount_text ad hn h]
end M87

-- PD1
/-! PD1: dice. -/
namespace DL
open PySem PySem.Spec PyProof.Rows L2
theorem for_inv {g : GM} {b : SM} (Inv : Nat → En → Mu → Prop) : ∀ (ds : List Dat) (i : Nat) (ρ : En) (μ : Mu), (∀ j d, ds[j]? = some d → ∀ ρ μ, Inv (i + j) ρ μ → ∃ ρ1 ρ2 μ2, g (.d d) ρ μ = some ρ1 ∧ b ρ1 μ = .nx ρ2 μ2 ∧ Inv (i + j + 1) ρ2 μ2) → Inv i ρ μ →
    ∃ ρ' μ', forGo g b ds ρ μ = .nx ρ' μ' ∧ Inv (i + ds.length) ρ' μ'
  | [], i, ρ, μ, _, h0 => ⟨ρ, μ, rfl, h0⟩
  | d :: ds, i, ρ, μ, h, h0 => by
    obtain ⟨ρ1, ρ2, μ2, e1, e2, h2⟩ := h 0 d rfl ρ μ h0
    obtain ⟨ρ', μ', e3, h3⟩ := for_inv Inv ds (i + 1) ρ2 μ2 (fun j x hx ρ μ hi => by
      have z := h (j + 1) x (by simpa using hx) ρ μ (by rw [show i + (j + 1) = i + 1 + j by omega]; exact hi)
      rw [show i + (j + 1) + 1 = i + 1 + j + 1 by omega] at z
      exact z) h2
    refine ⟨ρ', μ', ?_, ?_⟩
    · unfold forGo
      simp only [e1, e2, e3]
    · rw [List.length_cons, show i + (ds.length + 1) = i + 1 + ds.length by omega]
      exact h3
/-- a filter whose test may change the store -/
theorem lc_sub {i : Nat} {tt : BM} {te : EM} {sl : List (Option SV)} {n : Nat} (Inv : Nat → Mu → Prop) : ∀ (ds : List Dat) (k : Nat) (μ : Mu),
    (∀ j d, ds[j]? = some d → ∀ μ, Inv (k + j) μ → ∃ b μ1, tt ⟨sl.set i (some (.d d)), n⟩ μ = .ok b μ1 ∧ te ⟨sl.set i (some (.d d)), n⟩ μ1 = .ok (.d d) μ1 ∧ μ1.take n = μ1 ∧ Inv (k + j + 1) μ1) → Inv k μ →
    ∃ ys μ', lcGo (gN i) tt te sl n ds μ = .ok ys μ' ∧ ys.Sublist ds ∧ Inv (k + ds.length) μ'
  | [], k, μ, _, h0 => ⟨[], μ, rfl, .slnil, h0⟩
  | d :: ds, k, μ, h, h0 => by
    obtain ⟨b, μ1, e1, e2, e3, h1⟩ := h 0 d rfl μ h0
    obtain ⟨ys, μ', e4, hs, h3⟩ := lc_sub Inv ds (k + 1) μ1 (fun j x hx μ hi => by
      have z := h (j + 1) x (by simpa using hx) μ (by rw [show k + (j + 1) = k + 1 + j by omega]; exact hi)
      rw [show k + (j + 1) + 1 = k + 1 + j + 1 by omega] at z
      exact z) h1
    rw [List.length_cons, show k + (ds.length + 1) = k + 1 + ds.length by omega]
    cases b with
    | true =>
      refine ⟨d :: ys, μ', ?_, hs.cons₂ d, h3⟩
      unfold lcGo
      simp only [e_gN, e1, Res.bind_ok, e2, e_asD, e3, e4]
    | false =>
      refine ⟨ys, μ', ?_, hs.cons d, h3⟩
      unfold lcGo
      simp only [e_gN, e1, Res.bind_ok, e3, e4]
/-- a comprehension whose items may change the store -/
theorem lc_all {i : Nat} {te : EM} {sl : List (Option SV)} {n : Nat} (Inv : Nat → Mu → Prop) (P : Dat → Prop) : ∀ (ds : List Dat) (k : Nat) (μ : Mu),
    (∀ j d, ds[j]? = some d → ∀ μ, Inv (k + j) μ → ∃ y μ1, te ⟨sl.set i (some (.d d)), n⟩ μ = .ok (.d y) μ1 ∧ μ1.take n = μ1 ∧ P y ∧ Inv (k + j + 1) μ1) → Inv k μ →
    ∃ ys μ', lcGo (gN i) fYes te sl n ds μ = .ok ys μ' ∧ ys.length = ds.length ∧ (∀ y ∈ ys, P y) ∧ Inv (k + ds.length) μ'
  | [], k, μ, _, h0 => ⟨[], μ, rfl, rfl, fun y h => (by cases h), h0⟩
  | d :: ds, k, μ, h, h0 => by
    obtain ⟨y, μ1, e1, e3, hp, h1⟩ := h 0 d rfl μ h0
    obtain ⟨ys, μ', e4, hl, hs, h3⟩ := lc_all Inv P ds (k + 1) μ1 (fun j x hx μ hi => by
      have z := h (j + 1) x (by simpa using hx) μ (by rw [show k + (j + 1) = k + 1 + j by omega]; exact hi)
      rw [show k + (j + 1) + 1 = k + 1 + j + 1 by omega] at z
      exact z) h1
    rw [List.length_cons, show k + (ds.length + 1) = k + 1 + ds.length by omega]
    refine ⟨y :: ys, μ', ?_, by rw [List.length_cons, hl], fun z hz => ?_, h3⟩
    · unfold lcGo
      simp only [e_gN, e_yes, e1, Res.bind_ok, e_asD, e3, e4]
    · rcases List.mem_cons.mp hz with rfl | hz
      · exact hp
      · exact hs z hz
/-! one step at a time -/
section
variable {a b : SM} {c : BM} {f : EM} {ρ ρ1 : En} {μ μ1 : Mu} {x : SV}
theorem seq_nx (h : a ρ μ = .nx ρ1 μ1) : sSeq a b ρ μ = b ρ1 μ1 := by rw [e_seq, h]
theorem seq_rt (h : a ρ μ = .rt x μ1) : sSeq a b ρ μ = .rt x μ1 := by rw [e_seq, h]
theorem for_go {it : IM} {g : GM} {xs : List Dat} (h : it ρ μ = .ok xs μ1) : sFor it g b ρ μ = forGo g b xs ρ μ1 := by
  show (match it ρ μ with
  | .ok xs μ1 => forGo g b xs ρ μ1
  | .ex nm μ1 => .ex nm ρ μ1
  | .bad => .bad) = _
  rw [h]
theorem sif_t (h : c ρ μ = .ok true μ1) : sIf c a b ρ μ = a ρ μ1 := by rw [e_sIf, h]
theorem sif_f (h : c ρ μ = .ok false μ1) : sIf c a b ρ μ = b ρ μ1 := by rw [e_sIf, h]
theorem sret_ok (h : f ρ μ = .ok x μ1) : sRet f ρ μ = .rt x μ1 := by rw [e_sRet, h]
theorem sset_ok {i : Nat} (h : f ρ μ = .ok x μ1) : sSet f (gN i) ρ μ = .nx ⟨ρ.sl.set i (some x), ρ.n⟩ μ1 := by rw [e_sSet, h]; rfl
theorem spar_ok {i j : Nat} {fa : AM} {y : SV} (h : fa ρ μ = .ok [x, y] μ1) : sPar i j fa ρ μ = .nx ⟨(ρ.sl.set i (some x)).set j (some y), ρ.n⟩ μ1 := by rw [e_sPar, h]
theorem def_rt {live : Bool} {N : Nat} {g : SM} {xs : List SV} (h : g ⟨xs.map some ++ List.replicate (N - xs.length) none, μ.length⟩ μ = .rt x μ1) : Fdef live N g xs μ = fin live μ.length x μ1 := by rw [e_def, h]
end
theorem bits_le {i : Int} {n : Nat} (h : i.natAbs < 2 ^ n) : Builtin.Int.intBits i ≤ n := by
  unfold Builtin.Int.intBits
  split
  · exact Nat.zero_le _
  · rename_i h0
    have h1 : i.natAbs ≠ 0 := by
      intro z
      have : i = 0 := by omega
      subst this
      exact h0 rfl
    have := (Nat.log2_lt h1).mpr h
    omega
theorem cmul {i j : Int} (hi : i.natAbs < 2 ^ 200) (hj : j.natAbs < 2 ^ 200) : oMul (.int i) (.int j) = some (.int (i * j)) := by
  refine if_pos ?_
  have h1 := bits_le hi
  have h2 := bits_le hj
  show (Builtin.Int.intBits i : Int) + (Builtin.Int.intBits j : Int) ≤ 134217728
  omega
theorem cmod {i j : Int} (h : 0 < j) : oMod (.int i) (.int j) = some (.int (i % j)) := if_pos h
theorem cdiv {i j : Int} (h : 0 < j) (h2 : j < 2 ^ 200) : oDiv (.int i) (.int j) = some (.int (i / j)) := by
  refine if_pos ⟨h, ?_⟩
  have h1 : j.natAbs ≠ 0 := by omega
  have := (Nat.log2_lt h1).mpr (show j.natAbs < 2 ^ 200 by omega)
  omega
theorem vw_r {k : Nat} {μ : Mu} {xs : List Dat} (h : μ[k]? = some (.lst xs)) : vw (.r k) μ = some (.lst xs) := by
  simp only [vw, h]
theorem ix_i (xs : List Dat) {i : Int} {j : Nat} {v : Dat} (hi : i = (j : Int)) (h : xs[j]? = some v) : oIx (.lst xs) (.int i) = some v := by
  subst hi
  exact ix_ln h
@[simp] theorem ix_l1 (x y : Dat) (r : List Dat) : oIx (.lst (x :: y :: r)) (.int 1) = some y := ix_ln (j := 1) rfl
@[simp] theorem ix_l2 (x y z : Dat) (r : List Dat) : oIx (.lst (x :: y :: z :: r)) (.int 2) = some z := ix_ln (j := 2) rfl
theorem e_store (fo fi fe : EM) (ρ : En) (μ : Mu) : sStore fo fi fe ρ μ = (match fe ρ μ with
  | .ok v μ1 => (match asD ρ v μ1 with
    | none => SO.bad
    | some (d, μ2) => (match fo ρ μ2 with
      | .ok x μ3 => (match x with
        | .r k => (match fi ρ μ3 with
          | .ok y μ4 => (match vw y μ4, μ4[k]? with
            | some i, some o => (match storeD o i d with
              | some o' => .nx ρ (μ4.set k o')
              | none => .bad)
            | _, _ => .bad)
          | .ex nm μ4 => .ex nm ρ μ4
          | .bad => .bad)
        | _ => .bad)
      | .ex nm μ3 => .ex nm ρ μ3
      | .bad => .bad))
  | .ex nm μ1 => .ex nm ρ μ1
  | .bad => .bad) := (rfl)
end DL
namespace M87
open PySem PySem.Spec PyProof.Rows L2 DL TX
variable (ad : Ad)
def DiceOk (N : Nat) (d : List Dat) : Prop := ∃ a b c : Int, d = [.int a, .int b, .int c] ∧ 0 ≤ c ∧ c ≤ N
theorem DiceOk.mono {N M : Nat} {d : List Dat} (h : DiceOk N d) (hm : N ≤ M) : DiceOk M d := by
  obtain ⟨a, b, c, e, h1, h2⟩ := h
  exact ⟨a, b, c, e, h1, by omega⟩
theorem store3 (a b c v : Int) : storeD (.lst [.int a, .int b, .int c]) (.int 0) (.int v) = some (.lst [.int v, .int b, .int c]) ∧ storeD (.lst [.int a, .int b, .int c]) (.int 2) (.int v) = some (.lst [.int a, .int b, .int v]) := by
  constructor <;> rfl
theorem d_pull {k N : Nat} {μ : Mu} (hk : k < μ.length) {d : List Dat} (h : DiceOk N d) (hN : N ≤ 10 ^ 20) {t : Int} (h1 : 1 ≤ t) (h2 : t ≤ 10 ^ 45) :
    ∃ r d', F__law_pull ad [.r k, .d (.int t)] (μ.set k (.lst d)) = .ok (.d (.int r)) (μ.set k (.lst d')) ∧ 0 ≤ r ∧ r < t ∧ DiceOk (N + 1) d' := by
  obtain ⟨a, b, c, rfl, hc0, hc1⟩ := h
  have hg : ∀ o : Ob, (μ.set k o)[k]? = some o := fun o => List.getElem?_set_self hk
  have hlen : ∀ o : Ob, (μ.set k o).length = μ.length := fun o => List.length_set
  have ht : ∀ o : Ob, (μ.set k o).take μ.length = μ.set k o := fun o => List.take_of_length_le (by rw [List.length_set]; exact Nat.le_refl _)
  have hv : ∀ xs, vw (.r k) (μ.set k (.lst xs)) = some (.lst xs) := fun xs => vw_r (hg _)
  have p45 : (10 : Int) ^ 45 < 2 ^ 200 := by decide
  by_cases ha : 0 < a
  · refine ⟨a % t, [.int (a / t), .int b, .int c], ?_, Int.emod_nonneg _ (by omega), Int.emod_lt_of_pos _ (by omega), a / t, b, c, rfl, hc0, by omega⟩
    have e1 : oMod (.int a) (.int t) = some (.int (a % t)) := cmod (by omega)
    have e2 : oDiv (.int a) (.int t) = some (.int (a / t)) := cdiv (by omega) (by omega)
    simp [F__law_pull, m__law_pull, e_def, o2, hv, ha, e1, e2, e_store, hg, (store3 a b c (a / t)).1, ht]
  · have q1 : oMul (.int 1000133) (.int (c + 1)) = some (.int (1000133 * (c + 1))) := cmul (by decide) (by omega)
    obtain ⟨u, hu⟩ : ∃ u, u = (b + 1000133 * (c + 1)) % 2305843009213693951 := ⟨_, rfl⟩
    have hu0 : 0 ≤ u := by rw [hu]; exact Int.emod_nonneg _ (by decide)
    have hu1 : u < 2305843009213693951 := by rw [hu]; exact Int.emod_lt_of_pos _ (by decide)
    have q2 : oMod (.int (b + 1000133 * (c + 1))) (.int 2305843009213693951) = some (.int u) := by rw [hu]; exact cmod (by decide)
    have q3 : oMul (.int u) (.int u) = some (.int (u * u)) := cmul (by omega) (by omega)
    obtain ⟨w, hw⟩ : ∃ w, w = (u * u) % 2305843009213693921 := ⟨_, rfl⟩
    have hw0 : 0 ≤ w := by rw [hw]; exact Int.emod_nonneg _ (by decide)
    have hw1 : w < 2305843009213693921 := by rw [hw]; exact Int.emod_lt_of_pos _ (by decide)
    have q4 : oMod (.int (u * u)) (.int 2305843009213693921) = some (.int w) := by rw [hw]; exact cmod (by decide)
    have q5 : oMul (.int w) (.int u) = some (.int (w * u)) := cmul (by omega) (by omega)
    have q6 : oMul (.int 7577) (.int (c + 1)) = some (.int (7577 * (c + 1))) := cmul (by decide) (by omega)
    obtain ⟨z, hz⟩ : ∃ z, z = (w * u + 7577 * (c + 1)) % 2305843009213693907 := ⟨_, rfl⟩
    have q7 : oMod (.int (w * u + 7577 * (c + 1))) (.int 2305843009213693907) = some (.int z) := by rw [hz]; exact cmod (by decide)
    have q8 : oDiv (.int z) (.int 8192) = some (.int (z / 8192)) := cdiv (by decide) (by decide)
    have q9 : oMod (.int (z / 8192)) (.int t) = some (.int (z / 8192 % t)) := cmod (by omega)
    refine ⟨z / 8192 % t, [.int a, .int b, .int (c + 1)], ?_, Int.emod_nonneg _ (by omega), Int.emod_lt_of_pos _ (by omega), a, b, c + 1, rfl, by omega, by omega⟩
    simp [F__law_pull, m__law_pull, e_def, o2, hv, ha, e_store, hg, (store3 a b c (c + 1)).2, ht, q1, q2, q3, q4, q5, q6, q7, q8, q9]
end M87

-- PD2
/-! PD2: what is drawn. -/
namespace M87
open PySem PySem.Spec PyProof.Rows L2 DL TX
variable (ad : Ad)
theorem set_take (μ : Mu) (k : Nat) (o : Ob) : (μ.set k o).take μ.length = μ.set k o := List.take_of_length_le (by rw [List.length_set]; exact Nat.le_refl _)
theorem d_pick {k N : Nat} {μ : Mu} (hk : k < μ.length) {d : List Dat} (h : DiceOk N d) (hN : N ≤ 10 ^ 20) {xs : List Dat} (h1 : xs ≠ []) (h2 : xs.length ≤ 1000) :
    ∃ x d', F__law_pick ad [.r k, .d (.lst xs)] (μ.set k (.lst d)) = .ok (.d x) (μ.set k (.lst d')) ∧ x ∈ xs ∧ DiceOk (N + 1) d' := by
  have hl : 0 < xs.length := List.length_pos_iff.mpr h1
  obtain ⟨r, d', e, r0, r1, hd⟩ := d_pull ad hk h hN (t := (xs.length : Int)) (by omega) (by omega)
  obtain ⟨j, rfl⟩ := Int.eq_ofNat_of_zero_le r0
  have hj : j < xs.length := by omega
  have ex : oIx (.lst xs) (.int (j : Int)) = some xs[j] := ix_ln (List.getElem?_eq_getElem hj)
  exact ⟨xs[j], d', by simp [F__law_pick, m__law_pick, e_def, e, ex, set_take], List.getElem_mem hj, hd⟩
/-- small letters by number -/
def sgn (j : Nat) : Str := ⟨#[97 + j]⟩
theorem ix_signs {j : Nat} (h : j < 26) : oIx (.str (Str.ofString "abcdefghijklmnopqrstuvwxyz")) (.int (j : Int)) = some (.str (sgn j)) := by
  have e : (Str.ofString "abcdefghijklmnopqrstuvwxyz").cps.toList = (List.range 26).map (97 + ·) := by decide +kernel
  have hl : (Str.ofString "abcdefghijklmnopqrstuvwxyz").length ≤ sizeLine := by decide +kernel
  show (if (Str.ofString "abcdefghijklmnopqrstuvwxyz").length ≤ sizeLine then (atI (Str.ofString "abcdefghijklmnopqrstuvwxyz").cps.toList (j : Int)).map fun c => Dat.str ⟨#[c]⟩ else none) = _
  rw [if_pos hl, e, atI_nat (j := j) (v := 97 + j) (by simp [h])]
  rfl
theorem tl_sgn (j : Nat) : TL.tl (sgn j) = [97 + j] := rfl
theorem set_app {μ ν : Mu} {k : Nat} (hk : k < μ.length) (o : Ob) : (μ ++ ν).set k o = μ.set k o ++ ν := List.set_append_left _ _ hk
theorem d_pullA {k N : Nat} {μ : Mu} (hk : k < μ.length) {d : List Dat} (h : DiceOk N d) (hN : N ≤ 10 ^ 20) {t : Int} (h1 : 1 ≤ t) (h2 : t ≤ 10 ^ 45) (ν : Mu) :
    ∃ r d', F__law_pull ad [.r k, .d (.int t)] (μ.set k (.lst d) ++ ν) = .ok (.d (.int r)) (μ.set k (.lst d') ++ ν) ∧ 0 ≤ r ∧ r < t ∧ DiceOk (N + 1) d' := by
  obtain ⟨r, d', e, r0, r1, hd⟩ := d_pull ad (μ := μ ++ ν) (k := k) (by rw [List.length_append]; omega) h hN h1 h2
  rw [set_app hk, set_app hk] at e
  exact ⟨r, d', e, r0, r1, hd⟩
theorem d_pickA {k N : Nat} {μ : Mu} (hk : k < μ.length) {d : List Dat} (h : DiceOk N d) (hN : N ≤ 10 ^ 20) {xs : List Dat} (h1 : xs ≠ []) (h2 : xs.length ≤ 1000) (ν : Mu) :
    ∃ x d', F__law_pick ad [.r k, .d (.lst xs)] (μ.set k (.lst d) ++ ν) = .ok (.d x) (μ.set k (.lst d') ++ ν) ∧ x ∈ xs ∧ DiceOk (N + 1) d' := by
  obtain ⟨x, d', e, hx, hd⟩ := d_pick ad (μ := μ ++ ν) (k := k) (by rw [List.length_append]; omega) h hN h1 h2
  rw [set_app hk, set_app hk] at e
  exact ⟨x, d', e, hx, hd⟩
theorem rng_get {n j : Nat} {d : Dat} (h : (rngD 0 n)[j]? = some d) : d = .int (j : Int) ∧ j < n := by
  unfold rngD at h
  rw [List.getElem?_map] at h
  by_cases hj : j < n
  · rw [List.getElem?_range hj] at h
    simp at h
    exact ⟨h.symm, hj⟩
  · rw [List.getElem?_eq_none (by rw [List.length_range]; omega)] at h
    cases h
theorem rng_len (n : Nat) : (rngD 0 n).length = n := by
  unfold rngD
  rw [List.length_map, List.length_range]
theorem e_for (it : IM) (g : GM) (b : SM) (ρ : En) (μ : Mu) : sFor it g b ρ μ = (match it ρ μ with
  | .ok xs μ1 => forGo g b xs ρ μ1
  | .ex nm μ1 => .ex nm ρ μ1
  | .bad => .bad) := (rfl)
theorem e_append (fo fe : EM) (ρ : En) (μ : Mu) : fAppend fo fe ρ μ = ((fo ρ μ).bind fun x μ1 => match isLst x μ1 with
  | none => .bad
  | some k => (fe ρ μ1).bind fun y μ2 => match asD ρ y μ2 with
    | none => .bad
    | some (d, μ3) => (match μ3[k]? with
      | some (.lst xs) => if xs.length < sizeLine then .ok (.d .non) (μ3.set k (.lst (xs ++ [d]))) else .bad
      | _ => .bad)) := (rfl)
theorem get_last {M : Mu} {m : Nat} (h : M.length = m) (o : Ob) : (M ++ [o])[m]? = some o := by
  subst h
  simp
theorem set_last {M : Mu} {m : Nat} (h : M.length = m) (o o' : Ob) : (M ++ [o]).set m o' = M ++ [o'] := by
  subst h
  simp
/-- a row of words by their first signs -/
structure Row (i : Nat) (xs : List Str) : Prop where
  len : xs.length = i
  nam : ∀ x ∈ xs, isName x = true ∧ x.length ≤ 3
  asc : xs.Pairwise fun x y => TL.tl x < TL.tl y
  hd : ∀ x ∈ xs, ∃ c r, TL.tl x = c :: r ∧ c < 97 + 2 * i
theorem Row.snoc {i : Nat} {xs : List Str} (h : Row i xs) {w : Str} {c : Nat} {r : List Nat} (e : TL.tl w = c :: r) (h1 : 97 + 2 * i ≤ c) (h2 : c < 97 + 2 * (i + 1)) (hw : isName w = true ∧ w.length ≤ 3) : Row (i + 1) (xs ++ [w]) := by
  refine ⟨by rw [List.length_append, h.len]; rfl, fun x hx => ?_, ?_, fun x hx => ?_⟩
  · rcases List.mem_append.mp hx with hx | hx
    · exact h.nam x hx
    · rw [List.mem_singleton.mp hx]; exact hw
  · refine List.pairwise_append.mpr ⟨h.asc, by simp, fun x hx y hy => ?_⟩
    rw [List.mem_singleton.mp hy, e]
    obtain ⟨c2, r2, e2, h3⟩ := h.hd x hx
    rw [e2]
    exact List.Lex.rel (by omega)
  · rcases List.mem_append.mp hx with hx | hx
    · obtain ⟨c2, r2, e2, h3⟩ := h.hd x hx
      exact ⟨c2, r2, e2, by omega⟩
    · rw [List.mem_singleton.mp hx]
      exact ⟨c, r, e, h2⟩
theorem Row.cols {i : Nat} {xs : List Str} (h : Row i xs) (hi : i ≤ 8) : areCols xs = true := by
  simp only [areCols, Bool.and_eq_true, decide_eq_true_eq, List.all_eq_true]
  exact ⟨⟨by rw [h.len]; exact hi, fun x hx => (h.nam x hx).1⟩, pw_asc h.asc⟩
theorem name_of {w : Str} {l : List Nat} (e : TL.tl w = l) (h1 : l ≠ []) (h2 : l.length ≤ 3) (h3 : ∀ c ∈ l, 97 ≤ c ∧ c ≤ 122) : isName w = true ∧ w.length ≤ 3 := by
  have hl : w.length = l.length := by rw [TL.len_tl, e]
  have h0 := List.length_pos_iff.mpr h1
  refine ⟨?_, by omega⟩
  simp only [isName, Bool.and_eq_true, decide_eq_true_eq, List.all_eq_true, e]
  exact ⟨⟨by omega, by omega⟩, fun c hc => low_iff.mpr (h3 c hc)⟩
def colI (ad : Ad) : SM := (sSet (fBin oAdd (fVar 5) (fBin oIx (fVar 2) (fCall 2 (F__law_pull ad) (fCons (fVar 0) (fCons (fC (.int 26)) fNil))))) (gN 5))
def colO (ad : Ad) : SM := (sSeq (sSet (fBin oIx (fVar 2) (fBin oAdd (fBin oMul (fC (.int 2)) (fVar 4)) (fCall 2 (F__law_pull ad) (fCons (fVar 0) (fCons (fC (.int 2)) fNil))))) (gN 5)) (sSeq (sFor (iRg1 (fBin oIx (fLst (fCons (fC (.int 0)) (fCons (fC (.int 0)) (fCons (fC (.int 1)) (fCons (fC (.int 2)) fNil))))) (fCall 2 (F__law_pull ad) (fCons (fVar 0) (fCons (fC (.int 4)) fNil))))) (gN 6) (colI ad)) (sDrop (fAppend (fVar 3) (fVar 5)))))
theorem col_eq : m__law_columns ad = (sSeq (sPar 2 3 (fCons (fC (.str (Str.ofString "abcdefghijklmnopqrstuvwxyz"))) (fCons (fLstL fNil) fNil))) (sSeq (sFor (iRg1 (fVar 1)) (gN 4) (colO ad)) (sRet (fCb tupleD (fCons (fVar 3) fNil))))) := rfl
def colE (k n m : Nat) (a b c : Option SV) : En := ⟨[some (.r k), some (.d (.int n)), some (.d (.str (A "abcdefghijklmnopqrstuvwxyz"))), some (.r m), a, b, c], m⟩
theorem col_inner {k N : Nat} {μ : Mu} (hk : k < μ.length) {d : List Dat} (h : DiceOk N d) (hN : N + 10 ≤ 10 ^ 20) (ν : Mu) (n m t p : Nat) (ht : t ≤ 2) (s4 s6 : Option SV) {w : Str} (hw : TL.tl w = [p]) :
    ∃ w' d' s6', forGo (gN 6) (colI ad) (rngD 0 t) (colE k n m s4 (some (.d (.str w))) s6) (μ.set k (.lst d) ++ ν) = .nx (colE k n m s4 (some (.d (.str w'))) s6') (μ.set k (.lst d') ++ ν) ∧
      (∃ l, TL.tl w' = p :: l ∧ l.length = t ∧ ∀ c ∈ l, 97 ≤ c ∧ c ≤ 122) ∧ DiceOk (N + t) d' := by
  have main := for_inv (g := gN 6) (b := colI ad) (fun j ρ' μ' => ∃ w d' s6, ρ' = colE k n m s4 (some (.d (.str w))) s6 ∧ μ' = μ.set k (.lst d') ++ ν ∧ (∃ l, TL.tl w = p :: l ∧ l.length = j ∧ ∀ c ∈ l, 97 ≤ c ∧ c ≤ 122) ∧ DiceOk (N + j) d') (rngD 0 t) 0 (colE k n m s4 (some (.d (.str w))) s6) (μ.set k (.lst d) ++ ν) (by
    rintro j y hy ρ2 μ2 ⟨w, d4, s6', rfl, rfl, ⟨l, el, hl, hlow⟩, hd4⟩
    obtain ⟨rfl, hj⟩ := rng_get hy
    rw [Nat.zero_add] at hl hd4 ⊢
    obtain ⟨r'', d5, e5, r0'', r1'', hd5⟩ := d_pullA ad hk hd4 (by omega) (t := 26) (by decide) (by decide) ν
    obtain ⟨q'', rfl⟩ := Int.eq_ofNat_of_zero_le r0''
    have ei2 := ix_signs (j := q'') (by omega)
    have hwl : w.length = 1 + j := by rw [TL.len_tl, el, List.length_cons, hl]; omega
    have ea : oAdd (.str w) (.str (sgn q'')) = some (.str (w ++ sgn q'')) := add_str (by
      rw [hwl, show (sgn q'').length = 1 from rfl]; omega)
    refine ⟨_, colE k n m s4 (some (.d (.str (w ++ sgn q'')))) (some (.d (.int j))), _, rfl, ?_, w ++ sgn q'', d5, some (.d (.int j)), rfl, rfl, ⟨l ++ [97 + q''], by rw [TL.tl_append, el, tl_sgn]; rfl, by rw [List.length_append, hl]; rfl, fun c hc => ?_⟩, hd5⟩
    · simp [colI, colE, e5, ei2, ea]
    · rcases List.mem_append.mp hc with hc | hc
      · exact hlow c hc
      · rw [List.mem_singleton.mp hc]; omega) ⟨w, d, s6, rfl, rfl, ⟨[], hw, rfl, fun c hc => (by cases hc)⟩, h⟩
  obtain ⟨ρ3, μ3, e3, w', d6, s6', rfl, rfl, hw', hd6⟩ := main
  rw [rng_len, Nat.zero_add] at hw' hd6
  exact ⟨w', d6, s6', e3, hw', hd6⟩
theorem pick4 {q : Nat} (h : q < 4) : ∃ t : Nat, oIx (.lst [.int 0, .int 0, .int 1, .int 2]) (.int (q : Int)) = some (.int (t : Int)) ∧ t ≤ 2 := by
  have h4 : q = 0 ∨ q = 1 ∨ q = 2 ∨ q = 3 := by omega
  rcases h4 with rfl | rfl | rfl | rfl
  · exact ⟨0, ix_ln (j := 0) rfl, by decide⟩
  · exact ⟨0, ix_ln (j := 1) rfl, by decide⟩
  · exact ⟨1, ix_ln (j := 2) rfl, by decide⟩
  · exact ⟨2, ix_ln (j := 3) rfl, by decide⟩
theorem rg_nat {fa : EM} {ρ : En} {μ μ1 : Mu} {t : Nat} (h : fa ρ μ = .ok (.d (.int (t : Int))) μ1) (ht : t ≤ 1000) : iRg1 fa ρ μ = .ok (rngD 0 t) μ1 := by
  rw [e_rg1, h, Res.bind_ok]
  show (if -(2 ^ 62) ≤ (t : Int) ∧ (t : Int) < 2 ^ 62 then Res.ok (rngD 0 (t : Int).toNat) μ1 else .bad) = _
  rw [if_pos (by omega), Int.toNat_natCast]
theorem col_outer {k N : Nat} {μ : Mu} (hk : k < μ.length) {d : List Dat} (h : DiceOk N d) (hN : N + 20 ≤ 10 ^ 20) {n i m : Nat} (hm : μ.length = m) (hi : i < 8) {xs : List Str} (hr : Row i xs) (s5 s6 : Option SV) :
    ∃ w d' s5' s6', colO ad (colE k n m (some (.d (.int (i : Int)))) s5 s6) (μ.set k (.lst d) ++ [.lst (xs.map Dat.str)]) = .nx (colE k n m (some (.d (.int (i : Int)))) s5' s6') (μ.set k (.lst d') ++ [.lst ((xs ++ [w]).map Dat.str)]) ∧ Row (i + 1) (xs ++ [w]) ∧ DiceOk (N + 4) d' := by
  have hml : ∀ o, (μ.set k o).length = m := fun o => List.length_set.trans hm
  obtain ⟨r, d2, e1, r0, r1, hd2⟩ := d_pullA ad hk h (by omega) (t := 2) (by decide) (by decide) [.lst (xs.map Dat.str)]
  obtain ⟨q, rfl⟩ := Int.eq_ofNat_of_zero_le r0
  obtain ⟨r', d3, e2, r0', r1', hd3⟩ := d_pullA ad hk hd2 (by omega) (t := 4) (by decide) (by decide) [.lst (xs.map Dat.str)]
  obtain ⟨q', rfl⟩ := Int.eq_ofNat_of_zero_le r0'
  obtain ⟨t, ht, htl⟩ := pick4 (q := q') (by omega)
  have em : oMul (.int 2) (.int (i : Int)) = some (.int (2 * i)) := cmul (by decide) (by omega)
  have ei : oIx (.str (Str.ofString "abcdefghijklmnopqrstuvwxyz")) (.int (2 * (i : Int) + (q : Int))) = some (.str (sgn (2 * i + q))) := by
    have z := ix_signs (j := 2 * i + q) (by omega)
    rw [show (2 * (i : Int) + (q : Int)) = ((2 * i + q : Nat) : Int) by omega]
    exact z
  obtain ⟨w, d6, s6', e3, ⟨l, el, hl, hlow⟩, hd6⟩ := col_inner ad hk hd3 (by omega) [.lst (xs.map Dat.str)] n m t (97 + (2 * i + q)) htl (some (.d (.int (i : Int)))) s6 (w := sgn (2 * i + q)) rfl
  have hw := name_of el (by simp) (by rw [List.length_cons, hl]; omega) (fun c hc => by
    rcases List.mem_cons.mp hc with rfl | hc
    · omega
    · exact hlow c hc)
  have hxl : xs.length = i := hr.len
  have h1 : sSet (fBin oIx (fVar 2) (fBin oAdd (fBin oMul (fC (.int 2)) (fVar 4)) (fCall 2 (F__law_pull ad) (fCons (fVar 0) (fCons (fC (.int 2)) fNil))))) (gN 5) (colE k n m (some (.d (.int (i : Int)))) s5 s6) (μ.set k (.lst d) ++ [.lst (xs.map Dat.str)]) =
      .nx (colE k n m (some (.d (.int (i : Int)))) (some (.d (.str (sgn (2 * i + q))))) s6) (μ.set k (.lst d2) ++ [.lst (xs.map Dat.str)]) := by
    simp [colE, em, e1, ei]
  have h2 : iRg1 (fBin oIx (fLst (fCons (fC (.int 0)) (fCons (fC (.int 0)) (fCons (fC (.int 1)) (fCons (fC (.int 2)) fNil))))) (fCall 2 (F__law_pull ad) (fCons (fVar 0) (fCons (fC (.int 4)) fNil)))) (colE k n m (some (.d (.int (i : Int)))) (some (.d (.str (sgn (2 * i + q))))) s6) (μ.set k (.lst d2) ++ [.lst (xs.map Dat.str)]) =
      .ok (rngD 0 t) (μ.set k (.lst d3) ++ [.lst (xs.map Dat.str)]) := rg_nat (by simp [colE, e2, ht, sizeE]) (by omega)
  refine ⟨w, d6, some (.d (.str w)), s6', ?_, hr.snoc el (by omega) (by omega) hw, hd6.mono (by omega)⟩
  unfold colO
  rw [e_seq, h1]
  simp only
  rw [e_seq, e_for, h2]
  simp only [e3]
  simp [colE, e_append, isLst, get_last (hml _), set_last (hml _), hxl, sizeE, show i < 16777216 by omega]
theorem d_columns {k N : Nat} {μ : Mu} (hk : k < μ.length) {d : List Dat} (h : DiceOk N d) (hN : N + 60 ≤ 10 ^ 20) {n : Nat} (hn : n ≤ 8) :
    ∃ xs d', F__law_columns ad [.r k, .d (.int n)] (μ.set k (.lst d)) = .ok (.d (colsD xs)) (μ.set k (.lst d')) ∧ Row n xs ∧ DiceOk (N + 40) d' := by
  obtain ⟨M, hM⟩ : ∃ M, μ.set k (.lst d) = M := ⟨_, rfl⟩
  have hm : μ.length = M.length := by rw [← hM, List.length_set]
  have main := for_inv (g := gN 4) (b := colO ad) (fun i ρ' μ' => ∃ xs d' s4 s5 s6, ρ' = colE k n M.length s4 s5 s6 ∧ μ' = μ.set k (.lst d') ++ [.lst (xs.map Dat.str)] ∧ Row i xs ∧ DiceOk (N + 4 * i) d') (rngD 0 n) 0 (colE k n M.length none none none) (M ++ [.lst []]) (by
    rintro i x hx ρ1 μ1 ⟨xs, d1, s4, s5, s6, rfl, rfl, hr, hd⟩
    obtain ⟨rfl, hi⟩ := rng_get hx
    rw [Nat.zero_add] at hr hd ⊢
    obtain ⟨w, d', s5', s6', e, hr', hd'⟩ := col_outer ad hk hd (by omega) (n := n) hm (by omega) hr s5 s6
    exact ⟨_, _, _, rfl, e, xs ++ [w], d', _, _, _, rfl, rfl, hr', hd'.mono (by omega)⟩) ⟨[], d, none, none, none, rfl, by rw [hM]; rfl, ⟨rfl, fun x hx => (by cases hx), .nil, fun x hx => (by cases hx)⟩, h⟩
  obtain ⟨ρ', μ', e, xs, d', s4, s5, s6, rfl, rfl, hr, hd⟩ := main
  rw [rng_len, Nat.zero_add] at hr hd
  refine ⟨xs, d', ?_, hr, hd.mono (by omega)⟩
  rw [hM]
  have hml : (μ.set k (.lst d')).length = M.length := by rw [List.length_set, hm]
  have h1 : sPar 2 3 (fCons (fC (.str (Str.ofString "abcdefghijklmnopqrstuvwxyz"))) (fCons (fLstL fNil) fNil)) ⟨[some (.r k), some (.d (.int n)), none, none, none, none, none], M.length⟩ M = .nx (colE k n M.length none none none) (M ++ [.lst []]) := by
    simp [colE]
  have h2 : iRg1 (fVar 1) (colE k n M.length none none none) (M ++ [.lst []]) = .ok (rngD 0 n) (M ++ [.lst []]) := rg_nat (by simp [colE]) (by omega)
  have h3 : (μ.set k (.lst d') ++ [Ob.lst (xs.map Dat.str)]).take M.length = μ.set k (.lst d') := by rw [← hml]; simp
  have h4 : sRet (fCb tupleD (fCons (fVar 3) fNil)) (colE k n M.length s4 s5 s6) (μ.set k (.lst d') ++ [.lst (xs.map Dat.str)]) = .rt (.d (colsD xs)) (μ.set k (.lst d') ++ [.lst (xs.map Dat.str)]) := sret_ok (by simp [colE, vw_r (get_last hml _)])
  refine (def_rt (g := m__law_columns ad) (x := .d (colsD xs)) (μ1 := μ.set k (.lst d') ++ [.lst (xs.map Dat.str)]) ?_).trans ?_
  · rw [col_eq]
    exact (seq_nx h1).trans ((seq_nx ((for_go h2).trans e)).trans h4)
  · rw [e_fin, h3]
end M87

-- PD3
/-! PD3: what is drawn: parts of columns, scales, amounts. -/
namespace M87
open PySem PySem.Spec PyProof.Rows L2 DL TX
variable (ad : Ad)
theorem cb_ok {f : FD} {fa : EM} {ρ : En} {μ μ1 : Mu} {x d : Dat} (h : fa ρ μ = .ok (.d x) μ1) (hf : f [x] = some d) : fCb f (fCons fa fNil) ρ μ = .ok (.d d) μ1 := by
  simp [h, hf]
theorem lc_ok {it : IM} {g : GM} {tt : BM} {te : EM} {vs : List Nat} {ρ : En} {μ μ1 μ2 : Mu} {xs ys : List Dat} (h : it ρ μ = .ok xs μ1) (hl : xs.length ≤ 16777216) (h2 : lcGo g tt te (wipeE ρ.sl vs) μ1.length xs μ1 = .ok ys μ2) : fLc it g tt te vs ρ μ = .ok (.d (.lst ys)) μ2 := by
  rw [e_lc, h, Res.bind_ok, if_pos (by rw [sizeE]; exact hl), h2]; rfl
theorem d_some {k N : Nat} {μ : Mu} (hk : k < μ.length) {d : List Dat} (h : DiceOk N d) (hN : N + 60 ≤ 10 ^ 20) {xs : List Str} (hx : xs.length ≤ 8) :
    ∃ ys d', F__law_some ad [.r k, .d (colsD xs), .d (.int 2)] (μ.set k (.lst d)) = .ok (.d (colsD ys)) (μ.set k (.lst d')) ∧ ys.Sublist xs ∧ DiceOk (N + 8) d' := by
  obtain ⟨M, hM⟩ : ∃ M, μ.set k (.lst d) = M := ⟨_, rfl⟩
  have hm : M.length = μ.length := by rw [← hM, List.length_set]
  have main := lc_sub (i := 3) (tt := fB (fBin (oEq false) (fCall 2 (F__law_pull ad) (fCons (fVar 0) (fCons (fVar 2) fNil))) (fC (.int 0)))) (te := fVar 3) (sl := [some (.r k), some (.d (colsD xs)), some (.d (.int 2)), none]) (n := M.length)
    (fun j μ' => ∃ d', μ' = μ.set k (.lst d') ∧ DiceOk (N + j) d') (xs.map Dat.str) 0 M (by
      rintro j x hx' μ1 ⟨d1, rfl, hd1⟩
      have hj : j < xs.length := by
        have := (List.getElem?_eq_some_iff.mp hx').1
        simpa using this
      rw [Nat.zero_add] at hd1 ⊢
      obtain ⟨r, d2, e1, r0, r1, hd2⟩ := d_pull ad hk hd1 (by omega) (t := 2) (by decide) (by decide)
      exact ⟨decide (r = 0), μ.set k (.lst d2), by simp [e1, eqInt], by simp, by rw [hm]; exact set_take _ _ _, d2, rfl, hd2⟩) ⟨d, hM.symm, h⟩
  obtain ⟨ys, μ', e, hs, d', rfl, hd'⟩ := main
  obtain ⟨zs, hz, rfl⟩ := List.sublist_map_iff.mp hs
  rw [List.length_map, Nat.zero_add] at hd'
  refine ⟨zs, d', ?_, hz, hd'.mono (by omega)⟩
  rw [hM]
  refine (def_rt (x := .d (colsD zs)) (μ1 := μ.set k (.lst d')) (sret_ok (cb_ok (x := .lst (zs.map Dat.str)) (lc_ok (μ1 := M) (xs := xs.map Dat.str) ?_ (by rw [List.length_map]; omega) e) rfl))).trans ?_
  · simp
  · rw [e_fin, hm, set_take]
def meaD (kd : Kd) : Dat := .tup [.str (scW kd), .int (scN kd)]
def KdOk : Kd → Prop
  | .classes k => 1 ≤ k ∧ k ≤ 4
  | _ => True
theorem d_scale {k N : Nat} {μ : Mu} (hk : k < μ.length) {d : List Dat} (h : DiceOk N d) (hN : N + 60 ≤ 10 ^ 20) :
    ∃ kd d', F__law_scale ad [.r k] (μ.set k (.lst d)) = .ok (.d (meaD kd)) (μ.set k (.lst d')) ∧ KdOk kd ∧ DiceOk (N + 2) d' := by
  obtain ⟨r, d1, e1, r0, r1, hd1⟩ := d_pull ad hk h (by omega) (t := 4) (by decide) (by decide)
  obtain ⟨q, rfl⟩ := Int.eq_ofNat_of_zero_le r0
  obtain ⟨r', d2, e2, r0', r1', hd2⟩ := d_pull ad hk hd1 (by omega) (t := 3) (by decide) (by decide)
  obtain ⟨q', rfl⟩ := Int.eq_ofNat_of_zero_le r0'
  have pick : ∃ kd, oIx (.lst [.tup [.str (A "sums"), .int 1], .tup [.str (A "classes"), .int (1 + (q : Int))], .tup [.str (A "odds"), .int 1]]) (.int (q' : Int)) = some (meaD kd) ∧ KdOk kd := by
    have h4 : q' = 0 ∨ q' = 1 ∨ q' = 2 := by omega
    rcases h4 with rfl | rfl | rfl
    · exact ⟨.sums, ix_ln (j := 0) rfl, trivial⟩
    · refine ⟨.classes (1 + q), ix_ln (j := 1) ?_, by show 1 ≤ 1 + q ∧ 1 + q ≤ 4; omega⟩
      show some (Dat.tup [.str (A "classes"), .int (1 + (q : Int))]) = some (Dat.tup [.str (A "classes"), .int ((1 + q : Nat) : Int)])
      rw [Int.natCast_add]; rfl
    · exact ⟨.odds, ix_ln (j := 2) rfl, trivial⟩
  obtain ⟨kd, ek, hkd⟩ := pick
  refine ⟨kd, d2, ?_, hkd, hd2⟩
  simp [F__law_scale, m__law_scale, e_def, e1, e2, ek, sizeE, set_take]
theorem wh_low (n : Nat) (μ : Mu) (s0 s1 : Option SV) : ∀ (m a b : Nat), b < m →
    whGo (fB (fBin oGt (fVar 3) (fC (.int 0)))) (sPar 2 3 (fCons (fVar 3) (fCons (fBin oMod (fCb intD (fCons (fVar 2) fNil)) (fVar 3)) fNil))) m ⟨[s0, s1, some (.d (.int a)), some (.d (.int b))], n⟩ μ = .nx ⟨[s0, s1, some (.d (.int (Nat.gcd a b))), some (.d (.int 0))], n⟩ μ
  | 0, _, _, h => by cases h
  | m + 1, a, b, h => by
    unfold whGo
    by_cases hb : b = 0
    · subst hb
      simp
    · have hp : (0 : Int) < (b : Int) := by omega
      have ih := wh_low n μ s0 s1 m b (a % b) (by have := Nat.mod_lt a (Nat.pos_of_ne_zero hb); omega)
      have eg : Nat.gcd b (a % b) = Nat.gcd a b := by rw [Nat.gcd_comm a b, Nat.gcd_rec b a, Nat.gcd_comm]
      rw [eg, Int.natCast_emod] at ih
      have em : oMod (.int (a : Int)) (.int (b : Int)) = some (.int ((a : Int) % (b : Int))) := if_pos hp
      simp [show 0 < b by omega, em, ih]
theorem q_lowest {a b : Nat} (ha : 1 ≤ a) (hb : 1 ≤ b) (ha2 : a ≤ 10 ^ 45) (μ : Mu) : F__law_lowest ad [.d (.int a), .d (.int b)] μ = .ok (.d (intsT [((a / Nat.gcd a b : Nat) : Int), ((b / Nat.gcd a b : Nat) : Int)])) μ ∧ isAmt .odds [((a / Nat.gcd a b : Nat) : Int), ((b / Nat.gcd a b : Nat) : Int)] = true := by
  have hg : 0 < Nat.gcd a b := Nat.gcd_pos_of_pos_left _ (by omega)
  have hg2 : Nat.gcd a b ≤ a := Nat.gcd_le_left _ (by omega)
  have h := wh_low μ.length μ (some (.d (.int a))) (some (.d (.int b))) (b + 1) a b (Nat.lt_succ_self b)
  have p45 : (10 : Nat) ^ 45 < 2 ^ 200 := by decide
  have d1 : oDiv (.int (a : Int)) (.int (Nat.gcd a b : Int)) = some (.int ((a : Int) / (Nat.gcd a b : Int))) := cdiv (by omega) (by omega)
  have d2 : oDiv (.int (b : Int)) (.int (Nat.gcd a b : Int)) = some (.int ((b : Int) / (Nat.gcd a b : Int))) := cdiv (by omega) (by omega)
  constructor
  · have hw : sWh fu__law_lowest_0 (fB (fBin oGt (fVar 3) (fC (.int 0)))) (sPar 2 3 (fCons (fVar 3) (fCons (fBin oMod (fCb intD (fCons (fVar 2) fNil)) (fVar 3)) fNil))) ⟨[some (.d (.int a)), some (.d (.int b)), some (.d (.int a)), some (.d (.int b))], μ.length⟩ μ =
        .nx ⟨[some (.d (.int a)), some (.d (.int b)), some (.d (.int (Nat.gcd a b))), some (.d (.int 0))], μ.length⟩ μ := by
      simp [sWh, fu__law_lowest_0, h]
    refine (def_rt (g := m__law_lowest ad) (x := .d (intsT [((a / Nat.gcd a b : Nat) : Int), ((b / Nat.gcd a b : Nat) : Int)])) (μ1 := μ) ?_).trans (by rw [e_fin, List.take_length])
    unfold m__law_lowest
    refine (seq_nx (ρ1 := ⟨[some (.d (.int a)), some (.d (.int b)), some (.d (.int a)), some (.d (.int b))], μ.length⟩) (μ1 := μ) (by simp)).trans ((seq_nx hw).trans (sret_ok ?_))
    simp [d1, d2, sizeE]
  · have a1 : 0 < a / Nat.gcd a b := Nat.div_pos hg2 hg
    have b1 : 0 < b / Nat.gcd a b := Nat.div_pos (Nat.gcd_le_right _ (by omega)) hg
    have g1 : Nat.gcd (a / Nat.gcd a b) (b / Nat.gcd a b) = 1 := by rw [Nat.gcd_div (Nat.gcd_dvd_left a b) (Nat.gcd_dvd_right a b), Nat.div_self hg]
    show (decide (0 < ((a / Nat.gcd a b : Nat) : Int)) && decide (0 < ((b / Nat.gcd a b : Nat) : Int)) && decide (Int.gcd ((a / Nat.gcd a b : Nat) : Int) ((b / Nat.gcd a b : Nat) : Int) = 1)) = true
    rw [decide_eq_true (by omega), decide_eq_true (by omega)]
    exact decide_eq_true g1
theorem d_made {kd : Kd} (h : KdOk kd) (μ : Mu) : F__law_made ad [.d (meaD kd)] μ = .ok (.d (scD ad kd)) μ := by
  have n1 : ¬ (A "odds" = A "classes") := by decide +kernel
  have n2 : ¬ (A "sums" = A "classes") := by decide +kernel
  have n3 : ¬ (A "odds" = A "sums") := by decide +kernel
  cases kd with
  | sums => simp [F__law_made, m__law_made, e_def, meaD, scW, scN, eqStr, n2, q_sums]
  | classes k =>
    have h : 1 ≤ k ∧ k ≤ 4 := h
    simp [F__law_made, m__law_made, e_def, meaD, scW, scN, eqStr, q_classes ad h.1 h.2]
  | odds => simp [F__law_made, m__law_made, e_def, meaD, scW, scN, eqStr, n1, n3, q_odds]
theorem l_amount_text {kd : Kd} {is : List Int} (h : FitA kd is) (hk : KdOk kd) (μ : Mu) : F__law_amount_text ad [.d (meaD kd), .d (amD kd is)] μ = .ok (.d (.str (amountText kd is))) μ := by
  have n1 : ¬ (A "odds" = A "sums") := by decide +kernel
  have n2 : ¬ (A "classes" = A "sums") := by decide +kernel
  have h3 : is.length ≤ 16777216 := Nat.le_trans h.1.n (by decide)
  by_cases e : kd = .sums
  · subst e
    match is, h.2 rfl, h with
    | [i], _, h =>
      have hi := h.1.log (List.mem_cons_self ..)
      have et : amountText .sums [i] = intText i := TL.ext_tl (by
        show TL.tl (Txt.join _ [intText i]) = _
        rw [tl_joinT]; rfl)
      simp [F__law_amount_text, m__law_amount_text, e_def, meaD, scW, scN, eqStr, amD, str_int hi, et]
  · have ed : amD kd is = intsT is := by cases kd <;> first | exact absurd rfl e | rfl
    have key : lcGo (gN 2) fYes (fCb strD (fCons (fVar 2) fNil)) [some (.d (meaD kd)), some (.d (intsT is)), none] μ.length (is.map Dat.int) μ = .ok (is.map fun i => Dat.str (intText i)) μ :=
      lc_map _ _ rfl fun c hc => by simp [str_int (h.1.log hc)]
    have hj : joinD (sepK kd) (.lst (is.map fun i => Dat.str (intText i))) = some (.str (amountText kd is)) := by
      have e : (is.map fun i => Dat.str (intText i)) = (is.map intText).map Dat.str := by rw [List.map_map]; rfl
      rw [e]
      exact joinD_lst (ints_join_len (sepK kd) h.1 (by rw [(sep_ok kd).1]; decide)).1
    have hsep : oDget (dsp2 (Str.ofString "classes") (Str.ofString "/") (Str.ofString "odds") (Str.ofString ":")) (.str (scW kd)) = some (.str (sepK kd)) := by
      have hd : dsp2 (Str.ofString "classes") (Str.ofString "/") (Str.ofString "odds") (Str.ofString ":") = mapD (mergeS [] [(A "classes", A "/"), (A "odds", A ":")]) := by
        show Dat.dct (mergeD [] ([(A "classes", A "/"), (A "odds", A ":")].map eKv)) = _
        rw [show ([] : List (Key × Dat)) = ([] : List (Str × Str)).map eKv from rfl, merge_map]
      rw [hd]
      show valD (_) (.inr (scW kd)) = _
      rw [val_map]
      cases kd with
      | sums => exact absurd rfl e
      | classes k =>
        have : look (mergeS [] [(A "classes", A "/"), (A "odds", A ":")]) (A "classes") = some (A "/") := by decide +kernel
        show (look _ (A "classes")).map Dat.str = _
        rw [this]; rfl
      | odds =>
        have : look (mergeS [] [(A "classes", A "/"), (A "odds", A ":")]) (A "odds") = some (A ":") := by decide +kernel
        show (look _ (A "odds")).map Dat.str = _
        rw [this]; rfl
    have hne : ¬ (scW kd = A "sums") := by
      cases kd with
      | sums => exact absurd rfl e
      | classes k => exact n2
      | odds => exact n1
    rw [ed]
    simp only [F__law_amount_text, m__law_amount_text, e_def, meaD] at key ⊢
    simp [eqStr, okW, hne, hsep, sizeE, h3, key, hj]
theorem int_fit {i : Int} (h1 : -(10 ^ 41) ≤ i) (h2 : i ≤ 10 ^ 41) : i.natAbs < 10 ^ 500 := by
  have p : (10 : Nat) ^ 41 < 10 ^ 500 := Nat.pow_lt_pow_right (by decide) (by decide)
  have e : (10 : Int) ^ 41 = ((10 ^ 41 : Nat) : Int) := by decide
  rw [e] at h1 h2
  omega
theorem pick3 {q : Nat} (h : q < 3) (a b : Int) : ∃ t : Int, oIx (.lst [.int a, .int b, .int (10 ^ 40)]) (.int (q : Int)) = some (.int t) ∧ (t = a ∨ t = b ∨ t = 10 ^ 40) := by
  have h4 : q = 0 ∨ q = 1 ∨ q = 2 := by omega
  rcases h4 with rfl | rfl | rfl
  · exact ⟨a, ix_ln (j := 0) rfl, .inl rfl⟩
  · exact ⟨b, ix_ln (j := 1) rfl, .inr (.inl rfl)⟩
  · exact ⟨10 ^ 40, ix_ln (j := 2) rfl, .inr (.inr rfl)⟩
theorem pow40 : oPow (.int 10) (.int 40) = some (.int (10 ^ 40))  := by
  show (if CPowB 10 40 then some (Dat.int (10 ^ (40 : Int).toNat)) else none) = _
  rw [if_pos (by decide +kernel)]
  rfl
theorem d_amount {k N : Nat} {μ : Mu} (hk : k < μ.length) {d : List Dat} (h : DiceOk N d) (hN : N + 60 ≤ 10 ^ 20) {kd : Kd} (hkd : KdOk kd) :
    ∃ is d', F__law_amount ad [.r k, .d (meaD kd)] (μ.set k (.lst d)) = .ok (.d (amD kd is)) (μ.set k (.lst d')) ∧ FitA kd is ∧ isAmt kd is = true ∧ is ≠ [] ∧ (∀ i ∈ is, -(10 ^ 41) ≤ i ∧ i ≤ 10 ^ 41) ∧ DiceOk (N + 8) d' := by
  have p41 : (10 : Int) ^ 41 = 100000000000000000000000000000000000000000 := by decide
  have p40 : (10 : Int) ^ 40 = 10000000000000000000000000000000000000000 := by decide
  have p45 : (10 : Int) ^ 45 = 1000000000000000000000000000000000000000000000 := by decide
  have n1 : ¬ (A "odds" = A "sums") := by decide +kernel
  have n2 : ¬ (A "classes" = A "sums") := by decide +kernel
  have n3 : ¬ (A "odds" = A "classes") := by decide +kernel
  cases kd with
  | sums =>
    obtain ⟨r, d1, e1, r0, r1, hd1⟩ := d_pull ad hk h (by omega) (t := 3) (by decide) (by decide)
    obtain ⟨q, rfl⟩ := Int.eq_ofNat_of_zero_le r0
    obtain ⟨t, et, ht⟩ := pick3 (q := q) (by omega) 2 5
    obtain ⟨v, d2, e2, v0, v1, hd2⟩ := d_pull ad hk hd1 (by omega) (t := t) (by omega) (by omega)
    obtain ⟨r', d3, e3, r0', r1', hd3⟩ := d_pull ad hk hd2 (by omega) (t := 3) (by decide) (by decide)
    obtain ⟨q', rfl⟩ := Int.eq_ofNat_of_zero_le r0'
    obtain ⟨t', et', ht'⟩ := pick3 (q := q') (by omega) 2 5
    obtain ⟨v', d4, e4, v0', v1', hd4⟩ := d_pull ad hk hd3 (by omega) (t := t') (by omega) (by omega)
    have hb : ∀ i ∈ [v - v'], -(10 ^ 41) ≤ i ∧ i ≤ 10 ^ 41 := fun i hi => by
      rw [List.mem_singleton.mp hi]
      omega
    refine ⟨[v - v'], d4, ?_, ⟨⟨fun i hi => int_fit (hb i hi).1 (hb i hi).2, by simp⟩, fun _ => rfl⟩, rfl, by simp, hb, hd4.mono (by omega)⟩
    simp only [p40] at et et'
    simp [F__law_amount, m__law_amount, e_def, meaD, scW, scN, eqStr, pow40, sizeE, e1, et, e2, e3, et', e4, amD, set_take]
  | classes c =>
    have hc : 1 ≤ c ∧ c ≤ 4 := hkd
    obtain ⟨M, hM⟩ : ∃ M, μ.set k (.lst d) = M := ⟨_, rfl⟩
    have hm : M.length = μ.length := by rw [← hM, List.length_set]
    have main := lc_all (i := 4) (te := fBin oSub (fCall 2 (F__law_pull ad) (fCons (fVar 0) (fCons (fC (.int 4)) fNil))) (fCall 2 (F__law_pull ad) (fCons (fVar 0) (fCons (fC (.int 4)) fNil)))) (sl := [some (.r k), some (.d (meaD (.classes c))), none, none, none]) (n := M.length)
      (fun j μ' => ∃ d', μ' = μ.set k (.lst d') ∧ DiceOk (N + 2 * j) d') (fun y => ∃ i : Int, y = .int i ∧ -(10 ^ 41) ≤ i ∧ i ≤ 10 ^ 41) (rngD 0 c) 0 M (by
        rintro j x hx' μ1 ⟨d1, rfl, hd1⟩
        obtain ⟨rfl, hj⟩ := rng_get hx'
        rw [Nat.zero_add] at hd1 ⊢
        obtain ⟨v, d2, e1, r0, r1, hd2⟩ := d_pull ad hk hd1 (by omega) (t := 4) (by decide) (by decide)
        obtain ⟨v', d3, e2, r0', r1', hd3⟩ := d_pull ad hk hd2 (by omega) (t := 4) (by decide) (by decide)
        exact ⟨.int (v - v'), μ.set k (.lst d3), by simp [e1, e2], by rw [hm]; exact set_take _ _ _, ⟨v - v', rfl, by omega, by omega⟩, d3, rfl, hd3.mono (by omega)⟩) ⟨d, hM.symm, h⟩
    obtain ⟨ys, μ', e, hl, hs, d', rfl, hd'⟩ := main
    rw [rng_len, Nat.zero_add] at hd'
    rw [rng_len] at hl
    obtain ⟨is, rfl, hb⟩ : ∃ is : List Int, ys = is.map Dat.int ∧ ∀ i ∈ is, -(10 ^ 41) ≤ i ∧ i ≤ 10 ^ 41 := by
      clear e hl
      induction ys with
      | nil => exact ⟨[], rfl, fun i hi => (by cases hi)⟩
      | cons y ys ih =>
        obtain ⟨is, e1, h1⟩ := ih fun z hz => hs z (List.mem_cons_of_mem _ hz)
        obtain ⟨i, e2, h2⟩ := hs y (List.mem_cons_self ..)
        refine ⟨i :: is, by rw [e1, e2]; rfl, fun j hj => ?_⟩
        rcases List.mem_cons.mp hj with rfl | hj
        · exact h2
        · exact h1 j hj
    rw [List.length_map] at hl
    refine ⟨is, d', ?_, ⟨⟨fun i hi => int_fit (hb i hi).1 (hb i hi).2, by omega⟩, fun z => by cases z⟩, decide_eq_true hl, fun z => by rw [z] at hl; simp at hl; omega, hb, hd'.mono (by omega)⟩
    rw [hM]
    have hrg : iRg1 (fBin oIx (fVar 1) (fC (.int 1))) ⟨[some (.r k), some (.d (meaD (.classes c))), none, none, none], M.length⟩ M = .ok (rngD 0 c) M := rg_nat (by simp [meaD, scN]) (by omega)
    refine (def_rt (g := m__law_amount ad) (x := .d (intsT is)) (μ1 := μ.set k (.lst d')) ?_).trans (by rw [e_fin, hm, set_take]; rfl)
    unfold m__law_amount
    refine (seq_nx (ρ1 := ⟨[some (.r k), some (.d (meaD (.classes c))), none, none, none], M.length⟩) (μ1 := M) ((sif_f (μ1 := M) ?_).trans rfl)).trans ((seq_rt ((sif_t (μ1 := M) ?_).trans (sret_ok (cb_ok (x := .lst (is.map Dat.int)) (lc_ok hrg (by rw [rng_len]; omega) e) rfl)))).trans rfl)
    · simp [meaD, scW, eqStr, n2]
    · simp [meaD, scW, eqStr]
  | odds =>
    obtain ⟨r, d1, e1, r0, r1, hd1⟩ := d_pull ad hk h (by omega) (t := 3) (by decide) (by decide)
    obtain ⟨q, rfl⟩ := Int.eq_ofNat_of_zero_le r0
    obtain ⟨t, et, ht⟩ := pick3 (q := q) (by omega) 3 12
    obtain ⟨v, d2, e2, v0, v1, hd2⟩ := d_pull ad hk hd1 (by omega) (t := t) (by omega) (by omega)
    obtain ⟨v', d3, e3, v0', v1', hd3⟩ := d_pull ad hk hd2 (by omega) (t := t) (by omega) (by omega)
    obtain ⟨x, rfl⟩ := Int.eq_ofNat_of_zero_le v0
    obtain ⟨y, rfl⟩ := Int.eq_ofNat_of_zero_le v0'
    have hl := fun μ => q_lowest ad (a := 1 + x) (b := 1 + y) (by omega) (by omega) (by omega) μ
    have hx1 : (1 + x) / Nat.gcd (1 + x) (1 + y) ≤ 1 + x := Nat.div_le_self _ _
    have hy1 : (1 + y) / Nat.gcd (1 + x) (1 + y) ≤ 1 + y := Nat.div_le_self _ _
    generalize (1 + x) / Nat.gcd (1 + x) (1 + y) = X at *
    generalize (1 + y) / Nat.gcd (1 + x) (1 + y) = Y at *
    have hb : ∀ i ∈ [(X : Int), (Y : Int)], -(10 ^ 41) ≤ i ∧ i ≤ 10 ^ 41 := fun i hi => by
      simp only [List.mem_cons, List.not_mem_nil, or_false] at hi
      rcases hi with rfl | rfl <;> omega
    refine ⟨[(X : Int), (Y : Int)], d3, ?_, ⟨⟨fun i hi => int_fit (hb i hi).1 (hb i hi).2, by simp⟩, fun z => by cases z⟩, (hl μ).2, by simp, hb, hd3.mono (by omega)⟩
    have hl2 := fun μ => (hl μ).1
    simp only [p40] at et
    simp only [Int.natCast_add, Int.cast_ofNat_Int] at hl2
    simp [F__law_amount, m__law_amount, e_def, meaD, scW, scN, eqStr, n1, n3, pow40, sizeE, e1, et, e2, e3, amD, set_take, hl2]
end M87

-- PD4
/-! PD4: what is drawn: spoilt texts, steps. -/
namespace M87
open PySem PySem.Spec PyProof.Rows L2 DL TX
variable (ad : Ad)
theorem tl_to (x : Str) (a : Nat) : TL.tl (cutS x none (some (a : Int))) = (TL.tl x).take a := by
  show (x.cps.toList.drop (HT.sIx x.length 0 none)).take (HT.sIx x.length x.length (some (a : Int)) - HT.sIx x.length 0 none) = _
  have e1 : HT.sIx x.length x.length (some (a : Int)) = min a x.length := HT.sIx_nat x.length x.length a
  have e2 : HT.sIx x.length 0 none = 0 := rfl
  rw [e1, e2, List.drop_zero, Nat.sub_zero]
  show (TL.tl x).take (min a x.length) = _
  rw [TL.len_tl, List.take_eq_take_iff]
  omega
theorem tl_from (x : Str) (a : Nat) : TL.tl (cutS x (some (a : Int)) none) = (TL.tl x).drop a := by
  show (x.cps.toList.drop (HT.sIx x.length 0 (some (a : Int)))).take (HT.sIx x.length x.length none - HT.sIx x.length 0 (some (a : Int))) = _
  have e1 : HT.sIx x.length 0 (some (a : Int)) = min a x.length := HT.sIx_nat x.length 0 a
  have e2 : HT.sIx x.length x.length none = x.length := rfl
  rw [e1, e2]
  show ((TL.tl x).drop (min a x.length)).take (x.length - min a x.length) = _
  have hl := TL.len_tl x
  rw [List.take_of_length_le (by rw [List.length_drop]; omega)]
  by_cases h : a ≤ x.length
  · rw [Nat.min_eq_left h]
  · rw [Nat.min_eq_right (by omega), List.drop_eq_nil_of_le (by omega), List.drop_eq_nil_of_le (by omega)]
def signs : List Str := [A " ", A "-", A "\n", A "/", A ":", A ";", A ",", A "@", A ">", A "=", A "0", A "1", A "7", A "a", A "b", A "c", A "z", A "A", A "  ", A " - ", A "all", A "of ", A "\n  "]
theorem sign_ok : ∀ g ∈ signs, g.length ≤ 3 ∧ (∃ c r, TL.tl g = c :: r ∧ c ≠ 119) ∧ PyData.strOk g = true := by
  have key : ∀ g ∈ signs, g.length ≤ 3 ∧ ((TL.tl g).head?.isSome && (TL.tl g).head? != some 119) = true ∧ PyData.strOk g = true := by decide +kernel
  intro g hg
  obtain ⟨h1, h2, h3⟩ := key g hg
  refine ⟨h1, ?_, h3⟩
  cases e : TL.tl g with
  | nil => rw [e] at h2; cases h2
  | cons c r =>
    rw [e] at h2
    refine ⟨c, r, rfl, ?_⟩
    rintro rfl
    simp at h2
structure Bent (t b : Str) : Prop where
  len : b.length ≤ t.length + 3
  ok : PyData.strOk t = true → PyData.strOk b = true
  hd : 119 ∉ (TL.tl t).take 2 → (TL.tl b).head? ≠ some 119
theorem bent_of {t b s : Str} {a e : Nat} (ha : a ≤ t.length) (hs : (s = A "" ∧ e = 1) ∨ s ∈ signs) (eb : TL.tl b = (TL.tl t).take a ++ TL.tl s ++ (TL.tl t).drop (a + e)) : Bent t b := by
  have hsl : s.length ≤ 3 ∧ PyData.strOk s = true := by
    rcases hs with ⟨rfl, _⟩ | hs
    · exact ⟨by decide +kernel, okS_of _⟩
    · exact ⟨(sign_ok s hs).1, (sign_ok s hs).2.2⟩
  refine ⟨?_, fun ht => okS_iff.mpr fun c hc => ?_, fun hw => ?_⟩
  · have h1 := TL.len_tl b
    have h2 := TL.len_tl t
    have h3 := TL.len_tl s
    rw [eb, List.length_append, List.length_append, List.length_take, List.length_drop] at h1
    omega
  · rw [eb, List.mem_append, List.mem_append] at hc
    rcases hc with (hc | hc) | hc
    · exact okS_iff.mp ht c (List.mem_of_mem_take hc)
    · exact okS_iff.mp hsl.2 c hc
    · exact okS_iff.mp ht c (List.mem_of_mem_drop hc)
  · rw [eb]
    have h2 := TL.len_tl t
    cases a with
    | zero =>
      rw [List.take_zero, List.nil_append, Nat.zero_add]
      rcases hs with ⟨rfl, rfl⟩ | hs
      · rw [show TL.tl (A "") = [] by decide +kernel, List.nil_append]
        cases el : TL.tl t with
        | nil => simp
        | cons c r =>
          cases r with
          | nil => simp
          | cons c2 r =>
            rw [el] at hw
            simp at hw ⊢
            exact fun z => hw.2 z.symm
      · obtain ⟨_, ⟨c, r, ec, hc⟩, _⟩ := sign_ok s hs
        rw [ec]
        simp
        exact hc
    | succ a =>
      cases el : TL.tl t with
      | nil => rw [el] at h2; simp at h2; omega
      | cons c r =>
        rw [el] at hw
        simp at hw ⊢
        exact fun z => hw.1 z.symm
theorem d_spoilt {k N : Nat} {μ : Mu} (hk : k < μ.length) {d : List Dat} (h : DiceOk N d) (hN : N + 60 ≤ 10 ^ 20) {t : Str} (ht : t.length ≤ 1000) :
    ∃ b d', F__law_spoilt ad [.r k, .d (.str t)] (μ.set k (.lst d)) = .ok (.d (.str b)) (μ.set k (.lst d')) ∧ Bent t b ∧ DiceOk (N + 3) d' := by
  obtain ⟨r, d1, e1, r0, r1, hd1⟩ := d_pull ad hk h (by omega) (t := (t.length : Int) + 1) (by omega) (by omega)
  obtain ⟨a, rfl⟩ := Int.eq_ofNat_of_zero_le r0
  obtain ⟨x, d2, e2, hx, hd2⟩ := d_pick ad hk hd1 (by omega) (xs := signs.map Dat.str) (by simp [signs]) (by simp [signs])
  obtain ⟨g, hg, rfl⟩ := List.mem_map.mp hx
  obtain ⟨r', d3, e3, r0', r1', hd3⟩ := d_pull ad hk hd2 (by omega) (t := 3) (by decide) (by decide)
  obtain ⟨w, rfl⟩ := Int.eq_ofNat_of_zero_le r0'
  have hgl := (sign_ok g hg).1
  obtain ⟨s, e, ei, eint, hs⟩ : ∃ (s : Str) (e : Nat), oIx (.lst [.str (Str.ofString ""), .str g, .str g]) (.int (w : Int)) = some (.str s) ∧ (if (w : Int) < 2 then (1 : Int) else 0) = (e : Int) ∧ ((s = A "" ∧ e = 1) ∨ s ∈ signs) := by
    have h4 : w = 0 ∨ w = 1 ∨ w = 2 := by omega
    rcases h4 with rfl | rfl | rfl
    · exact ⟨A "", 1, ix_ln (j := 0) rfl, rfl, .inl ⟨rfl, rfl⟩⟩
    · exact ⟨g, 1, ix_ln (j := 1) rfl, rfl, .inr hg⟩
    · exact ⟨g, 0, ix_ln (j := 2) rfl, rfl, .inr hg⟩
  have hsl : s.length ≤ 3 := by
    rcases hs with ⟨rfl, _⟩ | hs
    · decide +kernel
    · exact (sign_ok s hs).1
  have c1 : slD (.str t) none (some (a : Int)) = some (.str (cutS t none (some (a : Int)))) := if_pos (by rw [sizeE]; omega)
  obtain ⟨J, hJ⟩ : ∃ J : Int, J = ((a + e : Nat) : Int) := ⟨_, rfl⟩
  have hJ2 : (a : Int) + (e : Int) = J := by omega
  have c2 : slD (.str t) (some J) none = some (.str (cutS t (some J) none)) := if_pos (by rw [sizeE]; omega)
  have l1 : (cutS t none (some (a : Int))).length ≤ t.length := cutS_length _ _ _
  have l2 : (cutS t (some J) none).length ≤ t.length := cutS_length _ _ _
  have a1 : oAdd (.str (cutS t none (some (a : Int)))) (.str s) = some (.str (cutS t none (some (a : Int)) ++ s)) := add_str (by omega)
  have a2 : oAdd (.str (cutS t none (some (a : Int)) ++ s)) (.str (cutS t (some J) none)) = some (.str (cutS t none (some (a : Int)) ++ s ++ cutS t (some J) none)) := add_str (by rw [len_app]; omega)
  refine ⟨cutS t none (some (a : Int)) ++ s ++ cutS t (some J) none, d3, ?_, bent_of (a := a) (e := e) (by omega) hs (by rw [TL.tl_append, TL.tl_append, tl_to, hJ, tl_from]), hd3⟩
  obtain ⟨M, hM⟩ : ∃ M, μ.set k (.lst d) = M := ⟨_, rfl⟩
  have hm : M.length = μ.length := by rw [← hM, List.length_set]
  rw [hM] at e1 ⊢
  have eS : ([.str (Str.ofString " "), .str (Str.ofString "-"), .str (Str.ofString "\n"), .str (Str.ofString "/"), .str (Str.ofString ":"), .str (Str.ofString ";"), .str (Str.ofString ","), .str (Str.ofString "@"), .str (Str.ofString ">"), .str (Str.ofString "="), .str (Str.ofString "0"), .str (Str.ofString "1"), .str (Str.ofString "7"), .str (Str.ofString "a"), .str (Str.ofString "b"), .str (Str.ofString "c"), .str (Str.ofString "z"), .str (Str.ofString "A")] : List Dat) ++ [.str (Str.ofString "  "), .str (Str.ofString " - "), .str (Str.ofString "all"), .str (Str.ofString "of "), .str (Str.ofString "\n  ")] = signs.map Dat.str := rfl
  have aL : oAdd (.lst [.str (Str.ofString " "), .str (Str.ofString "-"), .str (Str.ofString "\n"), .str (Str.ofString "/"), .str (Str.ofString ":"), .str (Str.ofString ";"), .str (Str.ofString ","), .str (Str.ofString "@"), .str (Str.ofString ">"), .str (Str.ofString "="), .str (Str.ofString "0"), .str (Str.ofString "1"), .str (Str.ofString "7"), .str (Str.ofString "a"), .str (Str.ofString "b"), .str (Str.ofString "c"), .str (Str.ofString "z"), .str (Str.ofString "A")]) (.lst [.str (Str.ofString "  "), .str (Str.ofString " - "), .str (Str.ofString "all"), .str (Str.ofString "of "), .str (Str.ofString "\n  ")]) = some (.lst (signs.map Dat.str)) := by
    rw [← eS]
    simp [oAdd, sizeE]
  refine (def_rt (g := m__law_spoilt ad) (x := .d (.str (cutS t none (some (a : Int)) ++ s ++ cutS t (some J) none))) (μ1 := μ.set k (.lst d3)) ?_).trans (by rw [e_fin, hm, set_take])
  unfold m__law_spoilt
  refine (seq_nx (sset_ok (x := .d (.lst _)) (μ1 := M) (by simp [sizeE]; rfl))).trans ((seq_nx (sset_ok (x := .d (.lst (signs.map Dat.str))) (μ1 := M) ?_)).trans ((seq_nx (spar_ok (x := .d (.int a)) (y := .d (.str g)) (μ1 := μ.set k (.lst d2)) ?_)).trans ((seq_nx (sset_ok (x := .d (.int w)) (μ1 := μ.set k (.lst d3)) ?_)).trans (sret_ok ?_))))
  · simp [sizeE, aL]
  · simp [e1, e2, show t.length ≤ 16777216 by omega]
  · simp [e3]
  · simp [c1, ei, a1, eint, hJ2, c2, a2, sizeE]
theorem d_step {k N : Nat} {μ : Mu} (hk : k < μ.length) {d : List Dat} (h : DiceOk N d) (hN : N + 200 ≤ 10 ^ 20) :
    ∃ s d', F__law_step ad [.r k] (μ.set k (.lst d)) = .ok (.d (stpD s)) (μ.set k (.lst d')) ∧ isForm s = true ∧ (stepText s).length ≤ 60 ∧ DiceOk (N + 60) d' := by
  obtain ⟨r, d1, e1, r0, r1, hd1⟩ := d_pull ad hk h (by omega) (t := 6) (by decide) (by decide)
  obtain ⟨a, rfl⟩ := Int.eq_ofNat_of_zero_le r0
  obtain ⟨xs, d2, e2, hr, hd2⟩ := d_columns ad hk hd1 (by omega) (n := 1 + a) (by omega)
  obtain ⟨r', d3, e3, r0', r1', hd3⟩ := d_pull ad hk hd2 (by omega) (t := 3) (by decide) (by decide)
  obtain ⟨w, rfl⟩ := Int.eq_ofNat_of_zero_le r0'
  have hc := hr.cols (by omega)
  have hl := hr.len
  rw [show ((1 + a : Nat) : Int) = 1 + (a : Int) by omega] at e2
  obtain ⟨M, hM⟩ : ∃ M, μ.set k (.lst d) = M := ⟨_, rfl⟩
  have hm : M.length = μ.length := by rw [← hM, List.length_set]
  rw [hM] at e1 ⊢
  have start : ∀ {x : SV} {μ1 : Mu}, (sSeq (sIf (fB (fBin oLt (fVar 2) (fC (.int 2)))) (sRet (fTup (fCons (fBin oIx (fLst (fCons (fC (.str (Str.ofString "common"))) (fCons (fC (.str (Str.ofString "fixed"))) fNil))) (fVar 2)) (fCons (fBin oIx (fVar 1) (fC (.int 0))) fNil)))) sNx) (sRet (fTup (fCons (fC (.str (Str.ofString "pair"))) (fCons (fCall 3 (F__law_some ad) (fCons (fVar 0) (fCons (fVar 1) (fCons (fC (.int 2)) fNil)))) (fCons (fCall 3 (F__law_some ad) (fCons (fVar 0) (fCons (fVar 1) (fCons (fC (.int 2)) fNil)))) fNil))))))
      ⟨[some (.r k), some (.d (colsD xs)), some (.d (.int w))], M.length⟩ (μ.set k (.lst d3)) = .rt x μ1 → F__law_step ad [.r k] M = fin false M.length x μ1 := fun hh => by
    refine def_rt (g := m__law_step ad) ?_
    unfold m__law_step
    generalize F__law_columns ad = FC at e2 hh ⊢
    generalize F__law_pull ad = FP at e1 e3 hh ⊢
    generalize F__law_some ad = FS at hh ⊢
    refine (seq_nx (sset_ok (x := .d (colsD xs)) (μ1 := μ.set k (.lst d2)) ?_)).trans ((seq_nx (sset_ok (x := .d (.int w)) (μ1 := μ.set k (.lst d3)) ?_)).trans hh)
    · simp [e1, e2]
    · simp [e3]
  by_cases hw : (w : Int) < 2
  · cases xs with
    | nil =>
      rw [List.length_nil] at hl
      omega
    | cons x0 r =>
      obtain ⟨hx0, hx3⟩ := hr.nam x0 (List.mem_cons_self ..)
      obtain ⟨u, eu, hu, hul⟩ : ∃ u, oIx (.lst [.str (Str.ofString "common"), .str (Str.ofString "fixed")]) (.int (w : Int)) = some (.str u) ∧ isForm (.two u x0) = true ∧ u.length ≤ 6 := by
        have h4 : w = 0 ∨ w = 1 := by omega
        rcases h4 with rfl | rfl
        · exact ⟨A "common", ix_ln (j := 0) rfl, by simp only [isForm, hx0]; decide +kernel, by decide +kernel⟩
        · exact ⟨A "fixed", ix_ln (j := 1) rfl, by simp only [isForm, hx0]; decide +kernel, by decide +kernel⟩
      have l1 : (A " ").length = 1 := by decide +kernel
      refine ⟨.two u x0, d3, ?_, hu, by simp only [stepText, len_app, l1]; omega, hd3.mono (by omega)⟩
      refine (start (x := .d (stpD (.two u x0))) (μ1 := μ.set k (.lst d3)) (seq_rt ((sif_t (μ1 := μ.set k (.lst d3)) ?_).trans (sret_ok ?_)))).trans (by rw [e_fin, hm, set_take])
      · simp [hw]
      · simp [eu, colsD, stpD, sizeE]
  · obtain ⟨ys, d4, e4, hs1, hd4⟩ := d_some ad hk hd3 (by omega) (xs := xs) (by omega)
    obtain ⟨zs, d5, e5, hs2, hd5⟩ := d_some ad hk hd4 (by omega) (xs := xs) (by omega)
    have sub : ∀ {ys : List Str}, ys.Sublist xs → areCols ys = true ∧ (colsText ys).length ≤ 24 := fun {ys} hs => by
      have hn : ∀ x ∈ ys, isName x = true ∧ x.length ≤ 3 := fun x hx => hr.nam x (hs.subset hx)
      have hyl : ys.length ≤ 6 := by have := hs.length_le; omega
      refine ⟨?_, ?_⟩
      · simp only [areCols, Bool.and_eq_true, decide_eq_true_eq, List.all_eq_true]
        exact ⟨⟨by omega, fun x hx => (hn x hx).1⟩, pw_asc (hr.asc.sublist hs)⟩
      · unfold colsText
        split
        · decide +kernel
        · have h1 := len_join (A " ") ys
          have h2 := len_join_le (y := A " ") (l := ys) (n := 6) (B := 3) hyl fun x hx => (hn x hx).2
          have h3 : (A " ").length = 1 := by decide +kernel
          rw [h3] at h1 h2
          omega
    obtain ⟨c1, l1⟩ := sub hs1
    obtain ⟨c2, l2⟩ := sub hs2
    have l3 : (A " ").length = 1 := by decide +kernel
    have l4 : (A " / ").length = 3 := by decide +kernel
    have l5 : (A "pair").length = 4 := by decide +kernel
    refine ⟨.pr ys zs, d5, ?_, by simp [isForm, c1, c2], by simp only [stepText, len_app, l3, l4, l5]; omega, hd5.mono (by omega)⟩
    refine (start (x := .d (stpD (.pr ys zs))) (μ1 := μ.set k (.lst d5)) ((seq_nx ((sif_f (μ1 := μ.set k (.lst d3)) ?_).trans rfl)).trans (sret_ok ?_))).trans (by rw [e_fin, hm, set_take])
    · simp [hw]
    · generalize F__law_some ad = FS at e4 e5 ⊢
      simp [e4, e5, stpD, sizeE]
end M87

-- PD5
/-! PD5: the law's own texts; witnesses. -/
namespace M87
open PySem PySem.Spec PyProof.Rows L2 DL TX
variable (ad : Ad)
theorem l_columns_text {xs : List Str} (h : areCols xs = true) (μ : Mu) : F__law_columns_text ad [.d (colsD xs)] μ = .ok (.d (.str (colsText xs))) μ := by
  have h1 := eq_cols true (.cols h)
  have h2 : joinD (A " ") (.lst (xs.map Dat.str)) = some (.str (Txt.join (A " ") xs)) := joinD_lst (Nat.le_trans (len_join_le (n := 8) (B := 8) (cols_len h) fun x hx => (name_len (cols_name h x hx)).2) (by decide +kernel))
  simp only [F__law_columns_text, m__law_columns_text, e_def, colsText]
  by_cases e : xs = []
  · subst e
    simp [h1, sizeE]
  · have he : xs.isEmpty = false := List.isEmpty_eq_false_iff.mpr e
    rw [he] at h1
    simp [h1, h2, sizeE, e]
theorem vws_rd (k : Nat) (μ : Mu) (xs : List Dat) (h : μ[k]? = some (.lst xs)) (d : Dat) : vws [.r k, .d d] μ = some [.lst xs, d] := by
  simp [vw_r h]
def stepAdd (ad : Ad) : SM := (sIf (fB (fBin (oEq false) (fBin oIx (fVar 2) (fC (.int 0))) (fC (.str (Str.ofString "pair"))))) (sDrop (fAppend (fVar 1) (fBin oAdd (fBin oAdd (fBin oAdd (fC (.str (Str.ofString "pair "))) (fCall 1 (F__law_columns_text ad) (fCons (fBin oIx (fVar 2) (fC (.int 1))) fNil))) (fC (.str (Str.ofString " / ")))) (fCall 1 (F__law_columns_text ad) (fCons (fBin oIx (fVar 2) (fC (.int 2))) fNil))))) (sDrop (fAppend (fVar 1) (fBin oAdd (fBin oAdd (fBin oIx (fVar 2) (fC (.int 0))) (fC (.str (Str.ofString " ")))) (fBin oIx (fVar 2) (fC (.int 1)))))))
theorem l_step_add {s : Stp} (h : isForm s = true) {M : Mu} {m : Nat} (hm : M.length = m) (ss : SV) (ts : List Str) (hts : ts.length ≤ 600) :
    stepAdd ad ⟨[some ss, some (.r m), some (.d (stpD s))], m⟩ (M ++ [.lst (ts.map Dat.str)]) = .nx ⟨[some ss, some (.r m), some (.d (stpD s))], m⟩ (M ++ [.lst ((ts ++ [stepText s]).map Dat.str)]) := by
  have hl := stepText_len h
  have l1 : (A " ").length = 1 := by decide +kernel
  have l2 : (A " / ").length = 3 := by decide +kernel
  have l3 : (A "pair ").length = 5 := by decide +kernel
  have l4 : (A "pair").length = 4 := by decide +kernel
  cases s with
  | two w x =>
    have hc : cf w = true ∧ isName x = true := by simpa [isForm, cf] using h
    have hf := FitS.form h
    have hp : w ≠ A "pair" := by
      rintro rfl
      have : cf (A "pair") = false := by decide +kernel
      rw [this] at hc
      cases hc.1
    simp only [stepText, len_app] at hl
    have a1 : oAdd (.str w) (.str (A " ")) = some (.str (w ++ A " ")) := add_str (by omega)
    have a2 : oAdd (.str (w ++ A " ")) (.str x) = some (.str (w ++ A " " ++ x)) := add_str (by rw [len_app]; omega)
    simp [stepAdd, stpD, stepText, eqStr, hf.1.ok, hp, a1, a2, e_append, isLst, get_last hm, set_last hm, sizeE, show ts.length < 16777216 by omega]
  | pr l o =>
    simp only [isForm, Bool.and_eq_true] at h
    have c1 := colsText_len h.1
    have c2 := colsText_len h.2
    have ep : A "pair " = A "pair" ++ A " " := by decide +kernel
    have a1 : oAdd (.str (A "pair ")) (.str (colsText l)) = some (.str (A "pair " ++ colsText l)) := add_str (by omega)
    have a2 : oAdd (.str (A "pair " ++ colsText l)) (.str (A " / ")) = some (.str (A "pair " ++ colsText l ++ A " / ")) := add_str (by rw [len_app]; omega)
    have a3 : oAdd (.str (A "pair " ++ colsText l ++ A " / ")) (.str (colsText o)) = some (.str (A "pair" ++ A " " ++ colsText l ++ A " / " ++ colsText o)) := by
      rw [← ep]
      exact add_str (by rw [len_app, len_app]; omega)
    simp [stepAdd, stpD, stepText, eqStr, l_columns_text ad h.1, l_columns_text ad h.2, a1, a2, a3, e_append, isLst, get_last hm, set_last hm, sizeE, show ts.length < 16777216 by omega]
theorem l_steps_text {ss : List Stp} (h : ss.all isForm = true) (hl : ss.length ≤ 502) (M : Mu) : F__law_steps_text ad [.d (stpsD ss)] M = .ok (.d (.str (stepsText ss))) M := by
  have h' := h
  rw [List.all_eq_true] at h'
  have main := for_inv (g := gN 2) (b := stepAdd ad) (fun i ρ' μ' => (∃ s2, ρ' = ⟨[some (.d (stpsD ss)), some (.r M.length), s2], M.length⟩) ∧ μ' = M ++ [.lst (((ss.take i).map stepText).map Dat.str)]) (ss.map stpD) 0 ⟨[some (.d (stpsD ss)), some (.r M.length), none], M.length⟩ (M ++ [.lst []]) (by
    rintro i x hx ρ1 μ1 ⟨⟨s2, rfl⟩, rfl⟩
    rw [Nat.zero_add]
    rw [List.getElem?_map] at hx
    cases e : ss[i]? with
    | none => rw [e] at hx; cases hx
    | some s =>
      rw [e] at hx
      cases hx
      have hi := (List.getElem?_eq_some_iff.mp e).1
      have hs := h' s (List.mem_of_getElem? e)
      have et : ss.take (i + 1) = ss.take i ++ [s] := by
        rw [List.take_succ, e]; rfl
      refine ⟨_, _, _, rfl, l_step_add ad hs rfl _ ((ss.take i).map stepText) (by rw [List.length_map, List.length_take]; omega), ⟨_, rfl⟩, ?_⟩
      rw [et]; simp) ⟨⟨_, rfl⟩, rfl⟩
  obtain ⟨ρ', μ', e, ⟨s2, rfl⟩, rfl⟩ := main
  rw [List.length_map, Nat.zero_add, List.take_length] at e
  have hj : joinD (A " ; ") (.lst ((ss.map stepText).map Dat.str)) = some (.str (Txt.join (A " ; ") (ss.map stepText))) := joinD_lst (stepsText_len h hl).2
  have hb : fB (fBin (oEq true) (fVar 1) (fLst fNil)) ⟨[some (.d (stpsD ss)), some (.r M.length), s2], M.length⟩ (M ++ [.lst ((ss.map stepText).map Dat.str)]) = .ok (!ss.isEmpty) (M ++ [.lst ((ss.map stepText).map Dat.str)]) := by
    simp [o2, vw_r (get_last rfl _), eq_nilL]
  refine (def_rt (g := m__law_steps_text ad) (x := .d (.str (stepsText ss))) (μ1 := M ++ [.lst ((ss.map stepText).map Dat.str)]) ?_).trans (by rw [e_fin]; simp)
  unfold m__law_steps_text
  refine (seq_nx (sset_ok (x := .r M.length) (μ1 := M ++ [.lst []]) (by simp [sizeE]))).trans ((seq_nx ((for_go (xs := ss.map stpD) (μ1 := M ++ [.lst []]) (by simp)).trans e)).trans (sret_ok ?_))
  rw [e_if, hb, Res.bind_ok]
  unfold stepsText
  by_cases e : ss = []
  · subst e
    simp
  · have he : ss.isEmpty = false := List.isEmpty_eq_false_iff.mpr e
    rw [he, if_neg e]
    rw [List.map_map] at hj
    simp [vw_r (get_last rfl _), hj]
theorem l_witness_text {p : Str} {m : List (Str × Str)} (h : isWi p m = true) (μ : Mu) : F__law_witness_text ad [.d (papD (.wi p m))] μ = .ok (.d (.str (wiText p m))) μ := by
  obtain ⟨w1, w2, w3, w4, w5⟩ := wi_len h
  have l1 : (A " ").length = 1 := by decide +kernel
  have l2 : (A "witness ").length = 8 := by decide +kernel
  have l3 : (A ": ").length = 2 := by decide +kernel
  have l4 : (A "-").length = 1 := by decide +kernel
  have hm : areMaks m = true := by
    simp only [isWi, Bool.and_eq_true] at h
    exact h.2
  obtain ⟨n1, n2⟩ := asc_nodup_keys hm
  rw [List.all_eq_true] at n1
  have hml := maks_len hm
  have key : lcGo (gN 2) fYes (fBin oAdd (fBin oAdd (fVar 2) (fC (.str (Str.ofString " ")))) (fIf (fB (fBin (oEq true) (fBin oDget (fBin oIx (fVar 0) (fC (.int 2))) (fVar 2)) (fC (.str (Str.ofString ""))))) (fBin oDget (fBin oIx (fVar 0) (fC (.int 2))) (fVar 2)) (fC (.str (Str.ofString "-"))))) [some (.d (papD (.wi p m))), none, none] μ.length ((sortS (keysOf m)).map Dat.str) μ = .ok ((sortS (keysOf m)).map fun k => Dat.str (rowText m k)) μ :=
    lc_map _ _ rfl fun k hk => by
      obtain ⟨v, e, hmem⟩ := look_mem (sort_mem.mp hk)
      have hv : maks.contains v = true := by
        simp only [areMaks, Bool.and_eq_true, List.all_eq_true] at hm
        exact hm.2 _ hmem
      obtain ⟨m1, m2, m3, m4, m5⟩ := mak_small hv
      have hnl := (name_len (n1 k hk)).2
      have eg : oDget (mapD m) (.str k) = some (.str v) := by
        show (some (Sum.inr k : Key)).bind (fun k => valD (m.map eKv) k) = _
        show valD (m.map eKv) (.inr k) = _
        rw [val_map, e]; rfl
      have er : rowText m k = k ++ A " " ++ makText v := by unfold rowText; rw [e]; rfl
      have a1 : oAdd (.str k) (.str (A " ")) = some (.str (k ++ A " ")) := add_str (by omega)
      have a2 : oAdd (.str (k ++ A " ")) (.str (makText v)) = some (.str (k ++ A " " ++ makText v)) := add_str (by rw [len_app]; omega)
      rw [er]
      unfold makText at a2 ⊢
      by_cases hz : v = A ""
      · subst hz
        rw [if_pos rfl] at a2 ⊢
        simp [papD, eg, eqStr, a1, a2]
      · rw [if_neg hz] at a2 ⊢
        simp [papD, eg, eqStr, m1, hz, a1, a2]
  have hs := sorted_keys (m := m) (by omega)
  have hj : joinD (A ", ") (.lst ((sortS (keysOf m)).map fun k => Dat.str (rowText m k))) = some (.str (Txt.join (A ", ") ((sortS (keysOf m)).map (rowText m)))) := by
    have e : ((sortS (keysOf m)).map fun k => Dat.str (rowText m k)) = ((sortS (keysOf m)).map (rowText m)).map Dat.str := by rw [List.map_map]; rfl
    rw [e]
    exact joinD_lst (Nat.le_trans w5 (by decide))
  have h3 : (sortS (keysOf m)).length ≤ 16777216 := by
    rw [sort_len, keysOf, List.length_map]
    omega
  have ep : A "witness " = A "witness" ++ A " " := by decide +kernel
  have a1 : oAdd (.str (A "witness ")) (.str p) = some (.str (A "witness " ++ p)) := add_str (by omega)
  have a2 : oAdd (.str (A "witness " ++ p)) (.str (A ": ")) = some (.str (A "witness " ++ p ++ A ": ")) := add_str (by rw [len_app]; omega)
  have a3 : ∀ x : Str, x.length ≤ 112 → oAdd (.str (A "witness " ++ p ++ A ": ")) (.str x) = some (.str (A "witness" ++ A " " ++ p ++ A ": " ++ x)) := fun x hx => by
    rw [← ep]
    exact add_str (by rw [len_app, len_app]; omega)
  have w3' := w3
  simp only [F__law_witness_text, m__law_witness_text, e_def, wiText]
  unfold told at w3' ⊢
  simp only [papD] at key ⊢
  by_cases e : sortS (keysOf m) = []
  · rw [if_pos e] at w3' ⊢
    rw [e] at hs
    simp [hs, eq_nilL, sizeE, a1, a2, a3 _ w3']
  · rw [if_neg e] at w3' ⊢
    have he : (sortS (keysOf m)).isEmpty = false := List.isEmpty_eq_false_iff.mpr e
    simp [hs, key, eq_nilL, sizeE, h3, hj, e, he, a1, a2, a3 _ w3']
def witB (ad : Ad) : SM := (sSeq (sSet (fPop1 (fVar 1) (fCall 2 (F__law_pull ad) (fCons (fVar 0) (fCons (fCb lenD (fCons (fVar 1) fNil)) fNil)))) (gN 3)) (sStore (fVar 2) (fVar 3) (fCall 2 (F__law_pick ad) (fCons (fVar 0) (fCons (fLst (fCons (fC (.str (Str.ofString ""))) (fCons (fC (.str (Str.ofString "a"))) (fCons (fC (.str (Str.ofString "b"))) (fCons (fC (.str (Str.ofString "c"))) (fCons (fC (.str (Str.ofString "ab"))) (fCons (fC (.str (Str.ofString "ac"))) (fCons (fC (.str (Str.ofString "bc"))) (fCons (fC (.str (Str.ofString "abc"))) fNil))))))))) fNil)))))
theorem e_pop1 (fo fe : EM) (ρ : En) (μ : Mu) : fPop1 fo fe ρ μ = ((fo ρ μ).bind fun x μ1 => match isLst x μ1 with
  | none => .bad
  | some k => (fe ρ μ1).bind fun y μ2 => match y with
    | .d (.int i) => (match μ2[k]? with
      | some (.lst xs) => (match ixN xs.length i with
        | some j => (match xs[j]? with
          | some d => if xs.length ≤ sizeLine then .ok (.d d) (μ2.set k (.lst (xs.eraseIdx j))) else .bad
          | none => .bad)
        | none => .bad)
      | _ => .bad)
    | _ => .bad) := (rfl)
theorem get_l1 {M : Mu} {m : Nat} (h : M.length = m) (o o' : Ob) : (M ++ [o, o'])[m]? = some o := by
  subst h
  simp
theorem get_l2 {M : Mu} {m : Nat} (h : M.length = m) (o o' : Ob) : (M ++ [o, o'])[m + 1]? = some o' := by
  subst h
  rw [List.getElem?_append_right (by omega)]
  simp
theorem set_l1 {M : Mu} {m : Nat} (h : M.length = m) (o o' x : Ob) : (M ++ [o, o']).set m x = M ++ [x, o'] := by
  subst h
  simp
theorem set_l2 {M : Mu} {m : Nat} (h : M.length = m) (o o' x : Ob) : (M ++ [o, o']).set (m + 1) x = M ++ [o, x] := by
  subst h
  rw [List.set_append_right _ _ (by omega)]
  simp
theorem erase_perm {α : Type} : ∀ {l : List α} {j : Nat} (h : j < l.length), (l[j] :: l.eraseIdx j).Perm l
  | x :: r, 0, _ => List.Perm.refl _
  | x :: r, j + 1, h => by
    have hj : j < r.length := by simpa using h
    have ih := erase_perm (l := r) (j := j) hj
    show (r[j] :: x :: r.eraseIdx j).Perm (x :: r)
    exact (List.Perm.swap _ _ _).trans (ih.cons x)
theorem erase_map {α β : Type} (f : α → β) : ∀ (l : List α) (j : Nat), (l.map f).eraseIdx j = (l.eraseIdx j).map f
  | [], j => rfl
  | x :: r, 0 => rfl
  | x :: r, j + 1 => by
    show f x :: (r.map f).eraseIdx j = f x :: (r.eraseIdx j).map f
    rw [erase_map f r j]
/-- names that are left, and those that have a making -/
structure Wit (xs rest : List Str) (m : List (Str × Str)) : Prop where
  perm : (rest ++ keysOf m).Perm xs
  mak : ∀ kv ∈ m, maks.contains kv.2 = true
theorem wit_step {k N : Nat} {μ : Mu} (hk : k < μ.length) {d : List Dat} (h : DiceOk N d) (hN : N + 60 ≤ 10 ^ 20) {xs rest : List Str} {mk : List (Str × Str)} (hw : Wit xs rest mk) (hx : xs.Nodup) (hxl : xs.length ≤ 8) (hr : rest ≠ []) (m : Nat) (hm : μ.length = m) (s3 : Option SV) :
    ∃ rest' mk' d' s3', witB ad ⟨[some (.r k), some (.r m), some (.r (m + 1)), s3], m⟩ (μ.set k (.lst d) ++ [.lst (rest.map Dat.str), .dct (mk.map eKv)]) =
      .nx ⟨[some (.r k), some (.r m), some (.r (m + 1)), s3'], m⟩ (μ.set k (.lst d') ++ [.lst (rest'.map Dat.str), .dct (mk'.map eKv)]) ∧ Wit xs rest' mk' ∧ rest'.length + 1 = rest.length ∧ DiceOk (N + 2) d' := by
  have hml : ∀ o, (μ.set k o).length = m := fun o => List.length_set.trans hm
  have hrl : 0 < rest.length := List.length_pos_iff.mpr hr
  have hpl : rest.length + mk.length = xs.length := by
    have z := hw.perm.length_eq
    rw [List.length_append, keysOf, List.length_map] at z
    exact z
  obtain ⟨r, d2, e1, r0, r1, hd2⟩ := d_pullA ad hk h (by omega) (t := (rest.length : Int)) (by omega) (by omega) [.lst (rest.map Dat.str), .dct (mk.map eKv)]
  obtain ⟨j, rfl⟩ := Int.eq_ofNat_of_zero_le r0
  have hj : j < rest.length := by omega
  obtain ⟨x, d3, e2, hxm, hd3⟩ := d_pickA ad hk hd2 (by omega) (xs := [.str (Str.ofString ""), .str (Str.ofString "a"), .str (Str.ofString "b"), .str (Str.ofString "c"), .str (Str.ofString "ab"), .str (Str.ofString "ac"), .str (Str.ofString "bc"), .str (Str.ofString "abc")]) (by simp) (by simp) [.lst ((rest.eraseIdx j).map Dat.str), .dct (mk.map eKv)]
  obtain ⟨v, rfl, hv⟩ : ∃ v : Str, x = .str v ∧ maks.contains v = true := by
    have key : ∀ v ∈ [A "", A "a", A "b", A "c", A "ab", A "ac", A "bc", A "abc"], maks.contains v = true := by decide +kernel
    have hxm' : x ∈ [A "", A "a", A "b", A "c", A "ab", A "ac", A "bc", A "abc"].map Dat.str := hxm
    obtain ⟨v, hv, rfl⟩ := List.mem_map.mp hxm'
    exact ⟨v, rfl, key v hv⟩
  have hix : ixN rest.length (j : Int) = some j := by
    unfold ixN
    rw [if_pos (by omega), if_pos (by omega), Int.toNat_natCast]
  have hperm : (rest[j] :: rest.eraseIdx j).Perm rest := erase_perm hj
  have hnk : rest[j] ∉ keysOf mk := fun hin => by
    have nd : (rest ++ keysOf mk).Nodup := hw.perm.nodup_iff.mpr hx
    exact (List.nodup_append.mp nd).2.2 _ (List.getElem_mem hj) _ hin rfl
  have hput : putS mk rest[j] v = mk ++ [(rest[j], v)] := by
    have z := merge_new [(rest[j], v)] mk (by simp) (fun q hq => by
      simp at hq
      rw [hq]
      exact hnk)
    exact z
  have hsto : storeD (.dct (mk.map eKv)) (.str rest[j]) (.str v) = some (.dct ((mk ++ [(rest[j], v)]).map eKv)) := by
    show (if (mk.map eKv).length < sizeLine then (datKey (.str rest[j])).map fun k => Ob.dct (putD (mk.map eKv) k (.str v)) else none) = _
    rw [if_pos (by rw [List.length_map, sizeE]; omega)]
    show some (Ob.dct (putD (mk.map eKv) (.inr rest[j]) (.str v))) = _
    rw [put_map, hput]
  have her : (rest.map Dat.str).eraseIdx j = (rest.eraseIdx j).map Dat.str := erase_map _ _ _
  refine ⟨rest.eraseIdx j, mk ++ [(rest[j], v)], d3, some (.d (.str rest[j])), ?_, ⟨?_, ?_⟩, by rw [List.length_eraseIdx_of_lt hj]; omega, hd3⟩
  · have hp : sSet (fPop1 (fVar 1) (fCall 2 (F__law_pull ad) (fCons (fVar 0) (fCons (fCb lenD (fCons (fVar 1) fNil)) fNil)))) (gN 3) ⟨[some (.r k), some (.r m), some (.r (m + 1)), s3], m⟩ (μ.set k (.lst d) ++ [.lst (rest.map Dat.str), .dct (mk.map eKv)]) =
        .nx ⟨[some (.r k), some (.r m), some (.r (m + 1)), some (.d (.str rest[j]))], m⟩ (μ.set k (.lst d2) ++ [.lst ((rest.eraseIdx j).map Dat.str), .dct (mk.map eKv)]) := by
      simp [e_pop1, isLst, get_l1 (hml _), set_l1 (hml _), vw_r (get_l1 (hml _) _ _), e1, hix, hj, her, sizeE, show rest.length ≤ 16777216 by omega]
    unfold witB
    rw [seq_nx hp]
    simp [e_store, e2, get_l2 (hml _), set_l2 (hml _), hsto, sizeE]
  · rw [keysOf, List.map_append]
    refine List.Perm.trans ?_ hw.perm
    have z : (rest.eraseIdx j ++ (keysOf mk ++ [rest[j]])).Perm (rest[j] :: (rest.eraseIdx j ++ keysOf mk)) := by
      rw [← List.append_assoc]
      exact List.perm_append_singleton _ _
    exact z.trans (hperm.append_right _)
  · intro kv hkv
    rcases List.mem_append.mp hkv with hkv | hkv
    · exact hw.mak kv hkv
    · rw [List.mem_singleton.mp hkv]
      exact hv
theorem wit_loop {k : Nat} {μ : Mu} (hk : k < μ.length) {xs : List Str} (hx : xs.Nodup) (hxl : xs.length ≤ 8) (m : Nat) (hm : μ.length = m) : ∀ (f N : Nat) (rest : List Str) (mk : List (Str × Str)) (d : List Dat) (s3 : Option SV), rest.length < f → N + 2 * f + 60 ≤ 10 ^ 20 → DiceOk N d → Wit xs rest mk →
    ∃ mk' d' s3', whGo (fB (fBin (oEq true) (fVar 1) (fLst fNil))) (witB ad) f ⟨[some (.r k), some (.r m), some (.r (m + 1)), s3], m⟩ (μ.set k (.lst d) ++ [.lst (rest.map Dat.str), .dct (mk.map eKv)]) =
      .nx ⟨[some (.r k), some (.r m), some (.r (m + 1)), s3'], m⟩ (μ.set k (.lst d') ++ [.lst [], .dct (mk'.map eKv)]) ∧ Wit xs [] mk' ∧ DiceOk (N + 2 * f) d'
  | 0, _, _, _, _, _, h, _, _, _ => by cases h
  | f + 1, N, rest, mk, d, s3, hf, hN, hd, hw => by
    have hml : ∀ o, (μ.set k o).length = m := fun o => List.length_set.trans hm
    have hb : fB (fBin (oEq true) (fVar 1) (fLst fNil)) ⟨[some (.r k), some (.r m), some (.r (m + 1)), s3], m⟩ (μ.set k (.lst d) ++ [.lst (rest.map Dat.str), .dct (mk.map eKv)]) = .ok (!rest.isEmpty) (μ.set k (.lst d) ++ [.lst (rest.map Dat.str), .dct (mk.map eKv)]) := by
      simp [o2, vw_r (get_l1 (hml _) _ _), eq_nilL]
    unfold whGo
    rw [e_sT, hb]
    by_cases e : rest = []
    · subst e
      exact ⟨mk, d, s3, rfl, hw, hd.mono (by omega)⟩
    · have he : rest.isEmpty = false := List.isEmpty_eq_false_iff.mpr e
      obtain ⟨rest', mk', d1, s3', e1, hw1, hl, hd1⟩ := wit_step ad hk hd (by omega) hw hx hxl e m hm s3
      obtain ⟨mk2, d2, s32, e2, hw2, hd2⟩ := wit_loop hk hx hxl m hm f (N + 2) rest' mk' d1 s3' (by omega) (by omega) hd1 hw1
      refine ⟨mk2, d2, s32, ?_, hw2, hd2.mono (by omega)⟩
      rw [he]
      simp only [Bool.not_false, e1]
      exact e2
theorem e_wh (fu : En → Mu → Nat) (c : BM) (b : SM) (ρ : En) (μ : Mu) : sWh fu c b ρ μ = whGo c b (fu ρ μ) ρ μ := (rfl)
theorem wit_end {xs : List Str} {n : Nat} (hr : Row n xs) (hn : n ≤ 8) {mk : List (Str × Str)} (h : Wit xs [] mk) : areMaks mk = true ∧ (∀ k ∈ keysOf mk, k.length ≤ 3) ∧ (keysOf mk).Nodup := by
  have hp : (keysOf mk).Perm xs := h.perm
  have hs : sortS (keysOf mk) = xs := by
    refine perm_sorted ((sortS_perm _).trans hp) (sortS_sorted _) (hr.asc.imp fun {a b} hab => ?_)
    show ltCps b.cps.toList a.cps.toList = false
    rw [PyProof.Rows.ltCps_eq]
    exact decide_eq_false fun z => List.lt_irrefl _ (List.lt_trans hab z)
  refine ⟨?_, fun k hk => (hr.nam k (hp.mem_iff.mp hk)).2, hp.nodup_iff.mpr (pw_nodup hr.asc)⟩
  simp only [areMaks, Bool.and_eq_true, List.all_eq_true]
  refine ⟨⟨fun kv hkv => (hr.nam kv.1 (hp.mem_iff.mp (List.mem_map_of_mem hkv))).1, ?_⟩, h.mak⟩
  rw [hs]
  exact hr.cols hn
theorem d_witness {k N : Nat} {μ : Mu} (hk : k < μ.length) {d : List Dat} (h : DiceOk N d) (hN : N + 200 ≤ 10 ^ 20) :
    ∃ p m d', F__law_witness ad [.r k] (μ.set k (.lst d)) = .ok (.d (papD (.wi p m))) (μ.set k (.lst d')) ∧ isWi p m = true ∧ (∀ k ∈ keysOf m, k.length ≤ 3) ∧ (keysOf m).Nodup ∧ DiceOk (N + 80) d' := by
  obtain ⟨r, d1, e1, r0, r1, hd1⟩ := d_pull ad hk h (by omega) (t := 9) (by decide) (by decide)
  obtain ⟨n, rfl⟩ := Int.eq_ofNat_of_zero_le r0
  obtain ⟨xs, d2, e2, hr, hd2⟩ := d_columns ad hk hd1 (by omega) (n := n) (by omega)
  have hxl := hr.len
  obtain ⟨M, hM⟩ : ∃ M, μ.set k (.lst d) = M := ⟨_, rfl⟩
  have hm : μ.length = M.length := by rw [← hM, List.length_set]
  have hml : ∀ o, (μ.set k o).length = M.length := fun o => List.length_set.trans hm
  obtain ⟨mk, d3, s3, e3, hw, hd3⟩ := wit_loop ad hk (pw_nodup hr.asc) (by omega) M.length hm (n + 1) (N + 41) xs [] d2 none (by omega) (by omega) hd2 ⟨by simp, fun kv hkv => by cases hkv⟩
  obtain ⟨hma, hm3, hnd⟩ := wit_end hr (by omega) hw
  obtain ⟨x, d4, e4, hxm, hd4⟩ := d_pickA ad hk hd3 (by omega) (xs := [.str (Str.ofString "labels"), .str (Str.ofString "row"), .str (Str.ofString "turn"), .str (Str.ofString "triangles")]) (by simp) (by simp) [.lst [], .dct (mk.map eKv)]
  obtain ⟨p, hp, rfl⟩ := List.mem_map.mp (show x ∈ words.map Dat.str from hxm)
  rw [hM] at e1 ⊢
  refine ⟨p, mk, d4, ?_, by simp only [isWi, Bool.and_eq_true]; exact ⟨by simpa using hp, hma⟩, hm3, hnd, hd4.mono (by omega)⟩
  have hfu : fu__law_witness_0 ⟨[some (.r k), some (.r M.length), some (.r (M.length + 1)), none], M.length⟩ (μ.set k (.lst d2) ++ [.lst (xs.map Dat.str), .dct []]) = n + 1 := by
    simp only [fu__law_witness_0, List.getElem?_cons_succ, List.getElem?_cons_zero, get_l1 (hml _), List.length_map, hxl]
  refine (def_rt (g := m__law_witness ad) (x := .d (papD (.wi p mk))) (μ1 := μ.set k (.lst d4) ++ [.lst [], .dead]) ?_).trans (by rw [e_fin, ← hml (.lst d4)]; simp)
  unfold m__law_witness
  refine (seq_nx (ρ1 := ⟨[some (.r k), some (.r M.length), some (.r (M.length + 1)), none], M.length⟩) (μ1 := μ.set k (.lst d2) ++ [.lst (xs.map Dat.str), .dct []]) (spar_ok (x := .r M.length) (y := .r (M.length + 1)) ?_)).trans ((seq_nx ((e_wh _ _ _ _ _).trans (by rw [hfu]; exact e3))).trans (sret_ok ?_))
  · simp [fListL, e1, e2, hml]
  · simp [e4, asD, get_l2 (hml _), set_l2 (hml _), papD, sizeE]
end M87

-- PE1
/-! PE1: repr. -/
namespace DL
open PySem PySem.Spec PyProof.Rows L2 Builtin.Str
theorem reprChar_ok {q c : Nat} (hq : q < 0x110000) (hc : c < 0x110000) : ∀ d ∈ reprChar q c, d < 0x110000 := by
  have hx : ∀ w : Nat, ∀ d ∈ (List.replicate (w - ((Nat.toDigits 16 c).map Char.toNat).length) 48 ++ (Nat.toDigits 16 c).map Char.toNat), d < 0x110000 := by
    intro w d hd
    rcases List.mem_append.mp hd with hd | hd
    · rw [(List.mem_replicate.mp hd).2]; decide
    · obtain ⟨e, _, rfl⟩ := List.mem_map.mp hd
      have h := e.valid
      rcases h with h | h
      · have : e.toNat = e.val.toNat := rfl
        omega
      · have : e.toNat = e.val.toNat := rfl
        omega
  intro d hd
  unfold reprChar at hd
  dsimp only at hd
  split at hd
  · simp at hd; omega
  · split at hd
    · simp at hd; omega
    · split at hd
      · simp at hd; omega
      · split at hd
        · simp at hd; omega
        · split at hd
          · simp at hd; omega
          · split at hd
            · rcases List.mem_append.mp hd with hd | hd
              · simp at hd; omega
              · exact hx 2 d hd
            · split at hd
              · rcases List.mem_append.mp hd with hd | hd
                · simp at hd; omega
                · exact hx 4 d hd
              · rcases List.mem_append.mp hd with hd | hd
                · simp at hd; omega
                · exact hx 8 d hd
theorem fold_ok {q : Nat} (hq : q < 0x110000) : ∀ (l : List Nat) (acc : Array Nat), (∀ c ∈ acc.toList, c < 0x110000) → (∀ c ∈ l, c < 0x110000) → ∀ d ∈ (l.foldl (fun out c => out ++ (reprChar q c).toArray) acc).toList, d < 0x110000
  | [], acc, h, _ => h
  | c :: r, acc, h, hl => by
    rw [List.foldl_cons]
    refine fold_ok hq r _ (fun d hd => ?_) fun d hd => hl d (List.mem_cons_of_mem _ hd)
    rw [Array.toList_append, List.mem_append] at hd
    rcases hd with hd | hd
    · exact h d hd
    · exact reprChar_ok hq (hl c (List.mem_cons_self ..)) d (by simpa using hd)
theorem quote_lt (x : Str) : reprQuote x < 0x110000 := by
  unfold reprQuote
  split <;> decide
theorem okS_repr {x : Str} (h : okS x) : okS (reprText x) := by
  rw [okS_iff] at *
  intro c hc
  have hq := quote_lt x
  unfold reprText at hc
  have hc : c ∈ ((x.cps.foldl (fun out c => out ++ (reprChar (reprQuote x) c).toArray) #[reprQuote x]).push (reprQuote x)).toList := hc
  rw [Array.toList_push, List.mem_append, ← Array.foldl_toList] at hc
  rcases hc with hc | hc
  · exact fold_ok hq _ _ (fun d hd => by simp at hd; omega) h c hc
  · rw [List.mem_singleton.mp hc]; exact hq
/-- small enough to be shown -/
structure Sm (w n : Nat) (d : PyData) : Prop where
  ok : okS d.shown
  sh : d.leavesShort 600 = true
  we : d.weight ≤ w
  de : d.depth ≤ n
theorem sm_str {x : Str} {w n : Nat} (h : okS x) (hl : x.length ≤ w) : Sm w n (.str x) := by
  refine ⟨by simp only [PyData.shown]; exact okS_repr h, ?_, hl, by simp [PyData.depth]⟩
  simp only [PyData.leavesShort, List.all_eq_true, decide_eq_true_eq]
  intro c hc
  have := okS_iff.mp h c hc
  have e : (0x110000 : Nat) ≤ 16 ^ 8 := by decide
  omega
theorem sm_int {i : Int} {n : Nat} (h : i.natAbs < 10 ^ 500) : Sm 2000 n (.int i) := by
  refine ⟨by simp only [PyData.shown]; exact okS_int i, ?_, ?_, by simp [PyData.depth]⟩
  · simp only [PyData.leavesShort, PyData.shown, decide_eq_true_eq]
    exact decide_eq_true (Nat.le_trans (TX.intText_len h) (show 501 ≤ 600 by decide))
  · simp only [PyData.weight]
    have := TX.log_lt h (by decide)
    split <;> omega
theorem sm_all {w n : Nat} : ∀ {ds : List PyData}, (∀ d ∈ ds, Sm w n d) → (∀ t ∈ PyData.shownAll ds, okS t) ∧ PyData.leavesShortAll 600 ds = true ∧ PyData.weightAll ds ≤ ds.length * (w + 1) ∧ PyData.depthAll ds ≤ n
  | [], _ => ⟨fun t h => by simp [PyData.shownAll] at h, by simp [PyData.leavesShortAll], by simp [PyData.weightAll], by simp [PyData.depthAll]⟩
  | d :: ds, h => by
    obtain ⟨a1, a2, a3, a4⟩ := h d (List.mem_cons_self ..)
    obtain ⟨b1, b2, b3, b4⟩ := sm_all (ds := ds) fun x hx => h x (List.mem_cons_of_mem _ hx)
    refine ⟨fun t ht => ?_, by simp [PyData.leavesShortAll, a2, b2], ?_, ?_⟩
    · simp only [PyData.shownAll, List.mem_cons] at ht
      rcases ht with rfl | ht
      · exact a1
      · exact b1 t ht
    · simp only [PyData.weightAll, List.length_cons, Nat.succ_mul]
      omega
    · simp only [PyData.depthAll]
      omega
theorem okS_joinS {y : Str} {ps : List Str} (hy : okS y) (h : ∀ p ∈ ps, okS p) : okS (Str.join y ps) := by
  rw [← TL.join_eq]
  exact okS_join hy h
theorem sm_tup {w n k : Nat} {ds : List PyData} (h : ∀ d ∈ ds, Sm w n d) (hk : ds.length ≤ k) : Sm (k * (w + 1)) (n + 1) (.tuple ds) := by
  obtain ⟨b1, b2, b3, b4⟩ := sm_all h
  refine ⟨?_, by simp only [PyData.leavesShort]; exact b2, ?_, ?_⟩
  · simp only [PyData.shown]
    unfold tupleText
    refine okS_app (okS_app (okS_of "(") (okS_joinS (okS_of ", ") b1)) ?_
    split
    · exact okS_of ",)"
    · exact okS_of ")"
  · simp only [PyData.weight]
    exact Nat.le_trans b3 (Nat.mul_le_mul_right _ hk)
  · simp only [PyData.depth]
    omega
theorem sm_kv {w n : Nat} : ∀ {ds : List (PyData × PyData)}, (∀ d ∈ ds, Sm w n d.1 ∧ Sm w n d.2) → (∀ t ∈ PyData.shownKv ds, okS t) ∧ PyData.leavesShortKv 600 ds = true ∧ PyData.weightKv ds ≤ ds.length * (2 * w + 2) ∧ PyData.depthKv ds ≤ n
  | [], _ => ⟨fun t h => by simp [PyData.shownKv] at h, by simp [PyData.leavesShortKv], by simp [PyData.weightKv], by simp [PyData.depthKv]⟩
  | (a, b) :: ds, h => by
    obtain ⟨⟨a1, a2, a3, a4⟩, ⟨c1, c2, c3, c4⟩⟩ := h (a, b) (List.mem_cons_self ..)
    obtain ⟨b1, b2, b3, b4⟩ := sm_kv (ds := ds) fun x hx => h x (List.mem_cons_of_mem _ hx)
    simp only at a1 a2 a3 a4 c1 c2 c3 c4
    refine ⟨fun t ht => ?_, by simp [PyData.leavesShortKv, a2, c2, b2], ?_, ?_⟩
    · simp only [PyData.shownKv, List.mem_cons] at ht
      rcases ht with rfl | ht
      · exact okS_app (okS_app a1 (okS_of ": ")) c1
      · exact b1 t ht
    · have e : (ds.length + 1) * (2 * w + 2) = ds.length * (2 * w + 2) + (2 * w + 2) := Nat.succ_mul _ _
      simp only [PyData.weightKv, List.length_cons]
      rw [e]
      omega
    · simp only [PyData.depthKv]
      omega
theorem sm_dict {w n k : Nat} {ds : List (PyData × PyData)} (h : ∀ d ∈ ds, Sm w n d.1 ∧ Sm w n d.2) (hk : ds.length ≤ k) : Sm (k * (2 * w + 2)) (n + 1) (.dict ds) := by
  obtain ⟨b1, b2, b3, b4⟩ := sm_kv h
  refine ⟨?_, by simp only [PyData.leavesShort]; exact b2, ?_, ?_⟩
  · simp only [PyData.shown]
    unfold dictText
    exact okS_app (okS_app (okS_of "{") (okS_joinS (okS_of ", ") b1)) (okS_of "}")
  · simp only [PyData.weight]
    exact Nat.le_trans b3 (Nat.mul_le_mul_right _ hk)
  · simp only [PyData.depth]
    omega
theorem repr_tup {xs : List Dat} {y : PyData} {w n : Nat} (h : pyR (.tup xs) = some y) (hs : Sm w n y) (hw : w ≤ 20000) (hn : n ≤ 100) : ∃ r, reprD [.tup xs] = some (.str r) ∧ PyData.strOk r = true := by
  refine ⟨y.shown, ?_, hs.ok⟩
  have hl := PyData.shown_le 600 (by decide) y hs.sh
  have h2 : (600 + 2) * y.weight ≤ 602 * 20000 := Nat.mul_le_mul_left _ (Nat.le_trans hs.we hw)
  show (shwD (.tup xs)).map Dat.str = _
  have e : shwD (.tup xs) = some y.shown := by
    simp only [shwD, h]
    rw [if_pos ⟨by rw [sizeE]; omega, Nat.le_trans hs.de hn⟩]
  rw [e]; rfl
theorem repr_int {i : Int} (h : i.natAbs < 10 ^ 500) : ∃ r, reprD [.int i] = some (.str r) ∧ PyData.strOk r = true := by
  refine ⟨toString i, ?_, okS_int i⟩
  show (shwD (.int i)).map Dat.str = _
  have e : shwD (.int i) = some (toString i : Str) := by
    simp only [shwD]
    rw [if_pos (TX.log_lt h (by decide))]
  rw [e]; rfl
theorem pyRs_map {α : Type} (f : α → Dat) (g : α → PyData) (h : ∀ a, pyR (f a) = some (g a)) : ∀ l : List α, pyRs (l.map f) = some (l.map g)
  | [] => by simp [pyRs]
  | a :: l => by
    rw [List.map_cons]
    simp only [pyRs, h a, pyRs_map f g h l, List.map_cons]
end DL
namespace M87
open PySem PySem.Spec PyProof.Rows L2 DL TX
theorem py_cols (xs : List Str) : pyR (colsD xs) = some (.tuple (xs.map PyData.str)) := by
  simp only [colsD, pyR, pyRs_map Dat.str PyData.str (fun a => by simp [pyR]) xs]
def stpY : Stp → PyData
  | .two w x => .tuple [.str w, .str x]
  | .pr l o => .tuple [.str (A "pair"), .tuple (l.map PyData.str), .tuple (o.map PyData.str)]
theorem py_stp (s : Stp) : pyR (stpD s) = some (stpY s) := by
  cases s with
  | two w x => simp [stpD, stpY, pyR, pyRs]
  | pr l o =>
    have h1 := py_cols l
    have h2 := py_cols o
    simp only [stpD, stpY, pyR, pyRs] at h1 h2 ⊢
    simp only [h1, h2]
theorem sm_cols {xs : List Str} (h : areCols xs = true) : Sm 72 1 (.tuple (xs.map PyData.str)) := sm_tup (w := 8) (n := 0) (k := 8) (fun d hd => by
  obtain ⟨x, hx, rfl⟩ := List.mem_map.mp hd
  exact sm_str (okS_name (cols_name h x hx)) (name_len (cols_name h x hx)).2) (by rw [List.length_map]; exact cols_len h)
theorem Sm.mono {w n w' n' : Nat} {d : PyData} (h : Sm w n d) (hw : w ≤ w') (hn : n ≤ n') : Sm w' n' d := ⟨h.ok, h.sh, Nat.le_trans h.we hw, Nat.le_trans h.de hn⟩
theorem sm_stp {s : Stp} (h : isForm s = true) : Sm 219 2 (stpY s) := by
  cases s with
  | two w x =>
    have hf := FitS.form h
    simp only [isForm, Bool.and_eq_true, Bool.or_eq_true, beq_iff_eq] at h
    have hw : w.length ≤ 8 := by
      rcases h.1 with e | e <;> subst e <;> decide +kernel
    refine (sm_tup (w := 72) (n := 1) (k := 3) (ds := [.str w, .str x]) (fun d hd => ?_) (by simp))
    simp only [List.mem_cons, List.not_mem_nil, or_false] at hd
    rcases hd with rfl | rfl
    · exact sm_str hf.1.ok (by omega)
    · exact sm_str hf.2.ok (by have := (name_len h.2).2; omega)
  | pr l o =>
    simp only [isForm, Bool.and_eq_true] at h
    refine (sm_tup (w := 72) (n := 1) (k := 3) (ds := [.str (A "pair"), _, _]) (fun d hd => ?_) (by simp))
    simp only [List.mem_cons, List.not_mem_nil, or_false] at hd
    rcases hd with rfl | rfl | rfl
    · exact sm_str (okS_of _) (by decide +kernel)
    · exact sm_cols h.1
    · exact sm_cols h.2
theorem repr_steps {ss : List Stp} (h : ss.all isForm = true) (hl : ss.length ≤ 4) : ∃ r, reprD [stpsD ss] = some (.str r) ∧ PyData.strOk r = true := by
  rw [List.all_eq_true] at h
  refine repr_tup (y := .tuple (ss.map stpY)) (w := 4 * 220) (n := 3) ?_ (sm_tup (w := 219) (n := 2) (k := 4) (fun d hd => ?_) (by rw [List.length_map]; exact hl)) (by decide) (by decide)
  · simp only [pyR, pyRs_map stpD stpY py_stp ss]
  · obtain ⟨s, hs, rfl⟩ := List.mem_map.mp hd
    exact sm_stp (h s hs)
theorem pyRs_ints : ∀ {is : List Int}, (∀ i ∈ is, i.natAbs < 10 ^ 500) → pyRs (is.map Dat.int) = some (is.map PyData.int)
  | [], _ => by simp [pyRs]
  | i :: r, h => by
    have h1 := log_lt (h i (List.mem_cons_self ..)) (by decide)
    have h2 := pyRs_ints (is := r) fun j hj => h j (List.mem_cons_of_mem _ hj)
    rw [List.map_cons]
    simp only [pyRs, pyR, if_pos h1, h2, List.map_cons]
theorem repr_ints {is : List Int} (h : ∀ i ∈ is, i.natAbs < 10 ^ 500) (hl : is.length ≤ 8) : ∃ r, reprD [intsT is] = some (.str r) ∧ PyData.strOk r = true := by
  refine repr_tup (y := .tuple (is.map PyData.int)) (w := 8 * 2001) (n := 1) ?_ (sm_tup (w := 2000) (n := 0) (k := 8) (fun d hd => ?_) (by rw [List.length_map]; exact hl)) (by decide) (by decide)
  · simp only [pyR, pyRs_ints h]
  · obtain ⟨i, hi, rfl⟩ := List.mem_map.mp hd
    exact sm_int (h i hi)
theorem py_kv : ∀ m : List (Str × Str), pyRk (m.map eKv) = some (m.map fun kv => (PyData.str kv.1, PyData.str kv.2))
  | [] => by simp [pyRk]
  | kv :: r => by
    rw [List.map_cons]
    simp only [eKv, pyRk, pyR]
    rw [py_kv r]
    rfl
theorem repr_wi {p : Str} {m : List (Str × Str)} (h : isWi p m = true) : ∃ r, reprD [papD (.wi p m)] = some (.str r) ∧ PyData.strOk r = true := by
  obtain ⟨w1, w2, _⟩ := wi_len h
  have hm : areMaks m = true := by
    simp only [isWi, Bool.and_eq_true] at h
    exact h.2
  have hf := fitM_of hm
  have hl := maks_len hm
  refine repr_tup (y := .tuple [.str (A "witness"), .str p, .dict (m.map fun kv => (PyData.str kv.1, PyData.str kv.2))]) (w := 3 * 145) (n := 2) ?_ (sm_tup (w := 144) (n := 1) (k := 3) (fun d hd => ?_) (by simp)) (by decide) (by decide)
  · have := py_kv m
    simp only [pyR, pyRs, this]
  · simp only [List.mem_cons, List.not_mem_nil, or_false] at hd
    rcases hd with rfl | rfl | rfl
    · exact sm_str (okS_of _) (by decide +kernel)
    · exact sm_str w2 (by omega)
    · refine sm_dict (w := 8) (n := 0) (k := 8) (fun d hd => ?_) (by rw [List.length_map]; exact hl)
      obtain ⟨kv, hkv, rfl⟩ := List.mem_map.mp hd
      obtain ⟨f1, f2⟩ := hf.f kv hkv
      simp only [areMaks, Bool.and_eq_true, List.all_eq_true] at hm
      obtain ⟨m1, m2, _⟩ := mak_small (hm.2 kv hkv)
      exact ⟨sm_str f1.ok (name_len (hm.1.1 kv hkv)).2, sm_str f2.ok (by omega)⟩
end M87

-- PE2
/-! PE2: steps and papers are right. -/
namespace M87
open PySem PySem.Spec PyProof.Rows L2 DL TX
variable (ad : Ad)
theorem stepsIn_len {t : Str} (h : Fit t) {ss : List Stp} (e : stepsIn t = some ss) : ss.length ≤ 502 := by
  have hf := (FitS.found h).2
  unfold stepsIn at e
  split at e
  · cases e; exact hf
  · cases e
theorem order_len {t : Str} (h : Fit t) {ss : List Stp} (e : orderIn t = some (.ch ss)) : ss.length ≤ 502 := by
  unfold orderIn at e
  split at e
  · cases es : stepsIn (Txt.partition t (A " ")).2.2 with
    | none => rw [es] at e; cases e
    | some ss' =>
      rw [es] at e
      cases e
      exact stepsIn_len h.part3 es
  · split at e <;> cases e
theorem wi_small {p : Str} {m : List (Str × Str)} (h : isWi p m = true) (h3 : ∀ k ∈ keysOf m, k.length ≤ 3) : (wiText p m).length ≤ 100 ∧ PyData.strOk (wiText p m) = true := by
  obtain ⟨w1, w2, _⟩ := wi_len h
  refine ⟨?_, okS_wiText h⟩
  have h' := h
  simp only [isWi, Bool.and_eq_true] at h'
  obtain ⟨n1, n2⟩ := asc_nodup_keys h'.2
  have hml := maks_len h'.2
  have l1 : (A " ").length = 1 := by decide +kernel
  have l2 : (A "witness").length = 7 := by decide +kernel
  have l3 : (A ": ").length = 2 := by decide +kernel
  have l4 : (A ", ").length = 2 := by decide +kernel
  have l5 : (A "-").length = 1 := by decide +kernel
  have ht : (told m).length ≤ 72 := by
    unfold told
    split
    · omega
    · have h1 := len_join (A ", ") ((sortS (keysOf m)).map (rowText m))
      have h2 := len_join_le (y := A ", ") (l := (sortS (keysOf m)).map (rowText m)) (n := 8) (B := 7) (by rw [List.length_map, sort_len, keysOf, List.length_map]; exact hml) fun x hx => by
        obtain ⟨k, hk, rfl⟩ := List.mem_map.mp hx
        obtain ⟨v, e, hm⟩ := look_mem (sort_mem.mp hk)
        have hv : maks.contains v = true := by
          have h3 := h'.2
          simp only [areMaks, Bool.and_eq_true, List.all_eq_true] at h3
          exact h3.2 _ hm
        obtain ⟨m1, m2, m3, m4, m5⟩ := mak_small hv
        have hk3 := h3 k (sort_mem.mp hk)
        unfold rowText
        rw [e, len_app, len_app, l1]
        show k.length + 1 + (makText v).length ≤ 7
        omega
      rw [l4] at h1 h2
      omega
  unfold wiText
  rw [len_app, len_app, len_app, len_app, l1, l2, l3]
  omega
theorem ch_small {ss : List Stp} (h : ss.all isForm = true) (hl : ss.length ≤ 4) (h6 : ∀ s ∈ ss, (stepText s).length ≤ 60) : (stepsText ss).length ≤ 260 ∧ PyData.strOk (stepsText ss) = true := by
  refine ⟨?_, okS_stepsText h⟩
  have l1 : (A " ; ").length = 3 := by decide +kernel
  unfold stepsText
  split
  · decide +kernel
  · have h1 := len_join (A " ; ") (ss.map stepText)
    have h2 := len_join_le (y := A " ; ") (l := ss.map stepText) (n := 4) (B := 60) (by rw [List.length_map]; exact hl) fun x hx => by
      obtain ⟨s, hs, rfl⟩ := List.mem_map.mp hx
      exact h6 s hs
    rw [l1] at h1 h2
    omega
theorem head_w {b : Str} (h : (TL.tl b).head? ≠ some 119) : (Txt.partition b (A " ")).1 ≠ A "witness" := by
  intro e
  have hs := congrArg TL.tl (StrLaws.partition_sum b (A " "))
  rw [TL.tl_append, TL.tl_append, e, show TL.tl (A "witness") = 119 :: TL.tl (A "itness") by decide +kernel] at hs
  apply h
  rw [← hs]
  rfl
/-- what reading gives, as data in a list -/
def readD (o : Option Pap) : Dat := match o with
  | some q => .lst [papD q]
  | none => .lst []
def readS (o : Option (List Stp)) : Dat := match o with
  | some q => .lst [stpsD q]
  | none => .lst []
theorem read_order {t : Str} (h : Fit t) (hw : (Txt.partition t (A " ")).1 = A "witness" → t.length ≤ 120) {ρ : En} {μ : Mu} {i : Nat} (hi : ρ.sl[i]? = some (some (.d (.str t)))) :
    fRead "ParseError" (fCall 1 (F_parse_order ad) (fCons (fVar i) fNil)) ρ μ = .ok (.d (readD (orderIn t))) μ := by
  have hq := q_parse_order ad h hw μ
  cases e : orderIn t with
  | none => rw [e] at hq; simp [hi, hq, readD]
  | some q => rw [e] at hq; simp [hi, hq, readD]
theorem read_steps {t : Str} (h : Fit t) {ρ : En} {μ : Mu} {i : Nat} (hi : ρ.sl[i]? = some (some (.d (.str t)))) :
    fRead "ParseError" (fCall 1 (F_parse_steps ad) (fCons (fVar i) fNil)) ρ μ = .ok (.d (readS (stepsIn t))) μ := by
  have hq := q_parse_steps ad h μ
  cases e : stepsIn t with
  | none => rw [e] at hq; simp [hi, hq, readS]
  | some q => rw [e] at hq; simp [hi, hq, readS]
theorem in_two (b x y : Str) : oIn false (.str b) (.tup [.str x, .str y]) = some (.bl (decide (b = x) || decide (b = y))) := by
  have e := in_strs false b [x, y]
  rw [Bool.false_xor] at e
  have e2 : [x, y].contains b = (decide (b = x) || decide (b = y)) := by
    rw [List.contains_cons, List.contains_cons, List.contains_nil, Bool.or_false]
    rfl
  rw [e2] at e
  exact e
end M87

-- PE3
/-! PE3: steps and papers are right: the def. The parts are printed by mkpe3.py. -/
namespace M87
open PySem PySem.Spec PyProof.Rows L2 DL TX
variable (ad : Ad)
def sr0 (ad : Ad) : SM := (sSet (fCb tupleD (fCons (fLc (iRg1 (fCall 2 (F__law_pull ad) (fCons (fVar 0) (fCons (fC (.int 5)) fNil)))) (gN 7) fYes (fCall 1 (F__law_step ad) (fCons (fVar 0) fNil)) [7]) fNil)) (gN 1))
def sr1 (ad : Ad) : SM := (sPar 2 3 (fCons (fCall 1 (F__law_steps_text ad) (fCons (fVar 1) fNil)) (fCons (fCall 1 (F__law_witness ad) (fCons (fVar 0) fNil)) fNil)))
def sr2 (ad : Ad) : SM := (sIf (bOr (fB (fBin (oEq true) (fCall 1 (F_format_steps ad) (fCons (fVar 1) fNil)) (fVar 2))) (fB (fBin (oEq true) (fCb reprD (fCons (fCall 1 (F_parse_steps ad) (fCons (fVar 2) fNil)) fNil)) (fCb reprD (fCons (fVar 1) fNil))))) (sRet (fC (.bl false))) sNx)
def sr3 (ad : Ad) : SM := (sIf (bOr (fB (fBin (oEq true) (fCall 1 (F_format_order ad) (fCons (fTup (fCons (fC (.str (Str.ofString "chain"))) (fCons (fVar 1) fNil))) fNil)) (fBin oAdd (fC (.str (Str.ofString "chain "))) (fVar 2)))) (fB (fBin (oEq true) (fCall 1 (F_parse_order ad) (fCons (fBin oAdd (fC (.str (Str.ofString "chain "))) (fVar 2)) fNil)) (fTup (fCons (fC (.str (Str.ofString "chain"))) (fCons (fVar 1) fNil)))))) (sRet (fC (.bl false))) sNx)
def sr4 (ad : Ad) : SM := (sPar 4 5 (fCons (fCall 1 (F__law_witness_text ad) (fCons (fVar 3) fNil)) (fCons (fCb reprD (fCons (fVar 3) fNil)) fNil)))
def sr5 (ad : Ad) : SM := (sSet (fCall 1 (F_parse_order ad) (fCons (fVar 4) fNil)) (gN 6))
def sr6 (ad : Ad) : SM := (sIf (bOr (fB (fBin (oEq true) (fCall 1 (F_format_order ad) (fCons (fVar 3) fNil)) (fVar 4))) (bOr (fB (fBin oNeT (fVar 6) (fVar 3))) (bOr (fB (fBin (oEq true) (fCb listD (fCons (fBin oIx (fVar 6) (fC (.int 2))) fNil)) (fCb sortedD (fCons (fBin oIx (fVar 3) (fC (.int 2))) fNil)))) (fB (fBin (oEq true) (fCb reprD (fCons (fVar 3) fNil)) (fVar 5)))))) (sRet (fC (.bl false))) sNx)
def sb0 (ad : Ad) : SM := (sSet (fCall 2 (F__law_spoilt ad) (fCons (fVar 0) (fCons (fCall 2 (F__law_pick ad) (fCons (fVar 0) (fCons (fLst (fCons (fBin oAdd (fC (.str (Str.ofString "chain "))) (fVar 2)) (fCons (fVar 4) fNil))) fNil))) fNil))) (gN 8))
def sb1 (ad : Ad) : SM := (sSet (fRead "ParseError" (fCall 1 (F_parse_order ad) (fCons (fVar 8) fNil))) (gN 9))
def sb2 (ad : Ad) : SM := (sIf (bOr (bAnd (fB (fBin (oEq false) (fVar 9) (fLst fNil))) (fB (fBin (oIn false) (fVar 8) (fTup (fCons (fBin oAdd (fC (.str (Str.ofString "chain "))) (fVar 2)) (fCons (fVar 4) fNil)))))) (bAnd (fB (fBin (oEq true) (fVar 9) (fLst fNil))) (fB (fBin (oEq true) (fCall 1 (F_format_order ad) (fCons (fBin oIx (fVar 9) (fC (.int 0))) fNil)) (fVar 8))))) (sRet (fC (.bl false))) sNx)
def sb3 (ad : Ad) : SM := (sSet (fCall 2 (F__law_spoilt ad) (fCons (fVar 0) (fCons (fVar 2) fNil))) (gN 8))
def sb4 (ad : Ad) : SM := (sSet (fRead "ParseError" (fCall 1 (F_parse_steps ad) (fCons (fVar 8) fNil))) (gN 9))
def sb5 (ad : Ad) : SM := (sIf (bOr (bAnd (fB (fBin (oEq false) (fVar 9) (fLst fNil))) (fB (fBin (oEq false) (fVar 8) (fVar 2)))) (bAnd (fB (fBin (oEq true) (fVar 9) (fLst fNil))) (fB (fBin (oEq true) (fCall 1 (F_format_steps ad) (fCons (fBin oIx (fVar 9) (fC (.int 0))) fNil)) (fVar 8))))) (sRet (fC (.bl false))) sNx)
def sb (ad : Ad) : SM := (sSeq (sb0 ad) (sSeq (sb1 ad) (sSeq (sb2 ad) (sSeq (sb3 ad) (sSeq (sb4 ad) (sb5 ad))))))
def sr7 (ad : Ad) : SM := (sFor (iRg1 (fC (.int 6))) (gN 7) (sb ad))
def sr8 (ad : Ad) : SM := (sRet (fC (.bl true)))
theorem sr_eq : m__law_steps_right ad = (sSeq (sr0 ad) (sSeq (sr1 ad) (sSeq (sr2 ad) (sSeq (sr3 ad) (sSeq (sr4 ad) (sSeq (sr5 ad) (sSeq (sr6 ad) (sSeq (sr7 ad) (sr8 ad))))))))) := rfl
def srE (k m : Nat) (a1 a2 a3 a4 a5 a6 a7 a8 a9 : Option SV) : En := ⟨[some (.r k), a1, a2, a3, a4, a5, a6, a7, a8, a9], m⟩
theorem sr0_ok {k N : Nat} {μ : Mu} (hk : k < μ.length) {d : List Dat} (h : DiceOk N d) (hN : N + 3000 ≤ 10 ^ 20) (m : Nat) :
    ∃ ss d', sr0 ad (srE k m none none none none none none none none none) (μ.set k (.lst d)) = .nx (srE k m (some (.d (stpsD ss))) none none none none none none none none) (μ.set k (.lst d')) ∧ ss.all isForm = true ∧ ss.length ≤ 4 ∧ (∀ s ∈ ss, (stepText s).length ≤ 60) ∧ DiceOk (N + 250) d' := by
  obtain ⟨r, d1, e1, r0, r1, hd1⟩ := d_pull ad hk h (by omega) (t := 5) (by decide) (by decide)
  obtain ⟨a, rfl⟩ := Int.eq_ofNat_of_zero_le r0
  obtain ⟨M, hM⟩ : ∃ M, μ.set k (.lst d1) = M := ⟨_, rfl⟩
  have hm : M.length = μ.length := by rw [← hM, List.length_set]
  have main := lc_all (i := 7) (te := fCall 1 (F__law_step ad) (fCons (fVar 0) fNil)) (sl := [some (.r k), none, none, none, none, none, none, none, none, none]) (n := M.length)
    (fun j μ' => ∃ d', μ' = μ.set k (.lst d') ∧ DiceOk (N + 1 + 60 * j) d') (fun y => ∃ s, y = stpD s ∧ isForm s = true ∧ (stepText s).length ≤ 60) (rngD 0 a) 0 M (by
      rintro j x hx' μ1 ⟨d1, rfl, hd1⟩
      obtain ⟨rfl, hj⟩ := rng_get hx'
      rw [Nat.zero_add] at hd1 ⊢
      obtain ⟨s, d2, e2, hs, hsl, hd2⟩ := d_step ad hk hd1 (by omega)
      exact ⟨stpD s, μ.set k (.lst d2), by simp [e2], by rw [hm]; exact set_take _ _ _, ⟨s, rfl, hs, hsl⟩, d2, rfl, hd2.mono (by omega)⟩) ⟨d1, hM.symm, hd1⟩
  obtain ⟨ys, μ', e, hl, hs, d', rfl, hd'⟩ := main
  rw [rng_len, Nat.zero_add] at hd'
  rw [rng_len] at hl
  obtain ⟨ss, rfl, hf, h6⟩ : ∃ ss : List Stp, ys = ss.map stpD ∧ (∀ s ∈ ss, isForm s = true) ∧ ∀ s ∈ ss, (stepText s).length ≤ 60 := by
    clear e hl
    induction ys with
    | nil => exact ⟨[], rfl, fun i hi => (by cases hi), fun i hi => (by cases hi)⟩
    | cons y ys ih =>
      obtain ⟨is, e1, h1, h2⟩ := ih fun z hz => hs z (List.mem_cons_of_mem _ hz)
      obtain ⟨i, e2, h3, h4⟩ := hs y (List.mem_cons_self ..)
      refine ⟨i :: is, by rw [e1, e2]; rfl, fun j hj => ?_, fun j hj => ?_⟩
      · rcases List.mem_cons.mp hj with rfl | hj
        · exact h3
        · exact h1 j hj
      · rcases List.mem_cons.mp hj with rfl | hj
        · exact h4
        · exact h2 j hj
  rw [List.length_map] at hl
  have hrg : iRg1 (fCall 2 (F__law_pull ad) (fCons (fVar 0) (fCons (fC (.int 5)) fNil))) (srE k m none none none none none none none none none) (μ.set k (.lst d)) = .ok (rngD 0 a) M := rg_nat (by rw [← hM]; simp [srE, e1]) (by omega)
  refine ⟨ss, d', ?_, List.all_eq_true.mpr hf, by omega, h6, hd'.mono (by omega)⟩
  unfold sr0
  exact (sset_ok (x := .d (stpsD ss)) (cb_ok (x := .lst (ss.map stpD)) (lc_ok hrg (by rw [rng_len]; omega) e) rfl)).trans rfl
theorem sr1_ok {k N : Nat} {μ : Mu} (hk : k < μ.length) {d : List Dat} (h : DiceOk N d) (hN : N + 2000 ≤ 10 ^ 20) (m : Nat) {ss : List Stp} (hf : ss.all isForm = true) (hl : ss.length ≤ 4) :
    ∃ p mk d', sr1 ad (srE k m (some (.d (stpsD ss))) none none none none none none none none) (μ.set k (.lst d)) = .nx (srE k m (some (.d (stpsD ss))) (some (.d (.str (stepsText ss)))) (some (.d (papD (.wi p mk)))) none none none none none none) (μ.set k (.lst d')) ∧ isWi p mk = true ∧ (∀ k ∈ keysOf mk, k.length ≤ 3) ∧ (keysOf mk).Nodup ∧ DiceOk (N + 80) d' := by
  obtain ⟨p, mk, d2, e2, hw, h3, hnd, hd2⟩ := d_witness ad hk h (by omega)
  have et := l_steps_text ad hf (by omega) (μ.set k (.lst d))
  refine ⟨p, mk, d2, ?_, hw, h3, hnd, hd2⟩
  unfold sr1
  refine (spar_ok (x := .d (.str (stepsText ss))) (y := .d (papD (.wi p mk))) (μ1 := μ.set k (.lst d2)) ?_).trans rfl
  simp [srE, et, e2]
theorem fit_steps {ss : List Stp} (h : ss.all isForm = true) (hl : ss.length ≤ 4) (h6 : ∀ s ∈ ss, (stepText s).length ≤ 60) : Fit (stepsText ss) := by
  obtain ⟨a, b⟩ := ch_small h hl h6
  exact ⟨b, by omega⟩
theorem fit_chain {ss : List Stp} (h : ss.all isForm = true) (hl : ss.length ≤ 4) (h6 : ∀ s ∈ ss, (stepText s).length ≤ 60) : Fit (papText (.ch ss)) ∧ (papText (.ch ss)).length ≤ 266 := by
  obtain ⟨a, b⟩ := ch_small h hl h6
  have l1 : (A " ").length = 1 := by decide +kernel
  have l2 : (A "chain").length = 5 := by decide +kernel
  have e : (papText (.ch ss)).length ≤ 266 := by
    show (A "chain" ++ A " " ++ stepsText ss).length ≤ 266
    rw [len_app, len_app, l1, l2]
    omega
  exact ⟨⟨okS_app (okS_app (okS_of _) (okS_of _)) b, by omega⟩, e⟩
theorem add_chain {ss : List Stp} (h : Fit (stepsText ss)) : oAdd (.str (Str.ofString "chain ")) (.str (stepsText ss)) = some (.str (papText (.ch ss))) := by
  have e : A "chain " = A "chain" ++ A " " := by decide +kernel
  have l2 : (A "chain ").length = 6 := by decide +kernel
  have hl := h.len
  show oAdd (.str (A "chain ")) _ = some (.str (A "chain" ++ A " " ++ stepsText ss))
  rw [← e]
  exact add_str (by omega)
theorem chain_hd (ss : List Stp) : 119 ∉ (TL.tl (papText (.ch ss))).take 2 := by
  have e : TL.tl (papText (.ch ss)) = 99 :: 104 :: (TL.tl (A "ain") ++ (TL.tl (A " ") ++ TL.tl (stepsText ss))) := by
    show TL.tl (A "chain" ++ A " " ++ stepsText ss) = _
    rw [TL.tl_append, TL.tl_append, List.append_assoc, show TL.tl (A "chain") = 99 :: 104 :: TL.tl (A "ain") by decide +kernel]
    rfl
  rw [e]
  simp
theorem sr2_ok {k m : Nat} (M : Mu) {ss : List Stp} (hf : ss.all isForm = true) (hl : ss.length ≤ 4) (h6 : ∀ s ∈ ss, (stepText s).length ≤ 60) (a3 : Option SV) :
    sr2 ad (srE k m (some (.d (stpsD ss))) (some (.d (.str (stepsText ss)))) a3 none none none none none none) M = .nx (srE k m (some (.d (stpsD ss))) (some (.d (.str (stepsText ss)))) a3 none none none none none none) M := by
  have ft := fit_steps hf hl h6
  have e1 := q_format_steps ad hf (by omega) M
  have e2 := q_parse_steps ad ft M
  rw [steps_round hf] at e2
  obtain ⟨r, er, hr⟩ := repr_steps hf hl
  unfold sr2
  refine (sif_f (μ1 := M) ?_).trans rfl
  simp [srE, e1, e2, eqStr, ft.ok, er, hr]
theorem ok_ch {ss : List Stp} (hf : ss.all isForm = true) : OkD 4 (papD (.ch ss)) := by
  rw [List.all_eq_true] at hf
  refine okD_tup (n := 3) fun d hd => ?_
  simp only [List.mem_cons, List.not_mem_nil, or_false] at hd
  rcases hd with rfl | rfl
  · exact okD_str (okS_of _)
  · exact okStps fun s hs => FitS.form (hf s hs)
theorem sr3_ok {k m : Nat} (M : Mu) {ss : List Stp} (hf : ss.all isForm = true) (hl : ss.length ≤ 4) (h6 : ∀ s ∈ ss, (stepText s).length ≤ 60) (a3 : Option SV) :
    sr3 ad (srE k m (some (.d (stpsD ss))) (some (.d (.str (stepsText ss)))) a3 none none none none none none) M = .nx (srE k m (some (.d (stpsD ss))) (some (.d (.str (stepsText ss)))) a3 none none none none none none) M := by
  have ft := fit_steps hf hl h6
  obtain ⟨fc, fcl⟩ := fit_chain hf hl h6
  have e1 := q_format_ch ad hf (by omega) M
  have e2 := q_parse_order ad fc (fun z => absurd z (head_w (by
    have := chain_hd ss
    cases e : TL.tl (papText (.ch ss)) with
    | nil => simp
    | cons c r =>
      rw [e] at this
      simp at this ⊢
      exact fun z => this.1 z.symm))) M
  have er : orderIn (papText (.ch ss)) = some (.ch ss) := chain_round hf
  rw [er] at e2
  have ha := add_chain ft
  have eq := eq_refl true (ok_ch hf) (by decide)
  simp only [papD] at e1 e2 eq
  unfold sr3
  refine (sif_f (μ1 := M) ?_).trans rfl
  simp [srE, e1, e2, eqStr, fc.ok, ha, eq, sizeE]
theorem fit_wi {p : Str} {mk : List (Str × Str)} (h : isWi p mk = true) (h3 : ∀ k ∈ keysOf mk, k.length ≤ 3) : Fit (wiText p mk) := by
  obtain ⟨a, b⟩ := wi_small h h3
  exact ⟨b, by omega⟩
theorem sr4_ok {k m : Nat} (M : Mu) {p : Str} {mk : List (Str × Str)} (h : isWi p mk = true) {r : Str} (hr : reprD [papD (.wi p mk)] = some (.str r)) (a1 a2 : Option SV) :
    sr4 ad (srE k m a1 a2 (some (.d (papD (.wi p mk)))) none none none none none none) M = .nx (srE k m a1 a2 (some (.d (papD (.wi p mk)))) (some (.d (.str (wiText p mk)))) (some (.d (.str r))) none none none none) M := by
  have e1 := l_witness_text ad h M
  unfold sr4
  refine (spar_ok (x := .d (.str (wiText p mk))) (y := .d (.str r)) (μ1 := M) ?_).trans rfl
  simp [srE, e1, hr]
theorem sr5_ok {k m : Nat} (M : Mu) {p : Str} {mk : List (Str × Str)} (h : isWi p mk = true) (h3 : ∀ k ∈ keysOf mk, k.length ≤ 3) (a1 a2 a3 a5 : Option SV) :
    sr5 ad (srE k m a1 a2 a3 (some (.d (.str (wiText p mk)))) a5 none none none none) M = .nx (srE k m a1 a2 a3 (some (.d (.str (wiText p mk)))) a5 (some (.d (papD (.wi p (tab mk))))) none none none) M := by
  have hl := (wi_small h h3).1
  have e2 := q_parse_order ad (fit_wi h h3) (fun _ => by omega) M
  rw [witness_round h] at e2
  unfold sr5
  refine (sset_ok (x := .d (papD (.wi p (tab mk)))) (μ1 := M) ?_).trans rfl
  simp [srE, e2]
theorem kv_same {mk : List (Str × Str)} (hnd : (keysOf mk).Nodup) : kvEq ((tab mk).map eKv) (mk.map eKv) = true := by
  unfold kvEq
  rw [Bool.and_eq_true]
  refine ⟨decide_eq_true ?_, ?_⟩
  · rw [List.length_map, List.length_map]
    have := congrArg List.length (keys_tab mk)
    rw [keysOf, List.length_map, sort_len, keysOf, List.length_map] at this
    exact this
  · rw [List.all_eq_true]
    intro q hq
    obtain ⟨kv, hkv, rfl⟩ := List.mem_map.mp hq
    obtain ⟨k, hk, rfl⟩ := List.mem_map.mp hkv
    obtain ⟨v, e, _⟩ := look_mem (sort_mem.mp hk)
    show (match valD (mk.map eKv) (.inr k) with | some z => flEq (.str ((look mk k).getD (A ""))) z | none => false) = true
    rw [val_map, e]
    show (v == v) = true
    exact beq_self_eq_true v
theorem sr6_ok {k m : Nat} (M : Mu) {p : Str} {mk : List (Str × Str)} (h : isWi p mk = true) (h3 : ∀ k ∈ keysOf mk, k.length ≤ 3) (hnd : (keysOf mk).Nodup) {r : Str} (hr : reprD [papD (.wi p mk)] = some (.str r)) (hro : PyData.strOk r = true) (a1 a2 : Option SV) :
    sr6 ad (srE k m a1 a2 (some (.d (papD (.wi p mk)))) (some (.d (.str (wiText p mk)))) (some (.d (.str r))) (some (.d (papD (.wi p (tab mk))))) none none none) M = .nx (srE k m a1 a2 (some (.d (papD (.wi p mk)))) (some (.d (.str (wiText p mk)))) (some (.d (.str r))) (some (.d (papD (.wi p (tab mk))))) none none none) M := by
  have ft := fit_wi h h3
  have hm : areMaks mk = true := by
    simp only [isWi, Bool.and_eq_true] at h
    exact h.2
  have hml := maks_len hm
  have e1 := q_format_wi ad h M
  have e2 : oNeT (papD (.wi p (tab mk))) (papD (.wi p mk)) = some (.bl false) := by
    show (if itsEq [.str (A "witness"), .str p, mapD (tab mk)] [.str (A "witness"), .str p, mapD mk] = true then some (Dat.bl false) else none) = _
    rw [if_pos]
    show ((A "witness" == A "witness") && ((p == p) && (kvEq ((tab mk).map eKv) (mk.map eKv) && true))) = true
    rw [kv_same hnd]
    simp
  have e3 : listD [mapD (tab mk)] = some (.lst ((sortS (keysOf mk)).map Dat.str)) := by
    show some (Dat.lst (keyDs ((tab mk).map eKv))) = _
    rw [keyDs_map, keys_tab]
  have e4 := sorted_keys (m := mk) (by omega)
  obtain ⟨n1, n2⟩ := asc_nodup_keys hm
  rw [List.all_eq_true] at n1
  have e5 : oEq true (.lst ((sortS (keysOf mk)).map Dat.str)) (.lst ((sortS (keysOf mk)).map Dat.str)) = some (.bl false) := eq_refl true (n := 1) (okD_lst (n := 0) fun d hd => by
    obtain ⟨x, hx, rfl⟩ := List.mem_map.mp hd
    exact okD_str (okS_name (n1 x hx))) (by decide)
  simp only [papD] at e1 e2 hr ⊢
  unfold sr6
  refine (sif_f (μ1 := M) ?_).trans rfl
  simp only [srE]
  simp [e1, e2, e3, e4, e5, eqStr, ft.ok, hr, hro, -list_dct]
end M87

-- PE4
/-! PE4: spoilt steps and papers; the whole. -/
namespace M87
open PySem PySem.Spec PyProof.Rows L2 DL TX
variable (ad : Ad)
/-- the state in the loop -/
def lpE (k m : Nat) (ss : List Stp) (p : Str) (mk : List (Str × Str)) (r : Str) (a7 a8 a9 : Option SV) : En :=
  srE k m (some (.d (stpsD ss))) (some (.d (.str (stepsText ss)))) (some (.d (papD (.wi p mk)))) (some (.d (.str (wiText p mk)))) (some (.d (.str r))) (some (.d (papD (.wi p (tab mk))))) a7 a8 a9
section
variable {k N : Nat} {μ : Mu} {d : List Dat} {ss : List Stp} {p : Str} {mk : List (Str × Str)} {r : Str}
theorem sb0_ok (hk : k < μ.length) (h : DiceOk N d) (hN : N + 2000 ≤ 10 ^ 20) (m : Nat) (hf : ss.all isForm = true) (hl : ss.length ≤ 4) (h6 : ∀ s ∈ ss, (stepText s).length ≤ 60) (hw : isWi p mk = true) (h3 : ∀ k ∈ keysOf mk, k.length ≤ 3) (a7 a8 a9 : Option SV) :
    ∃ b d', sb0 ad (lpE k m ss p mk r a7 a8 a9) (μ.set k (.lst d)) = .nx (lpE k m ss p mk r a7 (some (.d (.str b))) a9) (μ.set k (.lst d')) ∧ Fit b ∧ ((Txt.partition b (A " ")).1 = A "witness" → b.length ≤ 120) ∧ DiceOk (N + 5) d' := by
  obtain ⟨fc, fcl⟩ := fit_chain hf hl h6
  have fw := fit_wi hw h3
  have ft := fit_steps hf hl h6
  have fwl := (wi_small hw h3).1
  obtain ⟨x, d2, e2, hx, hd2⟩ := d_pick ad hk h (by omega) (xs := [.str (papText (.ch ss)), .str (wiText p mk)]) (by simp) (by simp)
  have ha := add_chain ft
  simp only [List.mem_cons, List.not_mem_nil, or_false] at hx
  obtain ⟨t, rfl, ht, htl, hth⟩ : ∃ t : Str, x = .str t ∧ Fit t ∧ t.length ≤ 400 ∧ (t.length ≤ 100 ∨ 119 ∉ (TL.tl t).take 2) := by
    rcases hx with rfl | rfl
    · exact ⟨_, rfl, fc, by omega, .inr (chain_hd ss)⟩
    · exact ⟨_, rfl, fw, by omega, .inl fwl⟩
  obtain ⟨b, d3, e3, hb, hd3⟩ := d_spoilt ad hk hd2 (by omega) (t := t) (by omega)
  refine ⟨b, d3, ?_, ⟨hb.ok ht.ok, by have := hb.len; omega⟩, fun z => ?_, hd3.mono (by omega)⟩
  · unfold sb0
    refine (sset_ok (x := .d (.str b)) (μ1 := μ.set k (.lst d3)) ?_).trans rfl
    simp [lpE, srE, ha, e2, e3, sizeE]
  · rcases hth with h1 | h1
    · have := hb.len
      omega
    · exact absurd z (head_w (hb.hd h1))
theorem sb1_ok (m : Nat) (M : Mu) {b : Str} (hb : Fit b) (hbw : (Txt.partition b (A " ")).1 = A "witness" → b.length ≤ 120) (a7 a9 : Option SV) :
    sb1 ad (lpE k m ss p mk r a7 (some (.d (.str b))) a9) M = .nx (lpE k m ss p mk r a7 (some (.d (.str b))) (some (.d (readD (orderIn b))))) M := by
  unfold sb1
  exact (sset_ok (x := .d (readD (orderIn b))) (μ1 := M) (read_order ad hb hbw rfl)).trans rfl
theorem sb2_ok (m : Nat) (M : Mu) (hf : ss.all isForm = true) (hl : ss.length ≤ 4) (h6 : ∀ s ∈ ss, (stepText s).length ≤ 60) (hw : isWi p mk = true) (h3 : ∀ k ∈ keysOf mk, k.length ≤ 3) {b : Str} (hb : Fit b) (a7 : Option SV) :
    sb2 ad (lpE k m ss p mk r a7 (some (.d (.str b))) (some (.d (readD (orderIn b))))) M = .nx (lpE k m ss p mk r a7 (some (.d (.str b))) (some (.d (readD (orderIn b))))) M := by
  have ft := fit_steps hf hl h6
  have ha := add_chain ft
  have hin := in_two b (papText (.ch ss)) (wiText p mk)
  unfold sb2
  refine (sif_f (μ1 := M) ?_).trans rfl
  cases e : orderIn b with
  | none =>
    have n1 : ¬ (b = papText (.ch ss)) := fun z => by
      rw [z, show orderIn (papText (.ch ss)) = some (.ch ss) from chain_round hf] at e
      cases e
    have n2 : ¬ (b = wiText p mk) := fun z => by
      rw [z, witness_round hw] at e
      cases e
    rw [decide_eq_false n1, decide_eq_false n2] at hin
    have e1 : oEq false (readD none) (.lst []) = some (.bl true) := eq_nilL false []
    have e2 : oEq true (readD none) (.lst []) = some (.bl false) := eq_nilL true []
    simp [lpE, srE, ha, hin, e1, e2, sizeE]
  | some q =>
    obtain ⟨hq, hqt⟩ := orderIn_some e
    have e1 : oEq false (readD (some q)) (.lst []) = some (.bl false) := eq_nilL false [_]
    have e2 : oEq true (readD (some q)) (.lst []) = some (.bl true) := eq_nilL true [_]
    have e3 : oIx (readD (some q)) (.int 0) = some (papD q) := ix_l0 _ _
    have e4 : F_format_order ad [.d (papD q)] M = .ok (.d (.str b)) M := by
      cases q with
      | ch qs =>
        rw [q_format_ch ad hq (order_len hb e) M, hqt]
      | wi p' m' =>
        rw [q_format_wi ad hq M]
        have : wiText p' m' = b := hqt
        rw [this]
    simp [lpE, srE, e1, e2, e3, e4, sizeE, eqStr, hb.ok]
theorem sb3_ok (hk : k < μ.length) (h : DiceOk N d) (hN : N + 2000 ≤ 10 ^ 20) (m : Nat) (hf : ss.all isForm = true) (hl : ss.length ≤ 4) (h6 : ∀ s ∈ ss, (stepText s).length ≤ 60) (a7 a8 a9 : Option SV) :
    ∃ b d', sb3 ad (lpE k m ss p mk r a7 a8 a9) (μ.set k (.lst d)) = .nx (lpE k m ss p mk r a7 (some (.d (.str b))) a9) (μ.set k (.lst d')) ∧ Fit b ∧ DiceOk (N + 5) d' := by
  have ft := fit_steps hf hl h6
  have htl := (ch_small hf hl h6).1
  obtain ⟨b, d3, e3, hb, hd3⟩ := d_spoilt ad hk h (by omega) (t := stepsText ss) (by omega)
  refine ⟨b, d3, ?_, ⟨hb.ok ft.ok, by have := hb.len; omega⟩, hd3.mono (by omega)⟩
  unfold sb3
  refine (sset_ok (x := .d (.str b)) (μ1 := μ.set k (.lst d3)) ?_).trans rfl
  simp [lpE, srE, e3]
theorem sb4_ok (m : Nat) (M : Mu) {b : Str} (hb : Fit b) (a7 a9 : Option SV) :
    sb4 ad (lpE k m ss p mk r a7 (some (.d (.str b))) a9) M = .nx (lpE k m ss p mk r a7 (some (.d (.str b))) (some (.d (readS (stepsIn b))))) M := by
  unfold sb4
  exact (sset_ok (x := .d (readS (stepsIn b))) (μ1 := M) (read_steps ad hb rfl)).trans rfl
theorem sb5_ok (m : Nat) (M : Mu) (hf : ss.all isForm = true) (hl : ss.length ≤ 4) (h6 : ∀ s ∈ ss, (stepText s).length ≤ 60) {b : Str} (hb : Fit b) (a7 : Option SV) :
    sb5 ad (lpE k m ss p mk r a7 (some (.d (.str b))) (some (.d (readS (stepsIn b))))) M = .nx (lpE k m ss p mk r a7 (some (.d (.str b))) (some (.d (readS (stepsIn b))))) M := by
  have ft := fit_steps hf hl h6
  unfold sb5
  refine (sif_f (μ1 := M) ?_).trans rfl
  cases e : stepsIn b with
  | none =>
    have n1 : ¬ (b = stepsText ss) := fun z => by
      rw [z, steps_round hf] at e
      cases e
    have e1 : oEq false (readS none) (.lst []) = some (.bl true) := eq_nilL false []
    have e2 : oEq true (readS none) (.lst []) = some (.bl false) := eq_nilL true []
    simp [lpE, srE, e1, e2, sizeE, eqStr, hb.ok, ft.ok, n1]
  | some q =>
    obtain ⟨hq, hqt⟩ := stepsIn_some e
    have e1 : oEq false (readS (some q)) (.lst []) = some (.bl false) := eq_nilL false [_]
    have e2 : oEq true (readS (some q)) (.lst []) = some (.bl true) := eq_nilL true [_]
    have e3 : oIx (readS (some q)) (.int 0) = some (stpsD q) := ix_l0 _ _
    have e4 : F_format_steps ad [.d (stpsD q)] M = .ok (.d (.str b)) M := by
      rw [q_format_steps ad hq (stepsIn_len hb e) M, hqt]
    simp [lpE, srE, e1, e2, e3, e4, sizeE, eqStr, hb.ok]
theorem sb_ok (hk : k < μ.length) (h : DiceOk N d) (hN : N + 2100 ≤ 10 ^ 20) (m : Nat) (hf : ss.all isForm = true) (hl : ss.length ≤ 4) (h6 : ∀ s ∈ ss, (stepText s).length ≤ 60) (hw : isWi p mk = true) (h3 : ∀ k ∈ keysOf mk, k.length ≤ 3) (a7 a8 a9 : Option SV) :
    ∃ a8' a9' d', sb ad (lpE k m ss p mk r a7 a8 a9) (μ.set k (.lst d)) = .nx (lpE k m ss p mk r a7 a8' a9') (μ.set k (.lst d')) ∧ DiceOk (N + 10) d' := by
  obtain ⟨b, d1, e0, hb, hbw, hd1⟩ := sb0_ok ad (r := r) hk h (by omega) m hf hl h6 hw h3 a7 a8 a9
  obtain ⟨b2, d2, e3, hb2, hd2⟩ := sb3_ok ad (p := p) (mk := mk) (r := r) hk hd1 (by omega) m hf hl h6 a7 (some (.d (.str b))) (some (.d (readD (orderIn b))))
  refine ⟨some (.d (.str b2)), some (.d (readS (stepsIn b2))), d2, ?_, hd2.mono (by omega)⟩
  unfold sb
  exact (seq_nx e0).trans ((seq_nx (sb1_ok ad m _ hb hbw a7 a9)).trans ((seq_nx (sb2_ok ad m _ hf hl h6 hw h3 hb a7)).trans ((seq_nx e3).trans ((seq_nx (sb4_ok ad m _ hb2 a7 _)).trans (sb5_ok ad m _ hf hl h6 hb2 a7)))))
end
theorem d_steps_right {k N : Nat} {μ : Mu} (hk : k < μ.length) {d : List Dat} (h : DiceOk N d) (hN : N + 5000 ≤ 10 ^ 20) :
    ∃ d', F__law_steps_right ad [.r k] (μ.set k (.lst d)) = .ok (.d (.bl true)) (μ.set k (.lst d')) ∧ DiceOk (N + 400) d' := by
  obtain ⟨M, hM⟩ : ∃ M, μ.set k (.lst d) = M := ⟨_, rfl⟩
  have hm : M.length = μ.length := by rw [← hM, List.length_set]
  obtain ⟨ss, d1, e0, hf, hl, h6, hd1⟩ := sr0_ok ad hk h (by omega) M.length
  obtain ⟨p, mk, d2, e1, hw, h3, hnd, hd2⟩ := sr1_ok ad hk hd1 (by omega) M.length hf hl
  obtain ⟨r, hr, hro⟩ := repr_wi hw
  have main := for_inv (g := gN 7) (b := sb ad) (fun i ρ' μ' => ∃ a7 a8 a9 d', ρ' = lpE k M.length ss p mk r a7 a8 a9 ∧ μ' = μ.set k (.lst d') ∧ DiceOk (N + 250 + 80 + 10 * i) d') (rngD 0 6) 0 (lpE k M.length ss p mk r none none none) (μ.set k (.lst d2)) (by
    rintro i x hx ρ1 μ1 ⟨a7, a8, a9, d3, rfl, rfl, hd3⟩
    obtain ⟨rfl, hi⟩ := rng_get hx
    rw [Nat.zero_add] at hd3 ⊢
    obtain ⟨a8', a9', d4, e, hd4⟩ := sb_ok ad (r := r) hk hd3 (by omega) M.length hf hl h6 hw h3 (some (.d (.int i))) a8 a9
    exact ⟨lpE k M.length ss p mk r (some (.d (.int i))) a8 a9, _, _, rfl, e, _, _, _, _, rfl, rfl, hd4.mono (by omega)⟩) ⟨none, none, none, d2, rfl, rfl, hd2⟩
  obtain ⟨ρ', μ', e7, a7, a8, a9, d3, rfl, rfl, hd3⟩ := main
  rw [rng_len, Nat.zero_add] at hd3
  refine ⟨d3, ?_, hd3.mono (by omega)⟩
  rw [hM] at e0 ⊢
  have h7 : sr7 ad (lpE k M.length ss p mk r none none none) (μ.set k (.lst d2)) = .nx (lpE k M.length ss p mk r a7 a8 a9) (μ.set k (.lst d3)) := by
    unfold sr7
    exact (for_go (rg_nat (t := 6) (by simp) (by decide))).trans e7
  refine (def_rt (g := m__law_steps_right ad) (x := .d (.bl true)) (μ1 := μ.set k (.lst d3)) ?_).trans (by rw [e_fin, hm, set_take])
  rw [sr_eq]
  exact (seq_nx e0).trans ((seq_nx e1).trans ((seq_nx (sr2_ok ad _ hf hl h6 _)).trans ((seq_nx (sr3_ok ad _ hf hl h6 _)).trans ((seq_nx (sr4_ok ad _ hw hr _ _)).trans ((seq_nx (sr5_ok ad _ hw h3 _ _ _ _)).trans ((seq_nx (sr6_ok ad _ hw h3 hnd hr hro _ _)).trans ((seq_nx h7).trans (sret_ok (by simp)))))))))
end M87

-- PE5
/-! PE5: keeps and amounts are right. The parts are printed by mkpe5.py. -/
namespace M87
open PySem PySem.Spec PyProof.Rows L2 DL TX
variable (ad : Ad)
def kr0 (ad : Ad) : SM := (sSet (fLc (iRg1 (fCall 2 (F__law_pull ad) (fCons (fVar 0) (fCons (fC (.int 12)) fNil)))) (gN 6) (fB (fBin (oEq false) (fCall 2 (F__law_pull ad) (fCons (fVar 0) (fCons (fC (.int 2)) fNil))) (fC (.int 0)))) (fVar 6) [6]) (gN 1))
def kr1 (ad : Ad) : SM := (sSet (fCb tupleD (fCons (fBin oAdd (fVar 1) (fSl (fLst (fCons (fC (.int 150)) (fCons (fC (.int 199)) fNil))) fNo (fPart (fCall 2 (F__law_pull ad) (fCons (fVar 0) (fCons (fC (.int 3)) fNil)))))) fNil)) (gN 1))
def kr2 (ad : Ad) : SM := (sSet (fIf (fB (fBin (oEq true) (fVar 1) (fTup fNil))) (fM1 joinD (fC (.str (Str.ofString " "))) (fLc (iSeq (fVar 1)) (gN 6) fYes (fCb strD (fCons (fVar 6) fNil)) [6])) (fC (.str (Str.ofString "none")))) (gN 2))
def kr3 (ad : Ad) : SM := (sIf (bOr (fB (fBin (oEq true) (fCall 1 (F_format_keep ad) (fCons (fVar 1) fNil)) (fVar 2))) (fB (fBin (oEq true) (fCb reprD (fCons (fCall 1 (F_parse_keep ad) (fCons (fVar 2) fNil)) fNil)) (fCb reprD (fCons (fVar 1) fNil))))) (sRet (fC (.bl false))) sNx)
def krb0 (ad : Ad) : SM := (sSet (fCall 2 (F__law_spoilt ad) (fCons (fVar 0) (fCons (fVar 2) fNil))) (gN 4))
def krb1 (ad : Ad) : SM := (sSet (fRead "ParseError" (fCall 1 (F_parse_keep ad) (fCons (fVar 4) fNil))) (gN 5))
def krb2 (ad : Ad) : SM := (sIf (bOr (bAnd (fB (fBin (oEq false) (fVar 5) (fLst fNil))) (fB (fBin (oEq false) (fVar 4) (fVar 2)))) (bAnd (fB (fBin (oEq true) (fVar 5) (fLst fNil))) (fB (fBin (oEq true) (fCall 1 (F_format_keep ad) (fCons (fBin oIx (fVar 5) (fC (.int 0))) fNil)) (fVar 4))))) (sRet (fC (.bl false))) sNx)
def krb (ad : Ad) : SM := (sSeq (krb0 ad) (sSeq (krb1 ad) (krb2 ad)))
def kr4 (ad : Ad) : SM := (sFor (iRg1 (fC (.int 6))) (gN 3) (krb ad))
def kr5 (ad : Ad) : SM := (sRet (fC (.bl true)))
theorem kr_eq : m__law_keeps_right ad = (sSeq (kr0 ad) (sSeq (kr1 ad) (sSeq (kr2 ad) (sSeq (kr3 ad) (sSeq (kr4 ad) (kr5 ad)))))) := rfl
def ar0 (ad : Ad) : SM := (sSet (fCall 1 (F__law_scale ad) (fCons (fVar 0) fNil)) (gN 1))
def ar1 (ad : Ad) : SM := (sSet (fTup (fCons (fCall 1 (F__law_made ad) (fCons (fVar 1) fNil)) (fCons (fCall 2 (F__law_amount ad) (fCons (fVar 0) (fCons (fVar 1) fNil))) fNil))) (gT 2 (gC (gN 2) (gC (gN 3) gO))))
def ar2 (ad : Ad) : SM := (sSet (fCall 2 (F__law_amount_text ad) (fCons (fVar 1) (fCons (fVar 3) fNil))) (gN 4))
def ar3 (ad : Ad) : SM := (sIf (bOr (fB (fBin (oEq true) (fCall 2 (F_format_amount ad) (fCons (fVar 2) (fCons (fVar 3) fNil))) (fVar 4))) (fB (fBin (oEq true) (fCb reprD (fCons (fCall 2 (F_parse_amount ad) (fCons (fVar 2) (fCons (fVar 4) fNil))) fNil)) (fCb reprD (fCons (fVar 3) fNil))))) (sRet (fC (.bl false))) sNx)
def arb0 (ad : Ad) : SM := (sSet (fCall 2 (F__law_spoilt ad) (fCons (fVar 0) (fCons (fVar 4) fNil))) (gN 6))
def arb1 (ad : Ad) : SM := (sSet (fRead "ParseError" (fCall 2 (F_parse_amount ad) (fCons (fVar 2) (fCons (fVar 6) fNil)))) (gN 7))
def arb2 (ad : Ad) : SM := (sIf (bOr (bAnd (fB (fBin (oEq false) (fVar 7) (fLst fNil))) (fB (fBin (oEq false) (fVar 6) (fVar 4)))) (bAnd (fB (fBin (oEq true) (fVar 7) (fLst fNil))) (fB (fBin (oEq true) (fCall 2 (F_format_amount ad) (fCons (fVar 2) (fCons (fBin oIx (fVar 7) (fC (.int 0))) fNil))) (fVar 6))))) (sRet (fC (.bl false))) sNx)
def arb (ad : Ad) : SM := (sSeq (arb0 ad) (sSeq (arb1 ad) (arb2 ad)))
def ar4 (ad : Ad) : SM := (sFor (iRg1 (fC (.int 6))) (gN 5) (arb ad))
def ar5 (ad : Ad) : SM := (sRet (fC (.bl true)))
theorem ar_eq : m__law_amounts_right ad = (sSeq (ar0 ad) (sSeq (ar1 ad) (sSeq (ar2 ad) (sSeq (ar3 ad) (sSeq (ar4 ad) (ar5 ad)))))) := rfl
def readI (o : Option (List Int)) : Dat := match o with
  | some q => .lst [intsT q]
  | none => .lst []
theorem read_keep {t : Str} (h : Fit t) {ρ : En} {μ : Mu} {i : Nat} (hi : ρ.sl[i]? = some (some (.d (.str t)))) :
    fRead "ParseError" (fCall 1 (F_parse_keep ad) (fCons (fVar i) fNil)) ρ μ = .ok (.d (readI (keepIn t))) μ := by
  have hq := q_parse_keep ad h μ
  cases e : keepIn t with
  | none => rw [e] at hq; simp [hi, hq, readI]
  | some q => rw [e] at hq; simp [hi, hq, readI]
theorem keep_fit {t : Str} (h : Fit t) {is : List Int} (e : keepIn t = some is) : FitI is := FitI.keep h (keepIn_some e).2.2
def krE (k m : Nat) (a1 a2 a3 a4 a5 a6 : Option SV) : En := ⟨[some (.r k), a1, a2, a3, a4, a5, a6], m⟩
/-- rows that a keep of the law has -/
theorem asc_pwI : ∀ {xs : List Int}, (xs.Pairwise fun x y => x < y) → ascI xs = true
  | [], _ => rfl
  | [x], _ => rfl
  | x :: y :: r, h => by
    have h' := List.pairwise_cons.mp h
    show (decide (x < y) && ascI (y :: r)) = true
    rw [asc_pwI h'.2, Bool.and_true]
    exact decide_eq_true (h'.1 y (List.mem_cons_self ..))
theorem rng_pw (n : Nat) : ((List.range n).map fun i : Nat => (i : Int)).Pairwise fun x y => x < y := by
  rw [List.pairwise_map]
  exact List.pairwise_lt_range.imp fun h => by omega
structure Kp (is : List Int) : Prop where
  ok : areIdx is = true
  len : is.length ≤ 14
  b : ∀ i ∈ is, 0 ≤ i ∧ i < 200
theorem kp_of {n : Nat} (hn : n ≤ 11) {zs : List Int} (hz : zs.Sublist ((List.range n).map fun i : Nat => (i : Int))) {ts : List Int} (ht : ts.Sublist [150, 199]) : Kp (zs ++ ts) := by
  have hzb : ∀ i ∈ zs, 0 ≤ i ∧ i < 11 := fun i hi => by
    obtain ⟨j, hj, rfl⟩ := List.mem_map.mp (hz.subset hi)
    have := List.mem_range.mp hj
    omega
  have htb : ∀ i ∈ ts, i = 150 ∨ i = 199 := fun i hi => by simpa using ht.subset hi
  have hb : ∀ i ∈ zs ++ ts, 0 ≤ i ∧ i < 200 := fun i hi => by
    rcases List.mem_append.mp hi with hi | hi
    · have := hzb i hi; omega
    · have := htb i hi; omega
  refine ⟨?_, ?_, hb⟩
  · unfold areIdx
    rw [Bool.and_eq_true, List.all_eq_true]
    refine ⟨fun i hi => by have := hb i hi; simp; omega, asc_pwI (List.pairwise_append.mpr ⟨(rng_pw n).sublist hz, List.Pairwise.sublist ht (by decide), fun x hx y hy => ?_⟩)⟩
    have := hzb x hx
    have := htb y hy
    omega
  · have h1 := hz.length_le
    have h2 := ht.length_le
    rw [List.length_map, List.length_range] at h1
    rw [List.length_append]
    simp at h2
    omega
theorem Kp.fit {is : List Int} (h : Kp is) : FitI is := ⟨fun i hi => by
  have h1 := h.b i hi
  exact int_fit (by omega) (by omega), by have := h.len; omega⟩
theorem kp_text {is : List Int} (h : Kp is) : Fit (keepText is) ∧ (keepText is).length ≤ 400 := by
  have e : (keepText is).length ≤ 400 := by
    unfold keepText valuesText
    split
    · decide +kernel
    · have h1 := len_join (A " ") (is.map intText)
      have h2 := len_join_le (y := A " ") (l := is.map intText) (n := 14) (B := 20) (by rw [List.length_map]; exact h.len) fun x hx => by
        obtain ⟨i, hi, rfl⟩ := List.mem_map.mp hx
        obtain ⟨n, rfl⟩ := Int.eq_ofNat_of_zero_le (h.b i hi).1
        rw [TL.len_tl, tl_nat]
        have := (h.b _ hi).2
        exact Nat.le_trans (TL.numL_len (k := 3) (by decide) (by omega)) (by decide)
      have h3 : (A " ").length = 1 := by decide +kernel
      rw [h3] at h1 h2
      omega
  exact ⟨⟨okS_keep is, by omega⟩, e⟩
theorem kr01_ok {k N : Nat} {μ : Mu} (hk : k < μ.length) {d : List Dat} (h : DiceOk N d) (hN : N + 300 ≤ 10 ^ 20) (m : Nat) :
    ∃ is a1 d1 d2, kr0 ad (krE k m none none none none none none) (μ.set k (.lst d)) = .nx (krE k m a1 none none none none none) (μ.set k (.lst d1)) ∧
      kr1 ad (krE k m a1 none none none none none) (μ.set k (.lst d1)) = .nx (krE k m (some (.d (intsT is))) none none none none none) (μ.set k (.lst d2)) ∧ Kp is ∧ DiceOk (N + 20) d2 := by
  obtain ⟨r, d1, e1, r0, r1, hd1⟩ := d_pull ad hk h (by omega) (t := 12) (by decide) (by decide)
  obtain ⟨a, rfl⟩ := Int.eq_ofNat_of_zero_le r0
  obtain ⟨M, hM⟩ : ∃ M, μ.set k (.lst d1) = M := ⟨_, rfl⟩
  have hm : M.length = μ.length := by rw [← hM, List.length_set]
  have main := lc_sub (i := 6) (tt := fB (fBin (oEq false) (fCall 2 (F__law_pull ad) (fCons (fVar 0) (fCons (fC (.int 2)) fNil))) (fC (.int 0)))) (te := fVar 6) (sl := [some (.r k), none, none, none, none, none, none]) (n := M.length)
    (fun j μ' => ∃ d', μ' = μ.set k (.lst d') ∧ DiceOk (N + 1 + j) d') (rngD 0 a) 0 M (by
      rintro j x hx' μ1 ⟨d1, rfl, hd1⟩
      obtain ⟨rfl, hj⟩ := rng_get hx'
      rw [Nat.zero_add] at hd1 ⊢
      obtain ⟨r, d2, e1, r0, r1, hd2⟩ := d_pull ad hk hd1 (by omega) (t := 2) (by decide) (by decide)
      exact ⟨decide (r = 0), μ.set k (.lst d2), by simp [e1, eqInt], by simp, by rw [hm]; exact set_take _ _ _, d2, rfl, hd2⟩) ⟨d1, hM.symm, hd1⟩
  obtain ⟨ys, μ', e, hs, d2, rfl, hd2⟩ := main
  rw [rng_len, Nat.zero_add] at hd2
  have erng : rngD 0 a = ((List.range a).map fun i : Nat => (i : Int)).map Dat.int := by
    unfold rngD
    rw [List.map_map]
    refine List.map_congr_left fun i _ => ?_
    show Dat.int (0 + (i : Int)) = Dat.int i
    rw [Int.zero_add]
  rw [erng] at hs
  obtain ⟨zs, hz, rfl⟩ := List.sublist_map_iff.mp hs
  have hrg : iRg1 (fCall 2 (F__law_pull ad) (fCons (fVar 0) (fCons (fC (.int 12)) fNil))) (krE k m none none none none none none) (μ.set k (.lst d)) = .ok (rngD 0 a) M := rg_nat (by rw [← hM]; simp [krE, e1]) (by omega)
  obtain ⟨r', d3, e3, r0', r1', hd3⟩ := d_pull ad hk hd2 (by omega) (t := 3) (by decide) (by decide)
  obtain ⟨q, rfl⟩ := Int.eq_ofNat_of_zero_le r0'
  obtain ⟨ts, hts, ets⟩ : ∃ ts : List Int, ts.Sublist [150, 199] ∧ slD (.lst [.int 150, .int 199]) none (some (q : Int)) = some (.lst (ts.map Dat.int)) := by
    have h4 : q = 0 ∨ q = 1 ∨ q = 2 := by omega
    rcases h4 with rfl | rfl | rfl
    · exact ⟨[], by decide, rfl⟩
    · exact ⟨[150], by decide, rfl⟩
    · exact ⟨[150, 199], by decide, rfl⟩
  have hkp := kp_of (n := a) (by omega) hz hts
  have hl2 := hkp.len
  rw [List.length_append] at hl2
  have ea : oAdd (.lst (zs.map Dat.int)) (.lst (ts.map Dat.int)) = some (.lst ((zs ++ ts).map Dat.int)) := by
    show (if (zs.map Dat.int).length + (ts.map Dat.int).length ≤ sizeLine then some (Dat.lst (zs.map Dat.int ++ ts.map Dat.int)) else none) = _
    rw [if_pos (by rw [List.length_map, List.length_map, sizeE]; omega), List.map_append]
  refine ⟨zs ++ ts, some (.d (.lst (zs.map Dat.int))), d2, d3, ?_, ?_, hkp, hd3.mono (by omega)⟩
  · unfold kr0
    exact (sset_ok (x := .d (.lst (zs.map Dat.int))) (μ1 := μ.set k (.lst d2)) (lc_ok hrg (by rw [rng_len]; omega) e)).trans rfl
  · unfold kr1
    refine (sset_ok (x := .d (intsT (zs ++ ts))) (μ1 := μ.set k (.lst d3)) ?_).trans rfl
    simp [krE, e3, ets, ea, sizeE]
theorem kr2_ok {k m : Nat} (M : Mu) {is : List Int} (h : Kp is) : kr2 ad (krE k m (some (.d (intsT is))) none none none none none) M = .nx (krE k m (some (.d (intsT is))) (some (.d (.str (keepText is)))) none none none none) M := by
  have hf := h.fit
  have key : lcGo (gN 6) fYes (fCb strD (fCons (fVar 6) fNil)) [some (.r k), some (.d (intsT is)), none, none, none, none, none] M.length (is.map Dat.int) M = .ok (is.map fun i => Dat.str (intText i)) M :=
    lc_map _ _ rfl fun c hc => by simp [str_int (hf.log hc)]
  have hj : joinD (A " ") (.lst (is.map fun i => Dat.str (intText i))) = some (.str (Txt.join (A " ") (is.map intText))) := by
    have e : (is.map fun i => Dat.str (intText i)) = (is.map intText).map Dat.str := by rw [List.map_map]; rfl
    rw [e]
    exact joinD_lst (ints_join_len (A " ") hf (by decide +kernel)).1
  have h1 := eq_ints true is
  have h3 : is.length ≤ 16777216 := Nat.le_trans hf.n (by decide)
  unfold kr2
  refine (sset_ok (x := .d (.str (keepText is))) (μ1 := M) ?_).trans rfl
  unfold keepText valuesText
  by_cases e : is = []
  · subst e
    simp [krE, h1, sizeE]
  · have he : is.isEmpty = false := List.isEmpty_eq_false_iff.mpr e
    rw [he] at h1
    simp [krE, h1, hj, sizeE, key, h3, e]
theorem weight_small : ∀ {is : List Int}, (∀ i ∈ is, 0 ≤ i ∧ i < 200) → PyData.weightAll (is.map PyData.int) ≤ is.length * 40
  | [], _ => by simp [PyData.weightAll]
  | i :: r, hb => by
    have hi := hb i (List.mem_cons_self ..)
    have h2 := weight_small (is := r) fun j hj => hb j (List.mem_cons_of_mem _ hj)
    have hl : i.natAbs.log2 ≤ 20 := by
      by_cases h0 : i.natAbs = 0
      · rw [h0]; decide
      · have := (Nat.log2_lt (k := 20) h0).mpr (by omega)
        omega
    rw [List.map_cons]
    simp only [PyData.weightAll, PyData.weight, List.length_cons, Nat.succ_mul]
    split <;> omega
theorem kr3_ok {k m : Nat} (M : Mu) {is : List Int} (h : Kp is) : kr3 ad (krE k m (some (.d (intsT is))) (some (.d (.str (keepText is)))) none none none none) M = .nx (krE k m (some (.d (intsT is))) (some (.d (.str (keepText is)))) none none none none) M := by
  obtain ⟨ft, _⟩ := kp_text h
  have e1 := q_format_keep ad h.fit h.ok M
  have e2 := q_parse_keep ad ft M
  rw [keep_round h.ok] at e2
  obtain ⟨r, er, hr⟩ : ∃ r, reprD [intsT is] = some (.str r) ∧ PyData.strOk r = true := by
    refine repr_tup (y := .tuple (is.map PyData.int)) (w := 20000) (n := 1) (by simp only [pyR, pyRs_ints h.fit.f]) ?_ (by decide) (by decide)
    obtain ⟨a, b, c, d⟩ := sm_tup (w := 2000) (n := 0) (k := 14) (ds := is.map PyData.int) (fun d hd => by
      obtain ⟨i, hi, rfl⟩ := List.mem_map.mp hd
      exact sm_int (h.fit.f i hi)) (by rw [List.length_map]; exact h.len)
    have hw := weight_small h.b
    refine ⟨a, b, ?_, d⟩
    simp only [PyData.weight]
    have := h.len
    omega
  unfold kr3
  refine (sif_f (μ1 := M) ?_).trans rfl
  simp [krE, e1, e2, eqStr, ft.ok, er, hr]
theorem krb_ok {k N : Nat} {μ : Mu} (hk : k < μ.length) {d : List Dat} (h : DiceOk N d) (hN : N + 300 ≤ 10 ^ 20) (m : Nat) {is : List Int} (hk2 : Kp is) (a3 a4 a5 : Option SV) :
    ∃ a4' a5' d', krb ad (krE k m (some (.d (intsT is))) (some (.d (.str (keepText is)))) a3 a4 a5 none) (μ.set k (.lst d)) = .nx (krE k m (some (.d (intsT is))) (some (.d (.str (keepText is)))) a3 a4' a5' none) (μ.set k (.lst d')) ∧ DiceOk (N + 3) d' := by
  obtain ⟨ft, fl⟩ := kp_text hk2
  obtain ⟨b, d2, e0, hb, hd2⟩ := d_spoilt ad hk h (by omega) (t := keepText is) (by omega)
  have fb : Fit b := ⟨hb.ok ft.ok, by have := hb.len; omega⟩
  refine ⟨some (.d (.str b)), some (.d (readI (keepIn b))), d2, ?_, hd2⟩
  unfold krb krb0 krb1 krb2
  refine (seq_nx (sset_ok (x := .d (.str b)) (μ1 := μ.set k (.lst d2)) (by simp [krE, e0]))).trans ((seq_nx (sset_ok (x := .d (readI (keepIn b))) (μ1 := μ.set k (.lst d2)) (read_keep ad fb rfl))).trans ((sif_f (μ1 := μ.set k (.lst d2)) ?_).trans rfl))
  cases e : keepIn b with
  | none =>
    have n1 : ¬ (b = keepText is) := fun z => by
      rw [z, keep_round hk2.ok] at e
      cases e
    have e1 : oEq false (readI none) (.lst []) = some (.bl true) := eq_nilL false []
    have e2 : oEq true (readI none) (.lst []) = some (.bl false) := eq_nilL true []
    simp [krE, e1, e2, sizeE, eqStr, fb.ok, ft.ok, n1]
  | some q =>
    obtain ⟨hq, hqt, _⟩ := keepIn_some e
    have e1 : oEq false (readI (some q)) (.lst []) = some (.bl false) := eq_nilL false [_]
    have e2 : oEq true (readI (some q)) (.lst []) = some (.bl true) := eq_nilL true [_]
    have e3 : oIx (readI (some q)) (.int 0) = some (intsT q) := ix_l0 _ _
    have e4 := q_format_keep ad (keep_fit fb e) hq (μ.set k (.lst d2))
    rw [hqt] at e4
    simp [krE, e1, e2, e3, e4, sizeE, eqStr, fb.ok]
theorem d_keeps_right {k N : Nat} {μ : Mu} (hk : k < μ.length) {d : List Dat} (h : DiceOk N d) (hN : N + 5000 ≤ 10 ^ 20) :
    ∃ d', F__law_keeps_right ad [.r k] (μ.set k (.lst d)) = .ok (.d (.bl true)) (μ.set k (.lst d')) ∧ DiceOk (N + 400) d' := by
  obtain ⟨M, hM⟩ : ∃ M, μ.set k (.lst d) = M := ⟨_, rfl⟩
  have hm : M.length = μ.length := by rw [← hM, List.length_set]
  obtain ⟨is, a1, d1, d2, e0, e1, hkp, hd2⟩ := kr01_ok ad hk h (by omega) M.length
  have main := for_inv (g := gN 3) (b := krb ad) (fun i ρ' μ' => ∃ a3 a4 a5 d', ρ' = krE k M.length (some (.d (intsT is))) (some (.d (.str (keepText is)))) a3 a4 a5 none ∧ μ' = μ.set k (.lst d') ∧ DiceOk (N + 20 + 3 * i) d') (rngD 0 6) 0 (krE k M.length (some (.d (intsT is))) (some (.d (.str (keepText is)))) none none none none) (μ.set k (.lst d2)) (by
    rintro i x hx ρ1 μ1 ⟨a7, a8, a9, d3, rfl, rfl, hd3⟩
    obtain ⟨rfl, hi⟩ := rng_get hx
    rw [Nat.zero_add] at hd3 ⊢
    obtain ⟨a8', a9', d4, e, hd4⟩ := krb_ok ad hk hd3 (by omega) M.length hkp (some (.d (.int i))) a8 a9
    exact ⟨krE k M.length (some (.d (intsT is))) (some (.d (.str (keepText is)))) (some (.d (.int i))) a8 a9 none, _, _, rfl, e, _, _, _, _, rfl, rfl, hd4.mono (by omega)⟩) ⟨none, none, none, d2, rfl, rfl, hd2⟩
  obtain ⟨ρ', μ', e7, a7, a8, a9, d3, rfl, rfl, hd3⟩ := main
  rw [rng_len, Nat.zero_add] at hd3
  refine ⟨d3, ?_, hd3.mono (by omega)⟩
  rw [hM] at e0 ⊢
  have h7 : kr4 ad (krE k M.length (some (.d (intsT is))) (some (.d (.str (keepText is)))) none none none none) (μ.set k (.lst d2)) = .nx (krE k M.length (some (.d (intsT is))) (some (.d (.str (keepText is)))) a7 a8 a9 none) (μ.set k (.lst d3)) := by
    unfold kr4
    exact (for_go (rg_nat (t := 6) (by simp) (by decide))).trans e7
  refine (def_rt (g := m__law_keeps_right ad) (x := .d (.bl true)) (μ1 := μ.set k (.lst d3)) ?_).trans (by rw [e_fin, hm, set_take])
  rw [kr_eq]
  exact (seq_nx e0).trans ((seq_nx e1).trans ((seq_nx (kr2_ok ad _ hkp)).trans ((seq_nx (kr3_ok ad _ hkp)).trans ((seq_nx h7).trans (sret_ok (by simp))))))
end M87

-- PE6
/-! PE6: amounts are right. -/
namespace M87
open PySem PySem.Spec PyProof.Rows L2 DL TX
variable (ad : Ad)
def readA (kd : Kd) (o : Option (List Int)) : Dat := match o with
  | some q => .lst [amD kd q]
  | none => .lst []
def arE (k m : Nat) (a1 a2 a3 a4 a5 a6 a7 : Option SV) : En := ⟨[some (.r k), a1, a2, a3, a4, a5, a6, a7], m⟩
theorem read_amount (hn : (clsI ad).Nodup) (kd : Kd) {t : Str} (h : Fit t) {ρ : En} {μ : Mu} {i j : Nat} (hj : ρ.sl[j]? = some (some (.d (scD ad kd)))) (hi : ρ.sl[i]? = some (some (.d (.str t)))) :
    fRead "ParseError" (fCall 2 (F_parse_amount ad) (fCons (fVar j) (fCons (fVar i) fNil))) ρ μ = .ok (.d (readA kd (amountIn kd t))) μ := by
  have hq := q_parse_amount ad hn kd h μ
  cases e : amountIn kd t with
  | none => rw [e] at hq; simp [hi, hj, hq, readA, ofE]
  | some q => rw [e] at hq; simp [hi, hj, hq, readA, ofE]
/-- an amount of the law -/
structure Am (kd : Kd) (is : List Int) : Prop where
  fit : FitA kd is
  ok : isAmt kd is = true
  ne : is ≠ []
  b : ∀ i ∈ is, -(10 ^ 41) ≤ i ∧ i ≤ 10 ^ 41
  len : is.length ≤ 4
theorem am_len {kd : Kd} {is : List Int} (hk : KdOk kd) (h : isAmt kd is = true) : is.length ≤ 4 := by
  cases kd with
  | sums =>
    have h : is.length = 1 := by simpa [isAmt] using h
    omega
  | classes k =>
    have h : is.length = k := by simpa [isAmt] using h
    have hk : 1 ≤ k ∧ k ≤ 4 := hk
    omega
  | odds =>
    match is, h with
    | [a, b], _ => simp
theorem int_len {i : Int} (h1 : -(10 ^ 41) ≤ i) (h2 : i ≤ 10 ^ 41) : (intText i).length ≤ 43 := by
  have e : (10 : Int) ^ 41 = ((10 ^ 41 : Nat) : Int) := by decide
  have p : (10 : Nat) ^ 41 < 10 ^ 42 := by decide
  rw [e] at h1 h2
  rw [TL.len_tl]
  by_cases h0 : 0 ≤ i
  · obtain ⟨n, rfl⟩ := Int.eq_ofNat_of_zero_le h0
    rw [tl_nat]
    have := TL.numL_len (k := 42) (n := n) (by decide) (by omega)
    omega
  · obtain ⟨n, hn⟩ := Int.eq_ofNat_of_zero_le (a := -i) (by omega)
    have e : i = -(n : Int) := by omega
    subst e
    rw [tl_neg (by omega), List.length_cons]
    have := TL.numL_len (k := 42) (n := n) (by decide) (by omega)
    omega
theorem am_text {kd : Kd} {is : List Int} (h : Am kd is) : Fit (amountText kd is) ∧ (amountText kd is).length ≤ 400 := by
  have e : (amountText kd is).length ≤ 400 := by
    unfold amountText
    have h1 := len_join (sepK kd) (is.map intText)
    have h2 := len_join_le (y := sepK kd) (l := is.map intText) (n := 4) (B := 43) (by rw [List.length_map]; exact h.len) fun x hx => by
      obtain ⟨i, hi, rfl⟩ := List.mem_map.mp hx
      exact int_len (h.b i hi).1 (h.b i hi).2
    rw [(sep_ok kd).1] at h1 h2
    omega
  exact ⟨⟨okS_amount kd is, by omega⟩, e⟩
theorem repr_am {kd : Kd} {is : List Int} (h : Am kd is) : ∃ r, reprD [amD kd is] = some (.str r) ∧ PyData.strOk r = true := by
  by_cases e : kd = .sums
  · subst e
    match is, h.fit.2 rfl, h with
    | [i], _, h => exact repr_int (h.fit.1.f i (List.mem_cons_self ..))
  · have ed : amD kd is = intsT is := by cases kd <;> first | exact absurd rfl e | rfl
    rw [ed]
    exact repr_ints h.fit.1.f (by have := h.len; omega)
theorem ar01_ok {k N : Nat} {μ : Mu} (hk : k < μ.length) {d : List Dat} (h : DiceOk N d) (hN : N + 300 ≤ 10 ^ 20) (m : Nat) :
    ∃ kd is d1 d2, ar0 ad (arE k m none none none none none none none) (μ.set k (.lst d)) = .nx (arE k m (some (.d (meaD kd))) none none none none none none) (μ.set k (.lst d1)) ∧
      ar1 ad (arE k m (some (.d (meaD kd))) none none none none none none) (μ.set k (.lst d1)) = .nx (arE k m (some (.d (meaD kd))) (some (.d (scD ad kd))) (some (.d (amD kd is))) none none none none) (μ.set k (.lst d2)) ∧ KdOk kd ∧ Am kd is ∧ DiceOk (N + 20) d2 := by
  obtain ⟨kd, d1, e1, hkd, hd1⟩ := d_scale ad hk h (by omega)
  obtain ⟨is, d2, e2, hf, ha, hne, hb, hd2⟩ := d_amount ad hk hd1 (by omega) hkd
  have em := d_made ad hkd (μ.set k (.lst d1))
  refine ⟨kd, is, d1, d2, ?_, ?_, hkd, ⟨hf, ha, hne, hb, am_len hkd ha⟩, hd2.mono (by omega)⟩
  · unfold ar0
    exact (sset_ok (x := .d (meaD kd)) (μ1 := μ.set k (.lst d1)) (by simp [arE, e1])).trans rfl
  · unfold ar1
    simp [arE, em, e2, sizeE]
theorem ar2_ok {k m : Nat} (M : Mu) {kd : Kd} {is : List Int} (hkd : KdOk kd) (h : Am kd is) (a2 : Option SV) : ar2 ad (arE k m (some (.d (meaD kd))) a2 (some (.d (amD kd is))) none none none none) M = .nx (arE k m (some (.d (meaD kd))) a2 (some (.d (amD kd is))) (some (.d (.str (amountText kd is)))) none none none) M := by
  have e := l_amount_text ad h.fit hkd M
  unfold ar2
  exact (sset_ok (x := .d (.str (amountText kd is))) (μ1 := M) (by simp [arE, e])).trans rfl
theorem ar3_ok (hn : (clsI ad).Nodup) {k m : Nat} (M : Mu) {kd : Kd} {is : List Int} (h : Am kd is) (a1 : Option SV) : ar3 ad (arE k m a1 (some (.d (scD ad kd))) (some (.d (amD kd is))) (some (.d (.str (amountText kd is)))) none none none) M = .nx (arE k m a1 (some (.d (scD ad kd))) (some (.d (amD kd is))) (some (.d (.str (amountText kd is)))) none none none) M := by
  obtain ⟨ft, _⟩ := am_text h
  have e1 := q_format_amount ad hn h.fit h.ok M
  have e2 := q_parse_amount ad hn kd ft M
  rw [amount_round h.ok h.ne] at e2
  simp only [ofE] at e2
  obtain ⟨r, er, hr⟩ := repr_am h
  unfold ar3
  refine (sif_f (μ1 := M) ?_).trans rfl
  simp [arE, e1, e2, eqStr, ft.ok, er, hr]
theorem arb_ok (hn : (clsI ad).Nodup) {k N : Nat} {μ : Mu} (hk : k < μ.length) {d : List Dat} (h : DiceOk N d) (hN : N + 300 ≤ 10 ^ 20) (m : Nat) {kd : Kd} {is : List Int} (hk2 : Am kd is) (a1 a5 a6 a7 : Option SV) :
    ∃ a6' a7' d', arb ad (arE k m a1 (some (.d (scD ad kd))) (some (.d (amD kd is))) (some (.d (.str (amountText kd is)))) a5 a6 a7) (μ.set k (.lst d)) = .nx (arE k m a1 (some (.d (scD ad kd))) (some (.d (amD kd is))) (some (.d (.str (amountText kd is)))) a5 a6' a7') (μ.set k (.lst d')) ∧ DiceOk (N + 3) d' := by
  obtain ⟨ft, fl⟩ := am_text hk2
  obtain ⟨b, d2, e0, hb, hd2⟩ := d_spoilt ad hk h (by omega) (t := amountText kd is) (by omega)
  have fb : Fit b := ⟨hb.ok ft.ok, by have := hb.len; omega⟩
  refine ⟨some (.d (.str b)), some (.d (readA kd (amountIn kd b))), d2, ?_, hd2⟩
  unfold arb arb0 arb1 arb2
  refine (seq_nx (sset_ok (x := .d (.str b)) (μ1 := μ.set k (.lst d2)) (by simp [arE, e0]))).trans ((seq_nx (sset_ok (x := .d (readA kd (amountIn kd b))) (μ1 := μ.set k (.lst d2)) (read_amount ad hn kd fb rfl rfl))).trans ((sif_f (μ1 := μ.set k (.lst d2)) ?_).trans rfl))
  cases e : amountIn kd b with
  | none =>
    have n1 : ¬ (b = amountText kd is) := fun z => by
      rw [z, amount_round hk2.ok hk2.ne] at e
      cases e
    have e1 : oEq false (readA kd none) (.lst []) = some (.bl true) := eq_nilL false []
    have e2 : oEq true (readA kd none) (.lst []) = some (.bl false) := eq_nilL true []
    simp [arE, e1, e2, sizeE, eqStr, fb.ok, ft.ok, n1]
  | some q =>
    obtain ⟨hq, hqt, hqf⟩ := amountIn_some e
    have e1 : oEq false (readA kd (some q)) (.lst []) = some (.bl false) := eq_nilL false [_]
    have e2 : oEq true (readA kd (some q)) (.lst []) = some (.bl true) := eq_nilL true [_]
    have e3 : oIx (readA kd (some q)) (.int 0) = some (amD kd q) := ix_l0 _ _
    have e4 := q_format_amount ad hn (FitA.found fb hqf) hq (μ.set k (.lst d2))
    rw [hqt] at e4
    simp [arE, e1, e2, e3, e4, sizeE, eqStr, fb.ok]
theorem d_amounts_right (hn : (clsI ad).Nodup) {k N : Nat} {μ : Mu} (hk : k < μ.length) {d : List Dat} (h : DiceOk N d) (hN : N + 5000 ≤ 10 ^ 20) :
    ∃ d', F__law_amounts_right ad [.r k] (μ.set k (.lst d)) = .ok (.d (.bl true)) (μ.set k (.lst d')) ∧ DiceOk (N + 400) d' := by
  obtain ⟨M, hM⟩ : ∃ M, μ.set k (.lst d) = M := ⟨_, rfl⟩
  have hm : M.length = μ.length := by rw [← hM, List.length_set]
  obtain ⟨kd, is, d1, d2, e0, e1, hkd, ham, hd2⟩ := ar01_ok ad hk h (by omega) M.length
  have main := for_inv (g := gN 5) (b := arb ad) (fun i ρ' μ' => ∃ a3 a4 a5 d', ρ' = arE k M.length (some (.d (meaD kd))) (some (.d (scD ad kd))) (some (.d (amD kd is))) (some (.d (.str (amountText kd is)))) a3 a4 a5 ∧ μ' = μ.set k (.lst d') ∧ DiceOk (N + 20 + 3 * i) d') (rngD 0 6) 0 (arE k M.length (some (.d (meaD kd))) (some (.d (scD ad kd))) (some (.d (amD kd is))) (some (.d (.str (amountText kd is)))) none none none) (μ.set k (.lst d2)) (by
    rintro i x hx ρ1 μ1 ⟨a7, a8, a9, d3, rfl, rfl, hd3⟩
    obtain ⟨rfl, hi⟩ := rng_get hx
    rw [Nat.zero_add] at hd3 ⊢
    obtain ⟨a8', a9', d4, e, hd4⟩ := arb_ok ad hn hk hd3 (by omega) M.length ham (some (.d (meaD kd))) (some (.d (.int i))) a8 a9
    exact ⟨arE k M.length (some (.d (meaD kd))) (some (.d (scD ad kd))) (some (.d (amD kd is))) (some (.d (.str (amountText kd is)))) (some (.d (.int i))) a8 a9, _, _, rfl, e, _, _, _, _, rfl, rfl, hd4.mono (by omega)⟩) ⟨none, none, none, d2, rfl, rfl, hd2⟩
  obtain ⟨ρ', μ', e7, a7, a8, a9, d3, rfl, rfl, hd3⟩ := main
  rw [rng_len, Nat.zero_add] at hd3
  refine ⟨d3, ?_, hd3.mono (by omega)⟩
  rw [hM] at e0 ⊢
  have h7 : ar4 ad (arE k M.length (some (.d (meaD kd))) (some (.d (scD ad kd))) (some (.d (amD kd is))) (some (.d (.str (amountText kd is)))) none none none) (μ.set k (.lst d2)) = .nx (arE k M.length (some (.d (meaD kd))) (some (.d (scD ad kd))) (some (.d (amD kd is))) (some (.d (.str (amountText kd is)))) a7 a8 a9) (μ.set k (.lst d3)) := by
    unfold ar4
    exact (for_go (rg_nat (t := 6) (by simp) (by decide))).trans e7
  refine (def_rt (g := m__law_amounts_right ad) (x := .d (.bl true)) (μ1 := μ.set k (.lst d3)) ?_).trans (by rw [e_fin, hm, set_take])
  rw [ar_eq]
  exact (seq_nx e0).trans ((seq_nx e1).trans ((seq_nx (ar2_ok ad _ hkd ham _)).trans ((seq_nx (ar3_ok ad hn _ ham _)).trans ((seq_nx h7).trans (sret_ok (by simp))))))
end M87

-- PE7
/-! PE7: the law. The parts are printed by mkpe7.py. -/
namespace M87
open PySem PySem.Spec PyProof.Rows L2 DL TX
variable (ad : Ad)
def lwi (ad : Ad) : SM := (sIf (bOr (bNot (fTru (fCall 1 (F__law_steps_right ad) (fCons (fVar 2) fNil)))) (bOr (bNot (fTru (fCall 1 (F__law_keeps_right ad) (fCons (fVar 2) fNil)))) (bNot (fTru (fCall 1 (F__law_amounts_right ad) (fCons (fVar 2) fNil)))))) (sRet (fC (.bl false))) sNx)
def lwb0 (ad : Ad) : SM := (sSet (fCall 2 (F__law_dice ad) (fCons (fVar 0) (fCons (fVar 1) fNil))) (gN 2))
def lwb1 (ad : Ad) : SM := (sFor (iRg1 (fC (.int 2))) (gN 3) (lwi ad))
def lwb (ad : Ad) : SM := (sSeq (lwb0 ad) (lwb1 ad))
def lw0 (ad : Ad) : SM := (sFor (iRg1 (fCb maxD (fCons (fC (.int 1)) (fCons (fCb minD (fCons (fC (.int 8)) (fCons (fCb lenD (fCons (fVar 0) fNil)) fNil))) fNil)))) (gN 1) (lwb ad))
def lw1 (ad : Ad) : SM := (sSet (fLst (fCons (fC (.str (Str.ofString ""))) (fCons (fC (.str (Str.ofString "-"))) (fCons (fC (.str (Str.ofString "chain"))) (fCons (fC (.str (Str.ofString "chain "))) (fCons (fC (.str (Str.ofString "no steps"))) (fCons (fC (.str (Str.ofString "chain -"))) (fCons (fC (.str (Str.ofString "witness labels"))) (fCons (fC (.str (Str.ofString "witness labels: "))) (fCons (fC (.str (Str.ofString "witness both: a a"))) fNil)))))))))) (gN 4))
def lw2 (ad : Ad) : SM := (sSet (fBin oAdd (fVar 4) (fLst (fCons (fC (.str (Str.ofString "witness labels: a a, a b"))) (fCons (fC (.str (Str.ofString "witness labels: b a, a b"))) (fCons (fC (.str (Str.ofString "witness labels: a ba"))) (fCons (fC (.str (Str.ofString "witness row: a  a"))) fNil)))))) (gN 4))
def lw3 (ad : Ad) : SM := (sIf (fB (fBin (oEq true) (fLc (iSeq (fVar 4)) (gN 8) (fB (fBin (oEq true) (fRead "ParseError" (fCall 1 (F_parse_order ad) (fCons (fVar 8) fNil))) (fLst fNil))) (fVar 8) [8]) (fLst fNil))) (sRet (fC (.bl false))) sNx)
def lw4 (ad : Ad) : SM := (sSet (fLst (fCons (fC (.str (Str.ofString ""))) (fCons (fC (.str (Str.ofString "-"))) (fCons (fC (.str (Str.ofString "1 0"))) (fCons (fC (.str (Str.ofString "0 0"))) (fCons (fC (.str (Str.ofString "200"))) (fCons (fC (.str (Str.ofString "-1"))) (fCons (fC (.str (Str.ofString "01"))) (fCons (fC (.str (Str.ofString "0  1"))) (fCons (fC (.str (Str.ofString " 0"))) (fCons (fC (.str (Str.ofString "0 "))) (fCons (fC (.str (Str.ofString "0,1"))) (fCons (fC (.str (Str.ofString "+1"))) (fCons (fC (.str (Str.ofString "1_0"))) (fCons (fC (.str (Str.ofString "none none"))) fNil))))))))))))))) (gN 4))
def lw5 (ad : Ad) : SM := (sIf (fB (fBin (oEq true) (fLc (iSeq (fVar 4)) (gN 8) (fB (fBin (oEq true) (fRead "ParseError" (fCall 1 (F_parse_keep ad) (fCons (fVar 8) fNil))) (fLst fNil))) (fVar 8) [8]) (fLst fNil))) (sRet (fC (.bl false))) sNx)
def lw6 (ad : Ad) : SM := (sSet (fTup (fCons (fCall 0 (F_Scale_odds ad) fNil) (fCons (fCall 1 (F_Scale_classes ad) (fCons (fC (.int 2)) fNil)) fNil))) (gT 2 (gC (gN 5) (gC (gN 6) gO))))
def lw7 (ad : Ad) : SM := (sSet (fLst (fCons (fC (.str (Str.ofString "4:2"))) (fCons (fC (.str (Str.ofString "0:1"))) (fCons (fC (.str (Str.ofString "3"))) (fCons (fC (.str (Str.ofString "3:2:1"))) (fCons (fC (.str (Str.ofString "-3:-2"))) (fCons (fC (.str (Str.ofString "3/2"))) (fCons (fC (.str (Str.ofString "2 :1"))) fNil)))))))) (gN 4))
def lw8 (ad : Ad) : SM := (sSet (fLc (iSeq (fVar 4)) (gN 8) fYes (fRead "ParseError" (fCall 2 (F_parse_amount ad) (fCons (fVar 5) (fCons (fVar 8) fNil)))) [8]) (gN 7))
def lw9 (ad : Ad) : SM := (sSet (fLst (fCons (fC (.str (Str.ofString "1"))) (fCons (fC (.str (Str.ofString "1/2/3"))) (fCons (fC (.str (Str.ofString "1:2"))) (fCons (fC (.str (Str.ofString "-0/1"))) (fCons (fC (.str (Str.ofString "1/"))) (fCons (fC (.str (Str.ofString "/1"))) fNil))))))) (gN 4))
def lw10 (ad : Ad) : SM := (sSet (fBin oAdd (fVar 7) (fLc (iSeq (fVar 4)) (gN 8) fYes (fRead "ParseError" (fCall 2 (F_parse_amount ad) (fCons (fVar 6) (fCons (fVar 8) fNil)))) [8])) (gN 7))
def lw11 (ad : Ad) : SM := (sIf (fB (fBin (oEq true) (fLc (iSeq (fVar 7)) (gN 9) (fB (fBin (oEq true) (fVar 9) (fLst fNil))) (fVar 9) [9]) (fLst fNil))) (sRet (fC (.bl false))) sNx)
def lw12 (ad : Ad) : SM := (sSet (fLst (fCons (fCall 2 (F_parse_amount ad) (fCons (fVar 5) (fCons (fC (.str (Str.ofString "1:3"))) fNil))) (fCons (fCall 2 (F_parse_amount ad) (fCons (fVar 6) (fCons (fC (.str (Str.ofString "-1/0"))) fNil))) (fCons (fCall 1 (F_format_keep ad) (fCons (fTup (fCons (fC (.int 0)) (fCons (fC (.int 199)) fNil))) fNil)) fNil)))) (gN 7))
def lw13 (ad : Ad) : SM := (sRet (fBin (oEq false) (fVar 7) (fLst (fCons (fTup (fCons (fC (.int 1)) (fCons (fC (.int 3)) fNil))) (fCons (fTup (fCons (fUn negD (fC (.int 1))) (fCons (fC (.int 0)) fNil))) (fCons (fC (.str (Str.ofString "0 199"))) fNil))))))
theorem lw_eq : m_law ad = (sSeq (lw0 ad) (sSeq (lw1 ad) (sSeq (lw2 ad) (sSeq (lw3 ad) (sSeq (lw4 ad) (sSeq (lw5 ad) (sSeq (lw6 ad) (sSeq (lw7 ad) (sSeq (lw8 ad) (sSeq (lw9 ad) (sSeq (lw10 ad) (sSeq (lw11 ad) (sSeq (lw12 ad) (lw13 ad)))))))))))))) := rfl
def dc0 (ad : Ad) : SM := (sSet (fBin oAdd (fBin oMul (fC (.int 13)) (fVar 1)) (fC (.int 6))) (gN 2))
def dc1 (ad : Ad) : SM := (sIf (fB (fBin oLt (fVar 1) (fCb lenD (fCons (fVar 0) fNil)))) (sSet (fBin oIx (fVar 0) (fVar 1)) (gN 2)) sNx)
def dc2 (ad : Ad) : SM := (sSet (fBin oMod (fCb intD (fCons (fCb absD (fCons (fVar 2) fNil)) fNil)) (fBin oPow (fBin oPow (fC (.int 10)) (fC (.int 60))) (fC (.int 12)))) (gN 3))
def dc3 (ad : Ad) : SM := (sSet (fBin oAdd (fBin oAdd (fBin oAdd (fBin oMul (fBin oMod (fCb intD (fCons (fVar 3) fNil)) (fC (.int 2147483497))) (fC (.int 40014))) (fBin oMul (fC (.int 1009)) (fVar 1))) (fBin oMul (fC (.int 5)) (fCb intD (fCons (fBin oLt (fVar 2) (fC (.int 0))) fNil)))) (fC (.int 29))) (gN 4))
def dc4 (ad : Ad) : SM := (sRet (fLstL (fCons (fCb maxD (fCons (fC (.int 0)) (fCons (fBin oSub (fVar 3) (fBin oPow (fC (.int 10)) (fC (.int 18)))) fNil))) (fCons (fBin oMod (fCb intD (fCons (fVar 4) fNil)) (fC (.int 2147483489))) (fCons (fC (.int 0)) fNil)))))
theorem dc_eq : m__law_dice ad = (sSeq (dc0 ad) (sSeq (dc1 ad) (sSeq (dc2 ad) (sSeq (dc3 ad) (dc4 ad))))) := rfl
theorem pow1 : oPow (.int 10) (.int 60) = some (.int (10 ^ 60)) := by
  show (if CPowB 10 60 then some (Dat.int (10 ^ (60 : Int).toNat)) else none) = _
  rw [if_pos (by decide +kernel)]
  rfl
theorem pow2 : oPow (.int (10 ^ 60)) (.int 12) = some (.int ((10 ^ 60) ^ 12)) := by
  show (if CPowB (10 ^ 60) 12 then some (Dat.int ((10 ^ 60) ^ (12 : Int).toNat)) else none) = _
  rw [if_pos (by decide +kernel)]
  rfl
theorem pow3 : oPow (.int 10) (.int 18) = some (.int (10 ^ 18)) := by
  show (if CPowB 10 18 then some (Dat.int (10 ^ (18 : Int).toNat)) else none) = _
  rw [if_pos (by decide +kernel)]
  rfl
theorem fin_live (M : Mu) (xs : List Dat) : fin true M.length (.r M.length) (M ++ [.lst xs]) = .ok (.r M.length) (M ++ [.lst xs]) := by
  simp [fin]
def dcE (ns : List Int) (i m : Nat) (a2 a3 a4 : Option SV) : En := ⟨[some (.d (.scr ns)), some (.d (.int (i : Int))), a2, a3, a4], m⟩
theorem d_dice (ns : List Int) {i : Nat} (hi : i ≤ 8) (M : Mu) : ∃ d, F__law_dice ad [.d (.scr ns), .d (.int (i : Int))] M = .ok (.r M.length) (M ++ [.lst d]) ∧ DiceOk 0 d := by
  have m13 : oMul (.int 13) (.int (i : Int)) = some (.int (13 * i)) := cmul (by decide) (by omega)
  have e0 : dc0 ad (dcE ns i M.length none none none) M = .nx (dcE ns i M.length (some (.d (.int (13 * (i : Int) + 6)))) none none) M := by
    unfold dc0
    exact (sset_ok (x := .d (.int (13 * (i : Int) + 6))) (μ1 := M) (by simp [dcE, m13])).trans rfl
  obtain ⟨c, e1⟩ : ∃ c : Int, dc1 ad (dcE ns i M.length (some (.d (.int (13 * (i : Int) + 6)))) none none) M = .nx (dcE ns i M.length (some (.d (.int c))) none none) M := by
    unfold dc1
    by_cases h : i < ns.length
    · refine ⟨ns[i], (sif_t (μ1 := M) ?_).trans ((sset_ok (x := .d (.int ns[i])) (μ1 := M) ?_).trans rfl)⟩
      · simp [dcE, h]
      · have ex : oIx (.scr ns) (.int (i : Int)) = some (.int ns[i]) := atI_nat (xs := ns.map Dat.int) (by rw [List.getElem?_map, List.getElem?_eq_getElem h]; rfl)
        simp [dcE, ex]
    · refine ⟨13 * (i : Int) + 6, (sif_f (μ1 := M) ?_).trans rfl⟩
      simp [dcE, h]
  obtain ⟨G, hG⟩ : ∃ G : Int, G = (if c < 0 then -c else c) % ((10 ^ 60) ^ 12) := ⟨_, rfl⟩
  have q1 : oMod (.int (if c < 0 then -c else c)) (.int ((10 ^ 60) ^ 12)) = some (.int G) := by rw [hG]; exact cmod (by decide +kernel)
  have e2 : dc2 ad (dcE ns i M.length (some (.d (.int c))) none none) M = .nx (dcE ns i M.length (some (.d (.int c))) (some (.d (.int G))) none) M := by
    unfold dc2
    refine (sset_ok (x := .d (.int G)) (μ1 := M) ?_).trans rfl
    have ea : absD [.int c] = some (.int (if c < 0 then -c else c)) := rfl
    simp only [dcE, e_bin, e_cb, e_cons, e_nil, e_var, e_c, List.getElem?_cons_zero, List.getElem?_cons_succ, Res.bind_ok, e_vws1, e_vws0, e_vw, ea, e_ofO, int_int, e_o2, pow1, pow2, q1]
  obtain ⟨H, hH⟩ : ∃ H : Int, H = G % 2147483497 := ⟨_, rfl⟩
  have hH0 : 0 ≤ H := by rw [hH]; exact Int.emod_nonneg _ (by decide)
  have hH1 : H < 2147483497 := by rw [hH]; exact Int.emod_lt_of_pos _ (by decide)
  have q2 : oMod (.int G) (.int 2147483497) = some (.int H) := by rw [hH]; exact cmod (by decide)
  have q3 : oMul (.int H) (.int 40014) = some (.int (H * 40014)) := cmul (by omega) (by decide)
  have q4 : oMul (.int 1009) (.int (i : Int)) = some (.int (1009 * i)) := cmul (by decide) (by omega)
  obtain ⟨f, hf, hf1⟩ : ∃ f : Int, (if decide (c < 0) = true then (1 : Int) else 0) = f ∧ (f = 0 ∨ f = 1) := ⟨_, rfl, by split <;> simp⟩
  have q5 : oMul (.int 5) (.int f) = some (.int (5 * f)) := cmul (by decide) (by omega)
  have e3 : dc3 ad (dcE ns i M.length (some (.d (.int c))) (some (.d (.int G))) none) M = .nx (dcE ns i M.length (some (.d (.int c))) (some (.d (.int G))) (some (.d (.int (H * 40014 + 1009 * i + 5 * f + 29))))) M := by
    unfold dc3
    refine (sset_ok (x := .d (.int (H * 40014 + 1009 * i + 5 * f + 29))) (μ1 := M) ?_).trans rfl
    simp only [dcE, e_bin, e_cb, e_cons, e_nil, e_var, e_c, List.getElem?_cons_zero, List.getElem?_cons_succ, Res.bind_ok, e_vws1, e_vws0, e_vw, e_ofO, int_int, int_bl, DL.lt_int, e_o2, q2, q3, q4, hf, q5, DL.add_int]
  have q6 : oMod (.int (H * 40014 + 1009 * i + 5 * f + 29)) (.int 2147483489) = some (.int ((H * 40014 + 1009 * i + 5 * f + 29) % 2147483489)) := cmod (by decide)
  obtain ⟨V, hV⟩ : ∃ V : Int, maxD [.int 0, .int (G - 10 ^ 18)] = some (.int V) := ⟨_, rfl⟩
  refine ⟨[.int V, .int ((H * 40014 + 1009 * i + 5 * f + 29) % 2147483489), .int 0], ?_, V, _, 0, rfl, by omega, by omega⟩
  refine (def_rt (g := m__law_dice ad) (x := .r M.length) (μ1 := M ++ [.lst [.int V, .int ((H * 40014 + 1009 * i + 5 * f + 29) % 2147483489), .int 0]]) ?_).trans ?_
  · rw [dc_eq]
    refine (seq_nx e0).trans ((seq_nx e1).trans ((seq_nx e2).trans ((seq_nx e3).trans ?_)))
    unfold dc4
    refine sret_ok ?_
    simp only [dcE, e_lstL, e_bin, e_cb, e_cons, e_nil, e_var, e_c, List.getElem?_cons_zero, List.getElem?_cons_succ, Res.bind_ok, e_vws1, e_vws0, e_vw, e_ofO, int_int, e_o2, pow3, DL.sub_int, hV, q6, e_datsOf1, e_datsOf0, Option.map_some, sizeE]
    exact if_pos (by simp)
  · exact fin_live M _
def lwE (a0 a1 a2 a3 a4 a5 a6 a7 a8 a9 : Option SV) : En := ⟨[a0, a1, a2, a3, a4, a5, a6, a7, a8, a9], 0⟩
theorem lwi_ok (hn : (clsI ad).Nodup) {k N : Nat} {μ : Mu} (hk : k < μ.length) {d : List Dat} (h : DiceOk N d) (hN : N + 8000 ≤ 10 ^ 20) (a0 a1 a3 : Option SV) :
    ∃ d', lwi ad (lwE a0 a1 (some (.r k)) a3 none none none none none none) (μ.set k (.lst d)) = .nx (lwE a0 a1 (some (.r k)) a3 none none none none none none) (μ.set k (.lst d')) ∧ DiceOk (N + 1200) d' := by
  obtain ⟨d1, e1, hd1⟩ := d_steps_right ad hk h (by omega)
  obtain ⟨d2, e2, hd2⟩ := d_keeps_right ad hk hd1 (by omega)
  obtain ⟨d3, e3, hd3⟩ := d_amounts_right ad hn hk hd2 (by omega)
  refine ⟨d3, ?_, hd3.mono (by omega)⟩
  unfold lwi
  refine (sif_f (μ1 := μ.set k (.lst d3)) ?_).trans rfl
  generalize F__law_steps_right ad = F1 at e1 ⊢
  generalize F__law_keeps_right ad = F2 at e2 ⊢
  generalize F__law_amounts_right ad = F3 at e3 ⊢
  simp [lwE, e1, e2, e3]
theorem lwb_ok (hn : (clsI ad).Nodup) (ns : List Int) {i : Nat} (hi : i ≤ 8) (M : Mu) (a2 a3 : Option SV) :
    ∃ a2' a3' M', lwb ad (lwE (some (.d (.scr ns))) (some (.d (.int (i : Int)))) a2 a3 none none none none none none) M = .nx (lwE (some (.d (.scr ns))) (some (.d (.int (i : Int)))) a2' a3' none none none none none none) M' := by
  obtain ⟨d, e0, hd⟩ := d_dice ad ns hi M
  obtain ⟨B, hB⟩ : ∃ B, M ++ [Ob.lst d] = B := ⟨_, rfl⟩
  have hk : M.length < B.length := by rw [← hB]; simp
  have hs : B.set M.length (.lst d) = B := by rw [← hB]; simp
  have main := for_inv (g := gN 3) (b := lwi ad) (fun j ρ' μ' => ∃ a3 d', ρ' = lwE (some (.d (.scr ns))) (some (.d (.int (i : Int)))) (some (.r M.length)) a3 none none none none none none ∧ μ' = B.set M.length (.lst d') ∧ DiceOk (0 + 1200 * j) d') (rngD 0 2) 0 (lwE (some (.d (.scr ns))) (some (.d (.int (i : Int)))) (some (.r M.length)) a3 none none none none none none) B (by
    rintro j x hx ρ1 μ1 ⟨a3, d3, rfl, rfl, hd3⟩
    obtain ⟨rfl, hj⟩ := rng_get hx
    rw [Nat.zero_add] at hd3 ⊢
    obtain ⟨d4, e, hd4⟩ := lwi_ok ad hn hk hd3 (by omega) (some (.d (.scr ns))) (some (.d (.int (i : Int)))) (some (.d (.int j)))
    exact ⟨lwE (some (.d (.scr ns))) (some (.d (.int (i : Int)))) (some (.r M.length)) (some (.d (.int j))) none none none none none none, _, _, rfl, e, _, _, rfl, rfl, hd4.mono (by omega)⟩) ⟨a3, d, rfl, hs.symm, hd⟩
  obtain ⟨ρ', μ', e7, a3', d3, rfl, rfl, hd3⟩ := main
  refine ⟨some (.r M.length), a3', B.set M.length (.lst d3), ?_⟩
  rw [hB] at e0
  have h0 : lwb0 ad (lwE (some (.d (.scr ns))) (some (.d (.int (i : Int)))) a2 a3 none none none none none none) M = .nx (lwE (some (.d (.scr ns))) (some (.d (.int (i : Int)))) (some (.r M.length)) a3 none none none none none none) B := by
    unfold lwb0
    generalize F__law_dice ad = FD at e0 ⊢
    exact (sset_ok (x := .r M.length) (μ1 := B) (by simp [lwE, e0])).trans rfl
  have h1 : lwb1 ad (lwE (some (.d (.scr ns))) (some (.d (.int (i : Int)))) (some (.r M.length)) a3 none none none none none none) B = .nx (lwE (some (.d (.scr ns))) (some (.d (.int (i : Int)))) (some (.r M.length)) a3' none none none none none none) (B.set M.length (.lst d3)) := by
    unfold lwb1
    exact (for_go (rg_nat (t := 2) (by simp) (by decide))).trans e7
  unfold lwb
  exact (seq_nx h0).trans h1
theorem lw0_ok (hn : (clsI ad).Nodup) (ns : List Int) (hl : ns.length ≤ 63) :
    ∃ a1 a2 a3 M', lw0 ad (lwE (some (.d (.scr ns))) none none none none none none none none none) [] = .nx (lwE (some (.d (.scr ns))) a1 a2 a3 none none none none none none) M' := by
  obtain ⟨c, hc, hc8⟩ : ∃ c : Nat, fCb maxD (fCons (fC (.int 1)) (fCons (fCb minD (fCons (fC (.int 8)) (fCons (fCb lenD (fCons (fVar 0) fNil)) fNil))) fNil)) (lwE (some (.d (.scr ns))) none none none none none none none none none) [] = .ok (.d (.int (c : Int))) [] ∧ c ≤ 8 := by
    have em : minD [.int 8, .int (ns.length : Int)] = some (.int ((min 8 ns.length : Nat) : Int)) := by
      show some (Dat.int (if (ns.length : Int) < 8 then (ns.length : Int) else 8)) = _
      congr 2
      split <;> omega
    have ex : maxD [.int 1, .int ((min 8 ns.length : Nat) : Int)] = some (.int ((max 1 (min 8 ns.length) : Nat) : Int)) := by
      show some (Dat.int (if ((min 8 ns.length : Nat) : Int) > 1 then ((min 8 ns.length : Nat) : Int) else 1)) = _
      congr 2
      split <;> omega
    refine ⟨max 1 (min 8 ns.length), ?_, by omega⟩
    simp only [lwE, e_cb, e_cons, e_c, e_var, e_nil, Res.bind_ok, List.getElem?_cons_zero, e_vws1, e_vws0, e_vw, len_scr, e_ofO, em, ex]
  have main := for_inv (g := gN 1) (b := lwb ad) (fun _ ρ' _ => ∃ a1 a2 a3, ρ' = lwE (some (.d (.scr ns))) a1 a2 a3 none none none none none none) (rngD 0 c) 0 (lwE (some (.d (.scr ns))) none none none none none none none none none) [] (by
    rintro j x hx ρ1 μ1 ⟨a1, a2, a3, rfl⟩
    obtain ⟨rfl, hj⟩ := rng_get hx
    obtain ⟨a2', a3', M', e⟩ := lwb_ok ad hn ns (i := j) (by omega) μ1 a2 a3
    exact ⟨lwE (some (.d (.scr ns))) (some (.d (.int j))) a2 a3 none none none none none none, _, _, rfl, e, _, _, _, rfl⟩) ⟨none, none, none, rfl⟩
  obtain ⟨ρ', μ', e7, a1, a2, a3, rfl⟩ := main
  refine ⟨a1, a2, a3, μ', ?_⟩
  unfold lw0
  exact (for_go (rg_nat hc (by omega))).trans e7

/-! ### the fixed texts -/
theorem lc_none {i : Nat} {tt : BM} {te : EM} {sl : List (Option SV)} {n : Nat} {μ : Mu} (hn : n = μ.length) : ∀ {ds : List Dat}, (∀ d ∈ ds, tt ⟨sl.set i (some (.d d)), n⟩ μ = .ok false μ) → lcGo (gN i) tt te sl n ds μ = .ok [] μ
  | [], _ => rfl
  | d :: ds, h => by
    have h1 := h d (List.mem_cons_self ..)
    have ih := lc_none (te := te) hn (ds := ds) fun x hx => h x (List.mem_cons_of_mem _ hx)
    have e : μ.take n = μ := by rw [hn, List.take_length]
    unfold lcGo
    simp only [e_gN, Res.bind_ok, h1, e, ih]
def badO : List Str := [A "", A "-", A "chain", A "chain ", A "no steps", A "chain -", A "witness labels", A "witness labels: ", A "witness both: a a", A "witness labels: a a, a b", A "witness labels: b a, a b", A "witness labels: a ba", A "witness row: a  a"]
def badK : List Str := [A "", A "-", A "1 0", A "0 0", A "200", A "-1", A "01", A "0  1", A " 0", A "0 ", A "0,1", A "+1", A "1_0", A "none none"]
def badD : List Str := [A "4:2", A "0:1", A "3", A "3:2:1", A "-3:-2", A "3/2", A "2 :1"]
def badT : List Str := [A "1", A "1/2/3", A "1:2", A "-0/1", A "1/", A "/1"]
theorem fit_bad {l : List Str} (h : l.all (fun t => decide (t.length ≤ 30) && PyData.strOk t) = true) : ∀ t ∈ l, Fit t ∧ t.length ≤ 120 := fun t ht => by
  rw [List.all_eq_true] at h
  have z := h t ht
  rw [Bool.and_eq_true, decide_eq_true_eq] at z
  exact ⟨⟨z.2, by omega⟩, by omega⟩
theorem bad_order : ∀ t ∈ badO, orderIn t = none := fun t ht => by
  have h : badO.all (fun t => (orderIn t).isNone) = true := by decide +kernel
  rw [List.all_eq_true] at h
  exact Option.isNone_iff_eq_none.mp (h t ht)
theorem bad_keep : ∀ t ∈ badK, keepIn t = none := fun t ht => by
  have h : badK.all (fun t => (keepIn t).isNone) = true := by decide +kernel
  rw [List.all_eq_true] at h
  exact Option.isNone_iff_eq_none.mp (h t ht)
theorem bad_odds : ∀ t ∈ badD, amountIn .odds t = none := fun t ht => by
  have h : badD.all (fun t => (amountIn .odds t).isNone) = true := by decide +kernel
  rw [List.all_eq_true] at h
  exact Option.isNone_iff_eq_none.mp (h t ht)
theorem bad_two : ∀ t ∈ badT, amountIn (.classes 2) t = none := fun t ht => by
  have h : badT.all (fun t => (amountIn (.classes 2) t).isNone) = true := by decide +kernel
  rw [List.all_eq_true] at h
  exact Option.isNone_iff_eq_none.mp (h t ht)
theorem good_odds : amountIn .odds (A "1:3") = some [1, 3] := by decide +kernel
theorem good_two : amountIn (.classes 2) (A "-1/0") = some [-1, 0] := by decide +kernel
theorem good_keep : keepText [0, 199] = A "0 199" ∧ areIdx [0, 199] = true := by decide +kernel
section
variable (a0 a1 a2 a3 : Option SV) (M : Mu)
theorem lw12_ok : ∃ a4, lw1 ad (lwE a0 a1 a2 a3 none none none none none none) M = .nx (lwE a0 a1 a2 a3 a4 none none none none none) M ∧ lw2 ad (lwE a0 a1 a2 a3 a4 none none none none none) M = .nx (lwE a0 a1 a2 a3 (some (.d (.lst (badO.map Dat.str)))) none none none none none) M := by
  refine ⟨some (.d (.lst ([A "", A "-", A "chain", A "chain ", A "no steps", A "chain -", A "witness labels", A "witness labels: ", A "witness both: a a"].map Dat.str))), ?_, ?_⟩
  · unfold lw1
    exact (sset_ok (x := .d (.lst ([A "", A "-", A "chain", A "chain ", A "no steps", A "chain -", A "witness labels", A "witness labels: ", A "witness both: a a"].map Dat.str))) (μ1 := M) (by simp [sizeE])).trans rfl
  · unfold lw2
    refine (sset_ok (x := .d (.lst (badO.map Dat.str))) (μ1 := M) ?_).trans rfl
    simp [lwE, sizeE, oAdd, badO]
theorem lw3_ok : lw3 ad (lwE a0 a1 a2 a3 (some (.d (.lst (badO.map Dat.str)))) none none none none none) M = .nx (lwE a0 a1 a2 a3 (some (.d (.lst (badO.map Dat.str)))) none none none none none) M := by
  have hf := fit_bad (l := badO) (by decide +kernel)
  have key : lcGo (gN 8) (fB (fBin (oEq true) (fRead "ParseError" (fCall 1 (F_parse_order ad) (fCons (fVar 8) fNil))) (fLst fNil))) (fVar 8) [a0, a1, a2, a3, some (.d (.lst (badO.map Dat.str))), none, none, none, none, none] M.length (badO.map Dat.str) M = .ok [] M := lc_none rfl fun x hx => by
    obtain ⟨t, ht, rfl⟩ := List.mem_map.mp hx
    have e := read_order ad (hf t ht).1 (fun _ => (hf t ht).2) (ρ := ⟨[a0, a1, a2, a3, some (.d (.lst (badO.map Dat.str))), none, none, none, some (.d (.str t)), none], M.length⟩) (μ := M) (i := 8) rfl
    rw [bad_order t ht] at e
    have e2 : oEq true (readD none) (.lst []) = some (.bl false) := eq_nilL true []
    simp only [List.set_cons_succ, List.set_cons_zero, e_B, e_bin, e, Res.bind_ok, e_lst, e_nil, e_datsOf0, List.length_nil, sizeE, Nat.zero_le, if_true, e_o2, e2, e_ofO, e_asB]
  have hl : fLc (iSeq (fVar 4)) (gN 8) (fB (fBin (oEq true) (fRead "ParseError" (fCall 1 (F_parse_order ad) (fCons (fVar 8) fNil))) (fLst fNil))) (fVar 8) [8] (lwE a0 a1 a2 a3 (some (.d (.lst (badO.map Dat.str)))) none none none none none) M = .ok (.d (.lst [])) M :=
    lc_ok (xs := badO.map Dat.str) (μ1 := M) (by simp [lwE]) (by decide) key
  have e2 : oEq true (.lst []) (.lst []) = some (.bl false) := eq_nilL true []
  unfold lw3
  refine (sif_f (μ1 := M) ?_).trans rfl
  simp only [e_B, e_bin, hl, Res.bind_ok, e_lst, e_nil, e_datsOf0, List.length_nil, sizeE, Nat.zero_le, if_true, e_o2, e2, e_ofO, e_asB]
theorem lw4_ok (a4 : Option SV) : lw4 ad (lwE a0 a1 a2 a3 a4 none none none none none) M = .nx (lwE a0 a1 a2 a3 (some (.d (.lst (badK.map Dat.str)))) none none none none none) M := by
  unfold lw4
  exact (sset_ok (x := .d (.lst (badK.map Dat.str))) (μ1 := M) (by simp [sizeE, badK])).trans rfl
theorem lw5_ok : lw5 ad (lwE a0 a1 a2 a3 (some (.d (.lst (badK.map Dat.str)))) none none none none none) M = .nx (lwE a0 a1 a2 a3 (some (.d (.lst (badK.map Dat.str)))) none none none none none) M := by
  have hf := fit_bad (l := badK) (by decide +kernel)
  have key : lcGo (gN 8) (fB (fBin (oEq true) (fRead "ParseError" (fCall 1 (F_parse_keep ad) (fCons (fVar 8) fNil))) (fLst fNil))) (fVar 8) [a0, a1, a2, a3, some (.d (.lst (badK.map Dat.str))), none, none, none, none, none] M.length (badK.map Dat.str) M = .ok [] M := lc_none rfl fun x hx => by
    obtain ⟨t, ht, rfl⟩ := List.mem_map.mp hx
    have e := read_keep ad (hf t ht).1 (ρ := ⟨[a0, a1, a2, a3, some (.d (.lst (badK.map Dat.str))), none, none, none, some (.d (.str t)), none], M.length⟩) (μ := M) (i := 8) rfl
    rw [bad_keep t ht] at e
    have e2 : oEq true (readI none) (.lst []) = some (.bl false) := eq_nilL true []
    simp only [List.set_cons_succ, List.set_cons_zero, e_B, e_bin, e, Res.bind_ok, e_lst, e_nil, e_datsOf0, List.length_nil, sizeE, Nat.zero_le, if_true, e_o2, e2, e_ofO, e_asB]
  have hl : fLc (iSeq (fVar 4)) (gN 8) (fB (fBin (oEq true) (fRead "ParseError" (fCall 1 (F_parse_keep ad) (fCons (fVar 8) fNil))) (fLst fNil))) (fVar 8) [8] (lwE a0 a1 a2 a3 (some (.d (.lst (badK.map Dat.str)))) none none none none none) M = .ok (.d (.lst [])) M :=
    lc_ok (xs := badK.map Dat.str) (μ1 := M) (by simp [lwE]) (by decide) key
  have e2 : oEq true (.lst []) (.lst []) = some (.bl false) := eq_nilL true []
  unfold lw5
  refine (sif_f (μ1 := M) ?_).trans rfl
  simp only [e_B, e_bin, hl, Res.bind_ok, e_lst, e_nil, e_datsOf0, List.length_nil, sizeE, Nat.zero_le, if_true, e_o2, e2, e_ofO, e_asB]
theorem lw6_ok (a4 : Option SV) : lw6 ad (lwE a0 a1 a2 a3 a4 none none none none none) M = .nx (lwE a0 a1 a2 a3 a4 (some (.d (scD ad .odds))) (some (.d (scD ad (.classes 2)))) none none none) M := by
  have e1 := q_odds ad M
  have e2 := q_classes ad (k := 2) (by decide) (by decide) M
  unfold lw6
  simp only [Int.cast_ofNat_Int] at e2
  simp [lwE, e1, e2, sizeE]
theorem lw7_ok (a4 a5 a6 : Option SV) : lw7 ad (lwE a0 a1 a2 a3 a4 a5 a6 none none none) M = .nx (lwE a0 a1 a2 a3 (some (.d (.lst (badD.map Dat.str)))) a5 a6 none none none) M := by
  unfold lw7
  exact (sset_ok (x := .d (.lst (badD.map Dat.str))) (μ1 := M) (by simp [sizeE, badD])).trans rfl
theorem comp_bad (hn : (clsI ad).Nodup) (kd : Kd) {bad : List Str} (hb : ∀ t ∈ bad, amountIn kd t = none) (hf : ∀ t ∈ bad, Fit t ∧ t.length ≤ 120) (hl : bad.length ≤ 100) (j : Nat) (a5 a6 a7 : Option SV)
    (hj : ∀ t : Dat, ([a0, a1, a2, a3, some (.d (.lst (bad.map Dat.str))), a5, a6, a7, some (.d t), none] : List (Option SV))[j]? = some (some (.d (scD ad kd)))) :
    fLc (iSeq (fVar 4)) (gN 8) fYes (fRead "ParseError" (fCall 2 (F_parse_amount ad) (fCons (fVar j) (fCons (fVar 8) fNil)))) [8] (lwE a0 a1 a2 a3 (some (.d (.lst (bad.map Dat.str)))) a5 a6 a7 none none) M = .ok (.d (.lst (bad.map fun _ => .lst []))) M := by
  have key : lcGo (gN 8) fYes (fRead "ParseError" (fCall 2 (F_parse_amount ad) (fCons (fVar j) (fCons (fVar 8) fNil)))) [a0, a1, a2, a3, some (.d (.lst (bad.map Dat.str))), a5, a6, a7, none, none] M.length (bad.map Dat.str) M = .ok (bad.map fun _ => .lst []) M := lc_map _ _ rfl fun t ht => by
    have e := read_amount ad hn kd (hf t ht).1 (ρ := ⟨[a0, a1, a2, a3, some (.d (.lst (bad.map Dat.str))), a5, a6, a7, some (.d (.str t)), none], M.length⟩) (μ := M) (i := 8) (j := j) (hj _) rfl
    rw [hb t ht] at e
    exact e
  exact lc_ok (xs := bad.map Dat.str) (μ1 := M) (by simp [lwE]) (by rw [List.length_map]; omega) key
end
section
variable (a0 a1 a2 a3 : Option SV) (M : Mu)
theorem lw8_ok (hn : (clsI ad).Nodup) (a6 : Option SV) : lw8 ad (lwE a0 a1 a2 a3 (some (.d (.lst (badD.map Dat.str)))) (some (.d (scD ad .odds))) a6 none none none) M =
    .nx (lwE a0 a1 a2 a3 (some (.d (.lst (badD.map Dat.str)))) (some (.d (scD ad .odds))) a6 (some (.d (.lst (badD.map fun _ => .lst [])))) none none) M := by
  unfold lw8
  exact (sset_ok (x := .d (.lst (badD.map fun _ => .lst []))) (μ1 := M) (comp_bad ad a0 a1 a2 a3 M hn .odds bad_odds (fit_bad (by decide +kernel)) (by decide) 5 _ a6 none (fun t => rfl))).trans rfl
theorem lw9_ok (a4 a5 a6 a7 : Option SV) : lw9 ad (lwE a0 a1 a2 a3 a4 a5 a6 a7 none none) M = .nx (lwE a0 a1 a2 a3 (some (.d (.lst (badT.map Dat.str)))) a5 a6 a7 none none) M := by
  unfold lw9
  exact (sset_ok (x := .d (.lst (badT.map Dat.str))) (μ1 := M) (by simp [sizeE, badT])).trans rfl
theorem lw10_ok (hn : (clsI ad).Nodup) (a5 : Option SV) : lw10 ad (lwE a0 a1 a2 a3 (some (.d (.lst (badT.map Dat.str)))) a5 (some (.d (scD ad (.classes 2)))) (some (.d (.lst (badD.map fun _ => .lst [])))) none none) M =
    .nx (lwE a0 a1 a2 a3 (some (.d (.lst (badT.map Dat.str)))) a5 (some (.d (scD ad (.classes 2)))) (some (.d (.lst (List.replicate 13 (.lst []))))) none none) M := by
  have hc := comp_bad ad a0 a1 a2 a3 M hn (.classes 2) bad_two (fit_bad (by decide +kernel)) (by decide) 6 a5 (some (.d (scD ad (.classes 2)))) (some (.d (.lst (badD.map fun _ => .lst [])))) (fun t => rfl)
  have ea : oAdd (.lst (badD.map fun _ => .lst [])) (.lst (badT.map fun _ => .lst [])) = some (.lst (List.replicate 13 (.lst []))) := by
    show (if (badD.map fun _ => Dat.lst []).length + (badT.map fun _ => Dat.lst []).length ≤ sizeLine then some (Dat.lst ((badD.map fun _ => Dat.lst []) ++ badT.map fun _ => Dat.lst [])) else none) = _
    rw [if_pos (by decide)]
    rfl
  have ev : fVar 7 (lwE a0 a1 a2 a3 (some (.d (.lst (badT.map Dat.str)))) a5 (some (.d (scD ad (.classes 2)))) (some (.d (.lst (badD.map fun _ => .lst [])))) none none) M = .ok (.d (.lst (badD.map fun _ => .lst []))) M := rfl
  unfold lw10
  refine (sset_ok (x := .d (.lst (List.replicate 13 (.lst [])))) (μ1 := M) ?_).trans rfl
  simp only [e_bin, ev, Res.bind_ok, hc, e_o2, ea, e_ofO]
theorem lw11_ok (a4 a5 a6 : Option SV) : lw11 ad (lwE a0 a1 a2 a3 a4 a5 a6 (some (.d (.lst (List.replicate 13 (.lst []))))) none none) M = .nx (lwE a0 a1 a2 a3 a4 a5 a6 (some (.d (.lst (List.replicate 13 (.lst []))))) none none) M := by
  have e2 : oEq true (.lst []) (.lst []) = some (.bl false) := eq_nilL true []
  have key : lcGo (gN 9) (fB (fBin (oEq true) (fVar 9) (fLst fNil))) (fVar 9) [a0, a1, a2, a3, a4, a5, a6, some (.d (.lst (List.replicate 13 (.lst [])))), none, none] M.length (List.replicate 13 (.lst [])) M = .ok [] M := lc_none rfl fun x hx => by
    have hx' := (List.mem_replicate.mp hx).2
    subst hx'
    simp only [List.set_cons_succ, List.set_cons_zero, e_B, e_bin, e_var, List.getElem?_cons_succ, List.getElem?_cons_zero, Res.bind_ok, e_lst, e_nil, e_datsOf0, List.length_nil, sizeE, Nat.zero_le, if_true, e_o2, e2, e_ofO, e_asB]
  have hl : fLc (iSeq (fVar 7)) (gN 9) (fB (fBin (oEq true) (fVar 9) (fLst fNil))) (fVar 9) [9] (lwE a0 a1 a2 a3 a4 a5 a6 (some (.d (.lst (List.replicate 13 (.lst []))))) none none) M = .ok (.d (.lst [])) M :=
    lc_ok (xs := List.replicate 13 (.lst [])) (μ1 := M) rfl (by decide) key
  unfold lw11
  refine (sif_f (μ1 := M) ?_).trans rfl
  simp only [e_B, e_bin, hl, Res.bind_ok, e_lst, e_nil, e_datsOf0, List.length_nil, sizeE, Nat.zero_le, if_true, e_o2, e2, e_ofO, e_asB]
def lastD : Dat := .lst [.tup [.int 1, .int 3], .tup [.int (-1), .int 0], .str (A "0 199")]
theorem lw12b_ok (hn : (clsI ad).Nodup) (a4 a7 : Option SV) : lw12 ad (lwE a0 a1 a2 a3 a4 (some (.d (scD ad .odds))) (some (.d (scD ad (.classes 2)))) a7 none none) M = .nx (lwE a0 a1 a2 a3 a4 (some (.d (scD ad .odds))) (some (.d (scD ad (.classes 2)))) (some (.d lastD)) none none) M := by
  have f1 : Fit (A "1:3") := ⟨okS_of _, by decide +kernel⟩
  have f2 : Fit (A "-1/0") := ⟨okS_of _, by decide +kernel⟩
  have e1 := q_parse_amount ad hn .odds f1 M
  rw [good_odds] at e1
  have e2 := q_parse_amount ad hn (.classes 2) f2 M
  rw [good_two] at e2
  have e3 := q_format_keep ad (is := [0, 199]) ⟨fun i hi => by
    simp only [List.mem_cons, List.not_mem_nil, or_false] at hi
    rcases hi with rfl | rfl <;> exact int_fit (by decide) (by decide), by decide⟩ good_keep.2 M
  rw [good_keep.1] at e3
  simp only [ofE, amD, List.map_cons, List.map_nil, intsT] at e1 e2 e3
  unfold lw12
  refine (sset_ok (x := .d lastD) (μ1 := M) ?_).trans rfl
  generalize F_parse_amount ad = FP at e1 e2 ⊢
  generalize F_format_keep ad = FK at e3 ⊢
  simp [lwE, e1, e2, e3, sizeE, lastD]
theorem lw13_ok (a4 a5 a6 : Option SV) : lw13 ad (lwE a0 a1 a2 a3 a4 a5 a6 (some (.d lastD)) none none) M = .rt (.d (.bl true)) M := by
  have ok : OkD 2 lastD := okD_lst (n := 1) fun d hd => by
    simp only [List.mem_cons, List.not_mem_nil, or_false] at hd
    rcases hd with rfl | rfl | rfl
    · exact okI (is := [1, 3])
    · exact okI (is := [-1, 0])
    · exact okD_str (okS_of _)
  have e := eq_refl false ok (by decide)
  unfold lw13
  refine sret_ok ?_
  unfold lastD at e ⊢
  simp [lwE, negD, sizeE, e]
end
theorem plain (ad : Ad) (ns : List Int) (hn : (clsI ad).Nodup) (hl : ns.length ≤ 63) : F_law ad [.d (.scr ns)] [] = .ok (.d (.bl true)) [] := by
  obtain ⟨a1, a2, a3, M, e0⟩ := lw0_ok ad hn ns hl
  obtain ⟨a4, e1, e2⟩ := lw12_ok ad (some (.d (.scr ns))) a1 a2 a3 M
  refine (def_rt (g := m_law ad) (x := .d (.bl true)) (μ1 := M) ?_).trans (by rw [e_fin]; rfl)
  rw [lw_eq]
  exact (seq_nx e0).trans ((seq_nx e1).trans ((seq_nx e2).trans ((seq_nx (lw3_ok ad _ _ _ _ M)).trans ((seq_nx (lw4_ok ad _ _ _ _ M _)).trans ((seq_nx (lw5_ok ad _ _ _ _ M)).trans ((seq_nx (lw6_ok ad _ _ _ _ M _)).trans ((seq_nx (lw7_ok ad _ _ _ _ M _ _ _)).trans ((seq_nx (lw8_ok ad _ _ _ _ M hn _)).trans ((seq_nx (lw9_ok ad _ _ _ _ M _ _ _ _)).trans ((seq_nx (lw10_ok ad _ _ _ _ M hn _)).trans ((seq_nx (lw11_ok ad _ _ _ _ M _ _ _)).trans ((seq_nx (lw12b_ok ad _ _ _ _ M hn _ _)).trans (lw13_ok ad _ _ _ _ M _ _ _)))))))))))))
end M87

-- KA
/-! K87: the law from what it computes. -/
namespace M87
open PySem PySem.Spec PyProof.Rows L2 DL
/-- what is left: the plain law -/
def Plain : Prop := ∀ (ad : Ad) (ns : List Int), (clsI ad).Nodup → ns.length ≤ 63 → (∀ z ∈ ns, Builtin.Int.intBits z ≤ 1048576) → F_law ad [.d (.scr ns)] [] = .ok (.d (.bl true)) []
theorem tabs0 {T : List (Addr × Str)} {H : Hp} (h : ∀ p ∈ T, H p.1 = some (.tbl #[])) : LamX.Tabs T H := fun p hp => ⟨#[], h p hp, trivial, fun pos cv hc => by cases hc⟩
theorem sp_of {K : PySem.W.Frag} {mg : MG} {T : List (Addr × Str)} {Fn : FnM} {H : Hp} {a : Addr} {ns : List Int} {E : XK} (hT : ∀ p ∈ T, H p.1 = some (.tbl #[])) (hS : SqL K H a (ns.map V.int)) (h : Fn [.d (.scr ns)] [] = .ok (.d (.bl true)) []) :
    spD K mg T 1 Fn [.ref a] H (fun v _ => v = .bl true) E := by
  have go : ∀ F : Hp, (∀ b o, F b = some o → H b = some o) → (∀ b o, F b = some o → isT o = false) → (∀ b, F b ≠ none → H b ≠ none) → SqL K F a (ns.map V.int) → spD K mg T 1 Fn [.ref a] H (fun v _ => v = .bl true) E := fun F hs ht hn s => by
    refine ⟨rfl, [], [], F, [.d (.scr ns)], ⟨hs, rfl, fun i x e => ?_, rfl, fun k b o e => ?_, List.nodup_nil, ⟨fun b o e _ _ => e, tabs0 hT⟩, Le.refl F, fun b e => .inl e, ⟨[], rfl, fun b hb => by cases hb⟩, ht⟩, .cons (show Rp K F (.ref a) (.scr ns) from .scr ns s) .nil, ?_⟩
    · simp at e
    · simp at e
    · rw [h]
      intro ι' F' H' v J r
      exact (show Rp K F' v (.bl true) from r) |> fun r => by cases r; rfl
  rcases hS with hS | hS
  · refine go (fun b => if b = a then H a else none) (fun b o e => ?_) (fun b o e => ?_) (fun b e z => ?_) ?_
    · by_cases q : b = a
      · rw [if_pos q] at e; rw [q]; exact e
      · rw [if_neg q] at e; cases e
    · by_cases q : b = a
      · rw [if_pos q] at e
        rcases hS with hS | ⟨o', hS⟩
        · rw [hS] at e; cases e; rfl
        · rw [hS] at e; cases e; rfl
      · rw [if_neg q] at e; cases e
    · by_cases q : b = a
      · rw [q] at z; rw [if_pos q] at e; exact e z
      · rw [if_neg q] at e; exact e rfl
    · rcases hS with hS | ⟨o', hS⟩
      · exact .inl (.inl (by show (if a = a then H a else none) = _; rw [if_pos rfl]; exact hS))
      · exact .inl (.inr ⟨o', by show (if a = a then H a else none) = _; rw [if_pos rfl]; exact hS⟩)
  · exact go (fun _ => none) (fun _ _ e => by cases e) (fun _ _ e => by cases e) (fun _ e => absurd rfl e) (.inr hS)
end M87

-- KB
open PySem PySem.W PySem.Calls PyProof.Rows
theorem M87.holds (plain : M87.Plain) : PySem.Challenge.rw_mostkept_k87_texts_of_steps_and_keeps.Holds := by
  w_on; o_law
  refine HandSHeadRun.head_any (r := M87.RR) (q := M87.qv) (H := M87.hk) (ob := M87.ob) (M := 7000) (loose := M87.names) (d := HandSHeadRun.topDef M87.RR.prog 103) (kwd := []) M87.ob_eq
    (by kernel_rfl) (fun s => by kernel_rfl) M87.run (by kernel_rfl) (by kernel_rfl) (by kernel_rfl) (by rfl) (by first | assumption | decide +kernel) (by decide +kernel) ⟨rfl, rfl, rfl, rfl, rfl, by decide +kernel⟩ ?hw ?hc
  case hw => w_witness2
  case hc =>
    refine DE.walk_ofG (l := PySem.Challenge.rw_mostkept_k87_texts_of_steps_and_keeps) (n := 63) (k := 12) (x := Str.ofString "_law_script") rfl (by decide) (by kernel_rfl) ⟨rfl, by decide, by decide⟩ ?F
    intro w mg fa h Y G hmg0
    obtain ⟨K, KX, c⟩ := Y
    have hmg : mg (Str.ofString "law") = some (.ref fa) := by
      have e : (HandSHeadRun.topDef M87.RR.prog 103).name = Str.ofString "law" := by kernel_rfl
      rw [← e]
      exact hmg0
    obtain ⟨fd, FL, hF⟩ := M87.facts_of (P := (PySem.Challenge.rw_mostkept_k87_texts_of_steps_and_keeps).prog) (w := w) KX G c
    have ef : fa = He.ga K (Str.ofString "law") := PySem.Value.ref.inj (Option.some.inj (hmg.symm.trans (M87.glo_law KX G c)))
    subst ef
    have b := L2.FunD.bindsA (ps := [Str.ofString "_law_script"]) FL fun _ _ _ _ _ _ us hl => match us, hl with | [_], _ => rfl
    have tab : ∀ p ∈ M87.tf.map (He.cT K), ∃ d ∈ M87.tf, p = He.cT K d := fun p hp => by
      obtain ⟨d, hd, e⟩ := List.mem_map.mp hp
      exact ⟨d, hd, e.symm⟩
    refine ⟨K, fd, M87.tf.map (He.cT K), DL.spD K mg (M87.TT K) 1 (M87.F_law (M87.AD K)), KX, fun p hp => ?_, fun p hp => ?_, fun p hp => ?_, fun s v => b s [v] rfl, fun H a ns hl hbits hH hS => ?_, fun base Y2 _ TB => ?_⟩
    · obtain ⟨d, hd, rfl⟩ := tab p hp
      exact c.empty d hd
    · obtain ⟨d, hd, rfl⟩ := tab p hp
      exact c.out d hd
    · obtain ⟨d, hd, rfl⟩ := tab p hp
      exact PySem.W.codeHd_of_K KX (c.hd d hd)
    · refine M87.sp_of (fun p hp => ?_) hS (plain _ ns (M87.nd_of c) hl hbits)
      have hm : ∃ q ∈ M87.tf.map (He.cT K), p.1 = q.2 := by
        simp only [M87.TT, List.mem_cons, List.not_mem_nil, or_false] at hp
        rcases hp with rfl | rfl | rfl | rfl <;> exact ⟨_, List.mem_map_of_mem (by simp [M87.tf]), rfl⟩
      obtain ⟨q, hq, e⟩ := hm
      rw [e]
      exact hH q hq
    · obtain ⟨FA, e1, e2, e3⟩ := hF base Y2 fun p hp => TB _ (List.mem_map_of_mem hp)
      have z := M87.ok_law FA
      rw [e1, e2, e3] at z
      exact z
open PySem PySem.W PyProof.Rows
theorem PySem.Challenge.cw_mostkept_k87_texts_of_steps_and_keeps_holds : PySem.Challenge.rw_mostkept_k87_texts_of_steps_and_keeps.Holds := by
  exact M87.holds fun ad ns hn hl _ => M87.plain ad ns hn hl
