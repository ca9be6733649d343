import PyProof.Rows.All
import Wide.All
import OpenK.AllK
import Wide.FinOn
import HandS.ForMost
import HandS.ForExc
import HandS.Lambda
import HandS.TupMul
import HandS.TupAny
import HandS.TupLe
import HandS.Deep
import HandS.Style
import HandS.Flow
import HandS.Dict
import HandS.Text
import HandS.IsInst
import HandS.SortInts
import HandS.SortRule
import HandS.More
import HandS.TupLen
import HandS.SetFor
import HandS.WordsExc
import HandS.Zip
import HandS.Comp
import HandS.NoneIn
import HandS.Small
import HandS.Strs
import HandS.Conv
import HandS.ExcIs
import HandS.HotCalls
import HandS.EndOwn
import HandS.EndTab
import HandS.CallLocal
import PyProof.ReprRoads
import PyProof.StrLawsRepr
import HandS.SortOrd
import KE.KDictSum
import PySem.Challenge.RW_leaprings_k73_shapes_and_homes
set_option Elab.async false
set_option linter.all false
set_option maxRecDepth 100000
namespace Pd
open PySem PySem.Spec L2

inductive D where
  | non | bl (b : Bool) | int (i : Int) | str (x : Str) | tup (ds : List D) | lst (ds : List D) | dct (kvs : List (D × D))
  | set (ns : List Int) | scr (ns : List Int) | ref (a : Addr) | ty (n : String)

inductive R (α : Type) where
  | stuck | ok (a : α) | err (n : Str)
namespace R
variable {α β : Type}
def bind (r : R α) (f : α → R β) : R β := match r with
  | stuck => stuck
  | ok a => f a
  | err n => err n
def post (r : R α) (P : α → Prop) (E : Str → Prop) : Prop := match r with
  | stuck => False
  | ok a => P a
  | err n => E n
theorem post_bind {r : R α} {f : α → R β} {P : β → Prop} {E : Str → Prop} (h : (r.bind f).post P E) : r.post (fun a => (f a).post P E) E := by
  cases r <;> exact h
theorem post_mono {r : R α} {P P' : α → Prop} {E E' : Str → Prop} (h : r.post P E) (hp : ∀ a, r = .ok a → P a → P' a) (he : ∀ n, E n → E' n) : r.post P' E' := by
  cases r with
  | stuck => exact h
  | ok a => exact hp a rfl h
  | err n => exact he n h
theorem post_imp {r : R α} {P P' : α → Prop} {E : Str → Prop} (h : r.post P E) (hp : ∀ a, P a → P' a) : r.post P' E := post_mono h (fun a _ => hp a) fun _ x => x
end R

def keyD : Key → D
  | .inl i => .int i
  | .inr x => .str x
def keyT (ks : List Key) : D := .tup (ks.map keyD)

mutual
/-- the value v is the data d, all of whose objects stand in F -/
inductive Rep (K : PySem.W.Frag) (F : Hp) : V → D → Prop where
  | non : Rep K F .non .non
  | bl (b : Bool) : Rep K F (.bl b) (.bl b)
  | int (i : Int) : Rep K F (.int i) (.int i)
  | str (x : Str) : Rep K F (.str x) (.str x)
  | ref (a : Addr) : Rep K F (.ref a) (.ref a)
  | ty (n : String) : Rep K F (.ty n) (.ty n)
  | tup {a : Addr} {xs : List V} {ds : List D} : F a = some (.tup xs) → Reps K F xs ds → ds.length ≤ sizeLine → Rep K F (.ref a) (.tup ds)
  | lst {a : Addr} {xs : List V} {ds : List D} : F a = some (.lst xs) → Reps K F xs ds → ds.length ≤ sizeLine → Rep K F (.ref a) (.lst ds)
  | dctK {a : Addr} {kvs : List (Key × V)} {ds : List (D × D)} : F a = some (.dK kvs) → RepK K F kvs ds → ds.length ≤ sizeLine → Rep K F (.ref a) (.dct ds)
  | dctT {a : Addr} {kvs : List (List Key × V)} {ds : List (D × D)} : F a = some (.dT kvs) → RepT K F kvs ds → ds.length ≤ sizeLine → Rep K F (.ref a) (.dct ds)
  | scr {a : Addr} {ns : List Int} : SqL K F a (ns.map V.int) → ns.length ≤ sizeLine → Rep K F (.ref a) (.scr ns)
inductive Reps (K : PySem.W.Frag) (F : Hp) : List V → List D → Prop where
  | nil : Reps K F [] []
  | cons {v : V} {d : D} {vs : List V} {ds : List D} : Rep K F v d → Reps K F vs ds → Reps K F (v :: vs) (d :: ds)
inductive RepK (K : PySem.W.Frag) (F : Hp) : List (Key × V) → List (D × D) → Prop where
  | nil : RepK K F [] []
  | cons {k : Key} {v : V} {d : D} {vs : List (Key × V)} {ds : List (D × D)} : Rep K F v d → RepK K F vs ds → RepK K F ((k, v) :: vs) ((keyD k, d) :: ds)
inductive RepT (K : PySem.W.Frag) (F : Hp) : List (List Key × V) → List (D × D) → Prop where
  | nil : RepT K F [] []
  | cons {k : List Key} {v : V} {d : D} {vs : List (List Key × V)} {ds : List (D × D)} : Rep K F v d → RepT K F vs ds → RepT K F ((k, v) :: vs) ((keyT k, d) :: ds)
end

section
variable {K : PySem.W.Frag} {F F' H H' : Hp}
theorem Same.rd {a : Addr} {u : HO} (e : Same F F') (h : Rd F a u) : Rd F' a u := by
  rcases h with h | ⟨o, h⟩
  · exact .inl (e _ _ h)
  · exact .inr ⟨o, e _ _ h⟩
mutual
theorem Rep.mono (e : Same F F') : ∀ {v : V} {d : D}, Rep K F v d → Rep K F' v d
  | _, _, .non => .non
  | _, _, .bl b => .bl b
  | _, _, .int i => .int i
  | _, _, .str x => .str x
  | _, _, .ref a => .ref a
  | _, _, .ty n => .ty n
  | _, _, .tup h r l => .tup (e _ _ h) (Reps.mono e r) l
  | _, _, .lst h r l => .lst (e _ _ h) (Reps.mono e r) l
  | _, _, .dctK h r l => .dctK (e _ _ h) (RepK.mono e r) l
  | _, _, .dctT h r l => .dctT (e _ _ h) (RepT.mono e r) l
  | _, _, .scr h l => .scr (e.seq h) l
theorem Reps.mono (e : Same F F') : ∀ {vs : List V} {ds : List D}, Reps K F vs ds → Reps K F' vs ds
  | _, _, .nil => .nil
  | _, _, .cons r t => .cons (Rep.mono e r) (Reps.mono e t)
theorem RepK.mono (e : Same F F') : ∀ {vs : List (Key × V)} {ds : List (D × D)}, RepK K F vs ds → RepK K F' vs ds
  | _, _, .nil => .nil
  | _, _, .cons r t => .cons (Rep.mono e r) (RepK.mono e t)
theorem RepT.mono (e : Same F F') : ∀ {vs : List (List Key × V)} {ds : List (D × D)}, RepT K F vs ds → RepT K F' vs ds
  | _, _, .nil => .nil
  | _, _, .cons r t => .cons (Rep.mono e r) (RepT.mono e t)
end

theorem Reps.length : ∀ {vs : List V} {ds : List D}, Reps K F vs ds → vs.length = ds.length
  | _, _, .nil => rfl
  | _, _, .cons _ t => by rw [List.length_cons, List.length_cons, Reps.length t]
theorem RepK.length : ∀ {vs : List (Key × V)} {ds : List (D × D)}, RepK K F vs ds → vs.length = ds.length
  | _, _, .nil => rfl
  | _, _, .cons _ t => by rw [List.length_cons, List.length_cons, RepK.length t]
theorem RepT.length : ∀ {vs : List (List Key × V)} {ds : List (D × D)}, RepT K F vs ds → vs.length = ds.length
  | _, _, .nil => rfl
  | _, _, .cons _ t => by rw [List.length_cons, List.length_cons, RepT.length t]
theorem Reps.append : ∀ {vs ws : List V} {ds es : List D}, Reps K F vs ds → Reps K F ws es → Reps K F (vs ++ ws) (ds ++ es)
  | _, _, _, _, .nil, s => s
  | _, _, _, _, .cons r t, s => .cons r (Reps.append t s)
theorem Reps.get : ∀ {vs : List V} {ds : List D} {i : Nat} {d : D}, Reps K F vs ds → ds[i]? = some d → ∃ v, vs[i]? = some v ∧ Rep K F v d
  | _, _, _, _, .nil, e => by simp at e
  | _, _, 0, _, .cons r _, e => by simp at e; subst e; exact ⟨_, rfl, r⟩
  | _, _, i + 1, d, .cons _ t, e => by
    obtain ⟨v, h1, h2⟩ := Reps.get (i := i) (d := d) t (by simpa using e)
    exact ⟨v, by simpa using h1, h2⟩
theorem Reps.set {v : V} {d : D} (r : Rep K F v d) : ∀ {vs : List V} {ds : List D} (i : Nat), Reps K F vs ds → Reps K F (vs.set i v) (ds.set i d)
  | _, _, _, .nil => .nil
  | _, _, 0, .cons _ t => .cons r t
  | _, _, i + 1, .cons q t => .cons q (Reps.set r i t)
theorem Reps.take : ∀ {vs : List V} {ds : List D} (n : Nat), Reps K F vs ds → Reps K F (vs.take n) (ds.take n)
  | _, _, 0, _ => .nil
  | _, _, _ + 1, .nil => .nil
  | _, _, n + 1, .cons r t => .cons r (Reps.take n t)
theorem Reps.drop : ∀ {vs : List V} {ds : List D} (n : Nat), Reps K F vs ds → Reps K F (vs.drop n) (ds.drop n)
  | _, _, 0, r => r
  | _, _, _ + 1, .nil => .nil
  | _, _, n + 1, .cons _ t => Reps.drop n t
theorem Reps.ints : ∀ ns : List Int, Reps K F (ns.map V.int) (ns.map D.int)
  | [] => .nil
  | n :: r => .cons (.int n) (Reps.ints r)
theorem Reps.ints_of : ∀ {ns : List Int} {vs : List V}, Reps K F vs (ns.map D.int) → vs = ns.map V.int
  | [], _, .nil => rfl
  | n :: r, _, .cons (.int _) t => by rw [Reps.ints_of (ns := r) t]; rfl
theorem Reps.bls_of : ∀ {ns : List Bool} {vs : List V}, Reps K F vs (ns.map D.bl) → vs = ns.map V.bl
  | [], _, .nil => rfl
  | n :: r, _, .cons (.bl _) t => by rw [Reps.bls_of (ns := r) t]; rfl
end

structure Fz (T : List (Addr × Str)) where
  fn : Hp
instance {T : List (Addr × Str)} : CoeFun (Fz T) fun _ => Hp := ⟨Fz.fn⟩
instance {T : List (Addr × Str)} : CoeOut (Fz T) Hp := ⟨Fz.fn⟩
structure Ex (T : List (Addr × Str)) where
  e : XK
instance {T : List (Addr × Str)} : CoeFun (Ex T) fun _ => XK := ⟨Ex.e⟩
def updF (F : Fz T) (p : Addr) (o : HO) : Fz T := ⟨upd F.fn p o⟩
theorem updF_same {F : Fz T} {p : Addr} {o : HO} : updF F p o p = some o := upd_same
theorem updF_ne {F : Fz T} {p q : Addr} {o : HO} (h : q ≠ p) : updF F p o q = F q := upd_ne h
def noT (o : HO) : Prop := ∀ ps, o ≠ .tbl ps
def Ext (H H' : Hp) : Prop := ∀ a o, H a = some o → noT o → H' a = some o
theorem Ext.refl (H : Hp) : Ext H H := fun _ _ h _ => h
theorem Ext.trans {H H' H'' : Hp} (a : Ext H H') (b : Ext H' H'') : Ext H H'' := fun c o h n => b c o (a c o h n) n
theorem Ext.of {H H' : Hp} (s : Same H H') : Ext H H' := fun a o h _ => s a o h
def Fre (H : Hp) (p : Addr) : Prop := ∀ o, H p = some o → ¬ noT o
theorem Fre.of {H : Hp} {p : Addr} (h : H p = none) : Fre H p := fun o e => by rw [h] at e; cases e
theorem Fre.back {H H' : Hp} {p : Addr} (h : Fre H' p) (e : Ext H H') : Fre H p := fun o q n => h o (e _ _ q n) n
def isDct : HO → Bool
  | .dK _ => true
  | .dT _ => true
  | _ => false
structure Sub (F : Fz T) (H : Hp) : Prop where
  at_ : ∀ a o, F a = some o → H a = some o ∨ (isDct o = true ∧ ∃ x, H a = some (.frz x o))
  nt : ∀ a ps, F a ≠ some (.tbl ps)
  tb : LamX.Tabs T H
theorem Sub.lst {F : Fz T} {H : Hp} (s : Sub F H) {a : Addr} {xs : List V} (e : F a = some (.lst xs)) : H a = some (.lst xs) := (s.at_ a _ e).elim id fun h => by cases h.1
theorem Sub.tup {F : Fz T} {H : Hp} (s : Sub F H) {a : Addr} {xs : List V} (e : F a = some (.tup xs)) : H a = some (.tup xs) := (s.at_ a _ e).elim id fun h => by cases h.1
theorem Sub.rd {F : Fz T} {H : Hp} (s : Sub F H) {a : Addr} {o : HO} (e : F a = some o) : Rd H a o := (s.at_ a _ e).elim .inl fun h => .inr h.2
theorem Sub.seq {K : PySem.W.Frag} {F : Fz T} {H : Hp} (s : Sub F H) {a : Addr} {xs : List V} (h : SqL K F a xs) : SqL K H a xs := by
  rcases h with (h | ⟨o, h⟩) | h
  · exact .inl (.inl (s.lst h))
  · rcases s.at_ _ _ h with q | ⟨q, _⟩
    · exact .inl (.inr ⟨o, q⟩)
    · cases q
  · exact .inr h
theorem Sub.free {F : Fz T} {H : Hp} (s : Sub F H) {a : Addr} (e : H a = none) : F a = none := by
  cases q : F a with
  | none => rfl
  | some o =>
    rcases s.at_ a o q with h | ⟨_, x, h⟩
    · rw [e] at h; cases h
    · rw [e] at h; cases h
theorem Sub.on {F : Fz T} {H H' : Hp} (s : Sub F H) (e : Same H H') : Sub F H' := ⟨fun a o q => (s.at_ a o q).imp (e _ _) fun ⟨h, x, h'⟩ => ⟨h, x, e _ _ h'⟩, s.nt, s.tb.ext e⟩
def plO (o : HO) : Prop := (∀ ps, o ≠ .tbl ps) ∧ ∀ f, o ≠ .ext f
theorem tabs_upd {T : List (Addr × Str)} {H : Hp} {p : Addr} {o u : HO} (t : LamX.Tabs T H) (e : H p = some o) (n : plO o) : LamX.Tabs T (upd H p u) := fun q hq => by
  obtain ⟨ps, h1, h2, h3⟩ := t q hq
  refine ⟨ps, ?_, h2, fun pos cv hc => ?_⟩
  · rw [upd_ne (fun z => by rw [z, e] at h1; exact n.1 _ (Option.some.inj h1))]; exact h1
  · obtain ⟨c, e1, e2⟩ := h3 pos cv hc
    refine ⟨c, e1, ?_⟩
    rw [upd_ne (fun z => by rw [z, e] at e2; exact n.2 _ (Option.some.inj e2))]; exact e2
theorem Sub.upd {F : Fz T} {H : Hp} {p : Addr} {o u : HO} (s : Sub F H) (e : H p = some o) (n : plO o) (nF : F p = none) : Sub F (L2.upd H p u) :=
  ⟨fun b v q => by rw [upd_ne (fun z => by rw [z, nF] at q; cases q)]; exact s.at_ _ _ q, s.nt, tabs_upd s.tb e n⟩
inductive OwnAt (K : PySem.W.Frag) (F H : Hp) (p : Addr) : D → Prop where
  | lst {xs : List V} {ds : List D} : H p = some (.lst xs) → Reps K F xs ds → ds.length ≤ sizeLine → OwnAt K F H p (.lst ds)
  | dctK {kvs : List (Key × V)} {ds : List (D × D)} : H p = some (.dK kvs) → RepK K F kvs ds → ds.length ≤ sizeLine → OwnAt K F H p (.dct ds)
  | dctT {kvs : List (List Key × V)} {ds : List (D × D)} : H p = some (.dT kvs) → RepT K F kvs ds → ds.length ≤ sizeLine → OwnAt K F H p (.dct ds)
  | set {ns : List Int} : H p = some (.set (fun i => decide (i ∈ ns)) ns.eraseDups.length) → OwnAt K F H p (.set ns)

inductive Cont (K : PySem.W.Frag) (F H : Hp) : V → D → Prop where
  | rep {v : V} {d : D} : Rep K F v d → Cont K F H v d
  | own {p : Addr} {d : D} : OwnAt K F H p d → Cont K F H (.ref p) d

theorem Same.keep {H H' : Hp} {p : Addr} (e : Same H H') (h : H p ≠ none) : H' p = H p := by
  cases q : H p with
  | none => exact absurd q h
  | some o => exact e _ _ q
section
variable {K : PySem.W.Frag} {F F' F'' : Hp} {H H' H'' : Hp} {p : Addr} {d : D} {v : V}
theorem OwnAt.there (h : OwnAt K F H p d) : ∃ o, H p = some o ∧ noT o := by
  cases h with
  | lst h _ _ => exact ⟨_, h, fun _ z => nomatch z⟩
  | dctK h _ _ => exact ⟨_, h, fun _ z => nomatch z⟩
  | dctT h _ _ => exact ⟨_, h, fun _ z => nomatch z⟩
  | set h => exact ⟨_, h, fun _ z => nomatch z⟩
theorem OwnAt.pl (h : OwnAt K F H p d) : ∃ o, H p = some o ∧ plO o := by
  cases h with
  | lst h _ _ => exact ⟨_, h, (fun _ z => nomatch z), fun _ z => nomatch z⟩
  | dctK h _ _ => exact ⟨_, h, (fun _ z => nomatch z), fun _ z => nomatch z⟩
  | dctT h _ _ => exact ⟨_, h, (fun _ z => nomatch z), fun _ z => nomatch z⟩
  | set h => exact ⟨_, h, (fun _ z => nomatch z), fun _ z => nomatch z⟩
theorem OwnAt.fre (h : OwnAt K F H p d) (f : Fre H p) : False := let ⟨_, e, n⟩ := h.there; f _ e n
theorem OwnAt.mono (h : OwnAt K F H p d) (e : Same F F') (k : H' p = H p) : OwnAt K F' H' p d := by
  cases h with
  | lst h r l => exact .lst (k.trans h) (r.mono e) l
  | dctK h r l => exact .dctK (k.trans h) (r.mono e) l
  | dctT h r l => exact .dctT (k.trans h) (r.mono e) l
  | set h => exact .set (k.trans h)
theorem OwnAt.ext (h : OwnAt K F H p d) (e : Same F F') (k : Ext H H') : OwnAt K F' H' p d := by
  obtain ⟨o, q, n⟩ := h.there
  exact h.mono e ((k _ _ q n).trans q.symm)
end
section
variable {K : PySem.W.Frag} {F F' F'' : Fz T} {H H' H'' : Hp} {p : Addr} {d : D} {v : V}
structure Grow (F : Fz T) (H : Hp) (F' : Fz T) (H' : Hp) : Prop where
  hh : Ext H H'
  ff : Same F F'
  sub : Sub F' H'
  old : ∀ a o, H a = some o → noT o → F' a = F a
theorem Grow.refl (s : Sub F H) : Grow F H F H := ⟨Ext.refl _, Same.refl _, s, fun _ _ _ _ => rfl⟩
theorem Grow.trans (a : Grow F H F' H') (b : Grow F' H' F'' H'') : Grow F H F'' H'' :=
  ⟨a.hh.trans b.hh, a.ff.trans b.ff, b.sub, fun c o h n => (b.old c o (a.hh c o h n) n).trans (a.old c o h n)⟩
theorem OwnAt.grow (h : OwnAt K F H p d) (g : Grow F H F' H') : OwnAt K F' H' p d := h.ext g.ff g.hh
theorem Cont.grow (h : Cont K F H v d) (g : Grow F H F' H') : Cont K F' H' v d := by
  cases h with
  | rep r => exact .rep (r.mono g.ff)
  | own o => exact .own (o.grow g)
theorem same_new {o : HO} (n : H p = none) : Same H (upd H p o) := fun b u e => by rw [upd_ne (ne_of_none e n)]; exact e
theorem Grow.newF {a : Addr} {o : HO} (s : Sub F H) (n : H a = none) (ho : noT o) : Grow F H (updF F a o) (upd H a o) := by
  have nF : F a = none := s.free n
  have z : Same H (upd H a o) := same_new n
  refine ⟨.of z, same_new nF, ⟨fun b u e => ?_, fun b ps e => ?_, s.tb.ext z⟩, fun b u h _ => ?_⟩
  · by_cases hb : b = a
    · subst hb
      rw [updF_same] at e
      rw [upd_same]; exact .inl e
    · rw [updF_ne hb] at e
      rw [upd_ne hb]; exact s.at_ _ _ e
  · by_cases hb : b = a
    · subst hb
      rw [updF_same] at e
      exact ho ps (Option.some.inj e)
    · rw [updF_ne hb] at e
      exact s.nt b ps e
  · have hb : b ≠ a := fun e => by rw [e, n] at h; cases h
    exact updF_ne hb
theorem Grow.newO {a : Addr} {o : HO} (s : Sub F H) (n : H a = none) : Grow F H F (upd H a o) := by
  have z : Same H (upd H a o) := same_new n
  exact ⟨.of z, Same.refl _, s.on z, fun _ _ _ _ => rfl⟩
theorem Grow.freeze {G : Fz T} {J : Hp} {o : HO} (g : Grow G J F H) (nJ : Fre J p) (e : H p = some o ∨ (isDct o = true ∧ ∃ x, H p = some (.frz x o))) (ho : noT o) (n : F p = none) : Grow G J (updF F p o) H := by
  refine ⟨g.hh, fun b u q => ?_, ⟨fun b u q => ?_, fun b ps q => ?_, g.sub.tb⟩, fun b u h nt => ?_⟩
  · have q' := g.ff _ _ q
    show updF F p o b = _
    rw [updF_ne (ne_of_none q' n)]; exact q'
  · by_cases hb : b = p
    · subst hb; rw [updF_same] at q; cases q; exact e
    · rw [updF_ne hb] at q; exact g.sub.at_ _ _ q
  · by_cases hb : b = p
    · subst hb; rw [updF_same] at q; exact ho ps (Option.some.inj q)
    · rw [updF_ne hb] at q; exact g.sub.nt _ _ q
  · have hb : b ≠ p := fun z => by subst z; exact nJ u h nt
    rw [updF_ne hb]; exact g.old _ u h nt
theorem OwnAt.frozen (h : OwnAt K F H p d) (n : F p = none) (hd : ∀ ns, d ≠ .set ns) : ∃ o, (H p = some o ∨ (isDct o = true ∧ ∃ x, H p = some (.frz x o))) ∧ noT o ∧ Rep K (updF F p o) (.ref p) d := by
  cases h with
  | lst h r l => exact ⟨_, .inl h, (fun _ z => nomatch z), .lst updF_same (r.mono (same_new n)) l⟩
  | dctK h r l => exact ⟨_, .inl h, (fun _ z => nomatch z), .dctK updF_same (r.mono (same_new n)) l⟩
  | dctT h r l => exact ⟨_, .inl h, (fun _ z => nomatch z), .dctT updF_same (r.mono (same_new n)) l⟩
  | set h => exact absurd rfl (hd _)
end

inductive Sl where
  | un | val (d : D) | own (d : D) | bor (d : D)
abbrev Gm := List Sl
def SlOk (K : PySem.W.Frag) (H0 F H : Hp) (o : Option V) : Sl → Prop
  | .un => True
  | .val d => ∃ v, o = some v ∧ Rep K F v d
  | .own d => ∃ p, o = some (.ref p) ∧ Fre H0 p ∧ F p = none ∧ OwnAt K F H p d
  | .bor d => ∃ p, o = some (.ref p) ∧ OwnAt K F H0 p d

structure EnvOk (K : PySem.W.Frag) (F0 : Fz T) (H0 : Hp) (F : Fz T) (H : Hp) (σ : St) (Γ : Gm) : Prop where
  hH : Ext H0 H
  hF : Same F0 F
  sub : Sub F H
  old : ∀ a o, H0 a = some o → noT o → F a = F0 a
  len : σ.length = Γ.length
  slot : ∀ (i : Nat) (s : Sl), Γ[i]? = some s → SlOk K H0 F H (σ.getD i none) s
  apart : ∀ (i j : Nat) (p : Addr) (d e : D), Γ[i]? = some (.own d) → Γ[j]? = some (.own e) → σ.getD i none = some (.ref p) → σ.getD j none = some (.ref p) → i = j

section
variable {K : PySem.W.Frag} {F0 F F' : Fz T} {H0 H H' : Hp} {σ : St} {Γ : Gm}
theorem SlOk.grow {o : Option V} {s : Sl} (h : SlOk K H0 F H o s) (g : Grow F H F' H') : SlOk K H0 F' H' o s := by
  cases s with
  | un => trivial
  | val d => obtain ⟨v, e, r⟩ := h; exact ⟨v, e, r.mono g.ff⟩
  | own d =>
    obtain ⟨p, e, n0, nF, ow⟩ := h
    obtain ⟨u, q, n⟩ := ow.there
    exact ⟨p, e, n0, (g.old p u q n).trans nF, ow.grow g⟩
  | bor d =>
    obtain ⟨p, e, ow⟩ := h
    exact ⟨p, e, ow.mono g.ff rfl⟩
theorem EnvOk.grow (I : EnvOk K F0 H0 F H σ Γ) (g : Grow F H F' H') : EnvOk K F0 H0 F' H' σ Γ :=
  ⟨I.hH.trans g.hh, I.hF.trans g.ff, g.sub, fun a o h n => (g.old a o (I.hH a o h n) n).trans (I.old a o h n), I.len,
    fun i s e => (I.slot i s e).grow g, I.apart⟩
theorem EnvOk.all (I : EnvOk K F0 H0 F H σ Γ) : Grow F0 H0 F H := ⟨I.hH, I.hF, I.sub, I.old⟩
theorem EnvOk.setVal {i : Nat} {v : V} {d : D} (I : EnvOk K F0 H0 F H σ Γ) (r : Rep K F v d) : EnvOk K F0 H0 F H (σ.set i (some v)) (Γ.set i (.val d)) := by
  refine ⟨I.hH, I.hF, I.sub, I.old, by simp [I.len], fun j s e => ?_, fun j k p d1 d2 e1 e2 q1 q2 => ?_⟩
  · by_cases hj : i = j
    · subst hj
      have hl : i < Γ.length := by
        rw [List.getElem?_eq_some_iff] at e; obtain ⟨h, _⟩ := e; simpa using h
      rw [List.getElem?_set_self hl] at e
      cases e
      refine ⟨v, ?_, r⟩
      rw [List.getD_eq_getElem?_getD, List.getElem?_set_self (by rw [I.len]; exact hl)]
      rfl
    · rw [List.getElem?_set_ne hj] at e
      have := I.slot j s e
      rw [List.getD_eq_getElem?_getD] at this ⊢
      rw [List.getElem?_set_ne hj]; exact this
  · have hj : i ≠ j := by
      rintro rfl
      have hl : i < Γ.length := by
        rw [List.getElem?_eq_some_iff] at e1; obtain ⟨h, _⟩ := e1; simpa using h
      rw [List.getElem?_set_self hl] at e1; cases e1
    have hk : i ≠ k := by
      rintro rfl
      have hl : i < Γ.length := by
        rw [List.getElem?_eq_some_iff] at e2; obtain ⟨h, _⟩ := e2; simpa using h
      rw [List.getElem?_set_self hl] at e2; cases e2
    rw [List.getElem?_set_ne hj] at e1
    rw [List.getElem?_set_ne hk] at e2
    rw [List.getD_eq_getElem?_getD, List.getElem?_set_ne hj, ← List.getD_eq_getElem?_getD] at q1
    rw [List.getD_eq_getElem?_getD, List.getElem?_set_ne hk, ← List.getD_eq_getElem?_getD] at q2
    exact I.apart j k p d1 d2 e1 e2 q1 q2
theorem getD_set_ne {α : Type} {l : List α} {i j : Nat} {a x : α} (h : i ≠ j) : (l.set i a).getD j x = l.getD j x := by
  rw [List.getD_eq_getElem?_getD, List.getElem?_set_ne h, ← List.getD_eq_getElem?_getD]
theorem getD_set_self {α : Type} {l : List α} {i : Nat} {a x : α} (h : i < l.length) : (l.set i a).getD i x = a := by
  rw [List.getD_eq_getElem?_getD, List.getElem?_set_self h]; rfl
theorem lt_of_get {α : Type} {l : List α} {i : Nat} {a : α} (h : l[i]? = some a) : i < l.length := by
  rw [List.getElem?_eq_some_iff] at h; exact h.1
theorem EnvOk.setOwn {i : Nat} {p : Addr} {d : D} (I : EnvOk K F0 H0 F H σ Γ) (n0 : Fre H0 p) (nF : F p = none) (o : OwnAt K F H p d)
    (no : ∀ (j : Nat) (e : D), Γ[j]? = some (.own e) → j ≠ i → σ.getD j none ≠ some (.ref p)) : EnvOk K F0 H0 F H (σ.set i (some (.ref p))) (Γ.set i (.own d)) := by
  refine ⟨I.hH, I.hF, I.sub, I.old, by simp [I.len], fun j s e => ?_, fun j k q d1 d2 e1 e2 q1 q2 => ?_⟩
  · by_cases hj : i = j
    · subst hj
      have hl : i < Γ.length := by have := lt_of_get e; simpa using this
      rw [List.getElem?_set_self hl] at e
      cases e
      exact ⟨p, getD_set_self (by rw [I.len]; exact hl), n0, nF, o⟩
    · rw [List.getElem?_set_ne hj] at e
      rw [getD_set_ne hj]; exact I.slot j s e
  · by_cases hj : i = j
    · subst hj
      by_cases hk : i = k
      · exact hk
      · have hl : i < Γ.length := by have := lt_of_get e1; simpa using this
        rw [List.getElem?_set_ne hk] at e2
        rw [getD_set_ne hk] at q2
        rw [getD_set_self (by rw [I.len]; exact hl)] at q1
        cases q1
        exact absurd q2 (no k d2 e2 (Ne.symm hk))
    · rw [List.getElem?_set_ne hj] at e1
      rw [getD_set_ne hj] at q1
      by_cases hk : i = k
      · subst hk
        have hl : i < Γ.length := by have := lt_of_get e2; simpa using this
        rw [getD_set_self (by rw [I.len]; exact hl)] at q2
        cases q2
        exact absurd q1 (no j d1 e1 (Ne.symm hj))
      · rw [List.getElem?_set_ne hk] at e2
        rw [getD_set_ne hk] at q2
        exact I.apart j k q d1 d2 e1 e2 q1 q2
theorem EnvOk.setUn {i : Nat} {o : Option V} (I : EnvOk K F0 H0 F H σ Γ) : EnvOk K F0 H0 F H (σ.set i o) (Γ.set i .un) := by
  have ne : ∀ {j : Nat} {d : D}, (Γ.set i .un)[j]? = some (.own d) → i ≠ j := fun {j d} e => by
    rintro rfl
    have hl : i < Γ.length := by have := lt_of_get e; simpa using this
    rw [List.getElem?_set_self hl] at e; cases e
  refine ⟨I.hH, I.hF, I.sub, I.old, by simp [I.len], fun j s e => ?_, fun j k q d1 d2 e1 e2 q1 q2 => ?_⟩
  · by_cases hj : i = j
    · subst hj
      have hl : i < Γ.length := by have := lt_of_get e; simpa using this
      rw [List.getElem?_set_self hl] at e
      cases e
      trivial
    · rw [List.getElem?_set_ne hj] at e
      rw [getD_set_ne hj]; exact I.slot j s e
  · have hj := ne e1
    have hk := ne e2
    rw [List.getElem?_set_ne hj] at e1
    rw [List.getElem?_set_ne hk] at e2
    rw [getD_set_ne hj] at q1
    rw [getD_set_ne hk] at q2
    exact I.apart j k q d1 d2 e1 e2 q1 q2
theorem EnvOk.freeze {i : Nat} {d : D} (I : EnvOk K F0 H0 F H σ Γ) (e : Γ[i]? = some (.own d)) (hd : ∀ ns, d ≠ .set ns) : ∃ F' : Fz T, Same F F' ∧ EnvOk K F0 H0 F' H σ (Γ.set i (.val d)) := by
  obtain ⟨p, ep, n0, nF, ow⟩ := I.slot i _ e
  obtain ⟨o, eo, ho, rp⟩ := ow.frozen nF hd
  have g : Grow F0 H0 (updF F p o) H := I.all.freeze n0 eo ho nF
  have sF : Same F (updF F p o) := same_new nF
  have hl : i < Γ.length := lt_of_get e
  refine ⟨updF F p o, sF, g.hh, g.ff, g.sub, g.old, by simp [I.len], fun j s ej => ?_, fun j k q d1 d2 e1 e2 q1 q2 => ?_⟩
  · by_cases hj : i = j
    · subst hj
      rw [List.getElem?_set_self hl] at ej
      cases ej
      exact ⟨_, ep, rp⟩
    · rw [List.getElem?_set_ne hj] at ej
      have z := I.slot j s ej
      cases s with
      | un => trivial
      | val d => obtain ⟨v, a, b⟩ := z; exact ⟨v, a, b.mono sF⟩
      | own d' =>
        obtain ⟨q, eq, m0, mF, ow'⟩ := z
        have hne : q ≠ p := fun z => by
          subst z
          exact hj (I.apart i j q d d' e ej ep eq)
        exact ⟨q, eq, m0, by rw [updF_ne hne]; exact mF, ow'.mono sF rfl⟩
      | bor d' => obtain ⟨q, eq, ow'⟩ := z; exact ⟨q, eq, ow'.mono sF rfl⟩
  · have hj : i ≠ j := by
      rintro rfl
      rw [List.getElem?_set_self hl] at e1; cases e1
    have hk : i ≠ k := by
      rintro rfl
      rw [List.getElem?_set_self hl] at e2; cases e2
    rw [List.getElem?_set_ne hj] at e1
    rw [List.getElem?_set_ne hk] at e2
    exact I.apart j k q d1 d2 e1 e2 q1 q2
end

inductive O where
  | v (d : D) | o (d : D)
def O.d : O → D
  | .v d => d
  | .o d => d
def ORep (K : PySem.W.Frag) (H F' H' : Hp) (v : V) : O → Prop
  | .v d => Rep K F' v d
  | .o d => ∃ p, v = .ref p ∧ Fre H p ∧ F' p = none ∧ OwnAt K F' H' p d
def Erp (mg : Str → Option Value) (E : Ex T) (F : Fz T) (H : Hp) (n : Str) : Prop := ∀ C H', mg n = some (.ref C) → Ext H H' → LamX.Tabs T H' → E (.ref C) none H'
theorem Erp.on {mg : Str → Option Value} {E : Ex T} {F F' : Fz T} {H H' : Hp} {n : Str} (h : Erp mg E F H n) (g : Grow F H F' H') : Erp mg E F' H' n := fun C J c s t => h C J c (g.hh.trans s) t

def GE (K : PySem.W.Frag) (mg : Str → Option Value) (E : Ex T) (t : TE) (f : Gm → R O) : Prop :=
  ∀ (Γ : Gm) (F0 : Fz T) (H0 : Hp) (F : Fz T) (H : Hp) (σ : St) (Q : VK), EnvOk K F0 H0 F H σ Γ → (f Γ).post (fun o => ∀ v F' H', Grow F H F' H' → ORep K H F' H' v o → Q v H') (Erp mg E F H) → t σ H Q
def GR (K : PySem.W.Frag) (mg : Str → Option Value) (E : Ex T) (t : TE) (f : Gm → R D) : Prop :=
  ∀ (Γ : Gm) (F0 : Fz T) (H0 : Hp) (F : Fz T) (H : Hp) (σ : St) (Q : VK), EnvOk K F0 H0 F H σ Γ → (f Γ).post (fun d => ∀ v F' H', Grow F H F' H' → Cont K F' H' v d → Q v H') (Erp mg E F H) → t σ H Q
def GT (K : PySem.W.Frag) (mg : Str → Option Value) (E : Ex T) (t : TT) (f : Gm → R Bool) : Prop :=
  ∀ (Γ : Gm) (F0 : Fz T) (H0 : Hp) (F : Fz T) (H : Hp) (σ : St) (Q : Bool → Hp → Prop), EnvOk K F0 H0 F H σ Γ → (f Γ).post (fun b => ∀ F' H', Grow F H F' H' → Q b H') (Erp mg E F H) → t σ H Q
inductive Conts (K : PySem.W.Frag) (F H : Hp) : List V → List D → Prop where
  | nil : Conts K F H [] []
  | cons {v : V} {d : D} {vs : List V} {ds : List D} : Cont K F H v d → Conts K F H vs ds → Conts K F H (v :: vs) (d :: ds)
def GA (K : PySem.W.Frag) (mg : Str → Option Value) (E : Ex T) (t : TA) (f : Gm → R (List D)) : Prop :=
  ∀ (Γ : Gm) (F0 : Fz T) (H0 : Hp) (F : Fz T) (H : Hp) (σ : St) (Q : List V → Hp → Prop), EnvOk K F0 H0 F H σ Γ → (f Γ).post (fun ds => ∀ vs F' H', Grow F H F' H' → Conts K F' H' vs ds → Q vs H') (Erp mg E F H) → t σ H Q
def GI (K : PySem.W.Frag) (mg : Str → Option Value) (E : Ex T) (t : TA) (f : Gm → R (List D)) : Prop :=
  ∀ (Γ : Gm) (F0 : Fz T) (H0 : Hp) (F : Fz T) (H : Hp) (σ : St) (Q : List V → Hp → Prop), EnvOk K F0 H0 F H σ Γ → (f Γ).post (fun ds => ∀ vs F' H', Grow F H F' H' → Reps K F' vs ds → Q vs H') (Erp mg E F H) → t σ H Q

section
variable {K : PySem.W.Frag} {mg : Str → Option Value} {E : Ex T} {F F' : Fz T} {H H' J : Hp} {v : V}
theorem Conts.grow (g : Grow F H F' H') : ∀ {vs : List V} {ds : List D}, Conts K F H vs ds → Conts K F' H' vs ds
  | _, _, .nil => .nil
  | _, _, .cons c t => .cons (c.grow g) (Conts.grow g t)
theorem ORep.cont {o : O} (h : ORep K J F' H' v o) : Cont K F' H' v o.d := by
  cases o with
  | v d => exact .rep h
  | o d =>
    obtain ⟨p, rfl, _, _, w⟩ := h
    exact .own w
theorem ORep.back {o : O} (h : ORep K J F' H' v o) (e : Ext H J) : ORep K H F' H' v o := by
  cases o with
  | v d => exact h
  | o d =>
    obtain ⟨p, a, b, c, w⟩ := h
    exact ⟨p, a, b.back e, c, w⟩
def O.canVal : O → Bool
  | .o (.set _) => false
  | _ => true
theorem ORep.frozen {o : O} (h : ORep K H F' H' v o) (g : Grow F H F' H') (hc : o.canVal = true) : ∃ F'', Grow F H F'' H' ∧ Rep K F'' v o.d := by
  cases o with
  | v d => exact ⟨F', g, h⟩
  | o d =>
    obtain ⟨p, rfl, nH, nF, w⟩ := h
    obtain ⟨u, eu, hu, r⟩ := w.frozen nF (fun ns e => by subst e; cases hc)
    exact ⟨_, g.freeze nH eu hu nF, r⟩
theorem GE.read {t : TE} {f : Gm → R O} (h : GE K mg E t f) : GR K mg E t (fun Γ => (f Γ).bind fun o => .ok o.d) := fun Γ F0 H0 F H σ Q I p =>
  h Γ F0 H0 F H σ Q I (R.post_imp (R.post_bind p) fun o q v F' H' g r => q v F' H' g r.cont)
def O.val (o : O) : R D := if o.canVal then .ok o.d else .stuck
def GV (K : PySem.W.Frag) (mg : Str → Option Value) (E : Ex T) (t : TE) (f : Gm → R D) : Prop :=
  ∀ (Γ : Gm) (F0 : Fz T) (H0 : Hp) (F : Fz T) (H : Hp) (σ : St) (Q : VK), EnvOk K F0 H0 F H σ Γ → (f Γ).post (fun d => ∀ v F' H', Grow F H F' H' → Rep K F' v d → Q v H') (Erp mg E F H) → t σ H Q
theorem GE.val {t : TE} {f : Gm → R O} (h : GE K mg E t f) : GV K mg E t (fun Γ => (f Γ).bind O.val) := fun Γ F0 H0 F H σ Q I p =>
  h Γ F0 H0 F H σ Q I (R.post_imp (R.post_bind p) fun o q v F' H' g r => by
    unfold O.val at q
    by_cases hc : o.canVal = true
    · rw [if_pos hc] at q
      obtain ⟨F'', g', r'⟩ := r.frozen g hc
      exact q v F'' H' g' r'
    · rw [if_neg hc] at q
      exact q.elim)
end
end Pd

set_option Elab.async false
set_option linter.all false
set_option maxRecDepth 100000
set_option maxHeartbeats 1000000
namespace Pd
open PySem PySem.Spec L2

mutual
def pyD : D → PyData
  | .non => .none
  | .bl b => .bool b
  | .int i => .int i
  | .str x => .str x
  | .tup ds => .tuple (pyDs ds)
  | .lst ds => .list (pyDs ds)
  | _ => .dict []
def pyDs : List D → List PyData
  | [] => []
  | d :: ds => pyD d :: pyDs ds
end
def shp (d : D) : Bool := SeqAt.shaped (pyD d)
section
variable {K : PySem.W.Frag} {F F' : Fz T} {H H' : Hp}
theorem lay_cons {x : PyData} {xs : List PyData} (h : PyData.canLayAll0 (x :: xs) = true) : x.canLay0 = true ∧ PyData.canLayAll0 xs = true := by
  simpa [PyData.canLayAll0] using h
mutual
theorem Rep.dp (s : Sub F H) : ∀ {v : V} {d : D}, Rep K F v d → (pyD d).canLay0 = true → Dp K H v (pyD d)
  | _, _, .non, _ => .non
  | _, _, .bl b, _ => .bl b
  | _, _, .int i, _ => .int i
  | _, _, .str x, _ => .str x
  | _, _, .tup (ds := ds) h r _, l => by
    have l' : PyData.canLayAll0 (pyDs ds) = true := by simpa [pyD, PyData.canLay0] using l
    rw [pyD]
    exact .tup (.of (s.tup h)) (Reps.dp s r l')
  | _, _, .lst (ds := ds) h r _, l => by
    have l' : PyData.canLayAll0 (pyDs ds) = true := by simpa [pyD, PyData.canLay0] using l
    rw [pyD]
    exact .lst (.of (s.lst h)) (Reps.dp s r l')
  | _, _, .ref a, l => by simp [pyD, PyData.canLay0] at l
  | _, _, .ty n, l => by simp [pyD, PyData.canLay0] at l
  | _, _, .dctK _ _ _, l => by simp [pyD, PyData.canLay0] at l
  | _, _, .dctT _ _ _, l => by simp [pyD, PyData.canLay0] at l
  | _, _, .scr _ _, l => by simp [pyD, PyData.canLay0] at l
theorem Reps.dp (s : Sub F H) : ∀ {vs : List V} {ds : List D}, Reps K F vs ds → PyData.canLayAll0 (pyDs ds) = true → DpAll K H vs (pyDs ds)
  | _, _, .nil, _ => .nil
  | _, _, .cons r t, l => by
    have l' := lay_cons (show PyData.canLayAll0 (pyD _ :: pyDs _) = true from l)
    exact .cons (Rep.dp s r l'.1) (Reps.dp s t l'.2)
end
theorem Cont.dp {v : V} {d : D} (c : Cont K F H v d) (s : Sub F H) (l : shp d = true) : Dp K H v (pyD d) := by
  have l0 := SeqAt.canLay_of_shaped l
  cases c with
  | rep r => exact r.dp s l0
  | own o =>
    cases o with
    | @lst _ ds h r _ =>
      have l' : PyData.canLayAll0 (pyDs ds) = true := by simpa [pyD, PyData.canLay0] using l0
      rw [pyD]
      exact .lst (.of h) (r.dp s l')
    | dctK _ _ _ => simp [pyD, PyData.canLay0] at l0
    | dctT _ _ _ => simp [pyD, PyData.canLay0] at l0
    | set _ => simp [pyD, PyData.canLay0] at l0
end
def eqD (a b : D) : Option Bool := if shp a = true ∧ shp b = true then some (PyData.eqv (pyD a) (pyD b)) else none

def OpD (K : PySem.W.Frag) (r : R2) (op : D → D → Option O) : Prop :=
  ∀ {T : List (Addr × Str)} (x y : V) (a b : D) (o : O) (F : Fz T) (H : Hp) (Q : VK), Sub F H → Cont K F H x a → Cont K F H y b → op a b = some o → (∀ v F' H', Grow F H F' H' → ORep K H F' H' v o → Q v H') → r x y H Q
def R.of {α : Type} : Option α → R α
  | some a => .ok a
  | none => .stuck
theorem of_post {α : Type} {o : Option α} {P : α → Prop} {E : Str → Prop} (h : (R.of o).post P E) : ∃ a, o = some a ∧ P a := by
  cases o with
  | none => exact h.elim
  | some a => exact ⟨a, rfl, h⟩
def e2 (op : D → D → Option O) (fa fb : Gm → R D) : Gm → R O := fun Γ => (fa Γ).bind fun a => (fb Γ).bind fun b => R.of (op a b)
section
variable {K : PySem.W.Frag} {mg : Str → Option Value} {E : Ex T}
theorem ge_op {r : R2} {op : D → D → Option O} {ta tb : TE} {fa fb : Gm → R D} (h : OpD K r op) (ha : GR K mg E ta fa) (hb : GR K mg E tb fb) : GE K mg E (tOp r ta tb) (e2 op fa fb) := fun Γ F0 H0 F H σ Q I p =>
  ha Γ F0 H0 F H σ _ I (R.post_imp (R.post_bind p) fun a p1 x F1 H1 g1 c1 =>
    hb Γ F0 H0 F1 H1 σ _ (I.grow g1) (R.post_mono (R.post_bind p1) (fun b _ p2 y F2 H2 g2 c2 => by
      obtain ⟨o, eo, q⟩ := of_post p2
      exact h x y a b o F2 H2 Q g2.sub (c1.grow g2) c2 eo fun v F3 H3 g3 r3 => q v F3 H3 ((g1.trans g2).trans g3) (r3.back (g1.trans g2).hh)) fun n e => e.on g1))
theorem OpD.or {r r' : R2} {op op' op'' : D → D → Option O} (h : OpD K r op) (h' : OpD K r' op') (e : ∀ a b o, op'' a b = some o → op a b = some o ∨ op' a b = some o) : OpD K (fun x y H Q => r x y H Q ∨ r' x y H Q) op'' :=
  fun x y a b o F H Q s ca cb eo q => by
    rcases e a b o eo with e | e
    · exact .inl (h x y a b o F H Q s ca cb e q)
    · exact .inr (h' x y a b o F H Q s ca cb e q)
end
section
variable {K : PySem.W.Frag} {F F' : Fz T} {H H' : Hp} {v : V}
theorem Cont.int {i : Int} (c : Cont K F H v (.int i)) : v = .int i := by
  cases c with
  | rep r => cases r; rfl
  | own o => cases o
theorem Cont.bl {i : Bool} (c : Cont K F H v (.bl i)) : v = .bl i := by
  cases c with
  | rep r => cases r; rfl
  | own o => cases o
theorem Cont.str {i : Str} (c : Cont K F H v (.str i)) : v = .str i := by
  cases c with
  | rep r => cases r; rfl
  | own o => cases o
theorem Cont.non (c : Cont K F H v .non) : v = .non := by
  cases c with
  | rep r => cases r; rfl
  | own o => cases o
theorem Cont.ty {n : String} (c : Cont K F H v (.ty n)) : v = .ty n := by
  cases c with
  | rep r => cases r; rfl
  | own o => cases o
theorem Cont.ref {a : Addr} (c : Cont K F H v (.ref a)) : v = .ref a := by
  cases c with
  | rep r => cases r; rfl
  | own o => cases o
theorem Cont.lst {ds : List D} (c : Cont K F H v (.lst ds)) (s : Sub F H) : ∃ a xs, v = .ref a ∧ H a = some (.lst xs) ∧ Reps K F xs ds ∧ ds.length ≤ sizeLine := by
  cases c with
  | rep r =>
    cases r with
    | lst h r l => exact ⟨_, _, rfl, s.lst h, r, l⟩
  | own o =>
    cases o with
    | lst h r l => exact ⟨_, _, rfl, h, r, l⟩
theorem Cont.tup {ds : List D} (c : Cont K F H v (.tup ds)) (s : Sub F H) : ∃ a xs, v = .ref a ∧ H a = some (.tup xs) ∧ Reps K F xs ds ∧ ds.length ≤ sizeLine ∧ Rep K F v (.tup ds) := by
  cases c with
  | rep r =>
    have r0 := r
    cases r with
    | tup h r l => exact ⟨_, _, rfl, s.tup h, r, l, r0⟩
  | own o => cases o
theorem Cont.scr {ns : List Int} (c : Cont K F H v (.scr ns)) (s : Sub F H) : ∃ a, v = .ref a ∧ SqL K H a (ns.map V.int) ∧ ns.length ≤ sizeLine := by
  cases c with
  | rep r =>
    cases r with
    | scr h l => exact ⟨_, rfl, s.seq h, l⟩
  | own o => cases o
theorem Cont.set {ns : List Int} (c : Cont K F H v (.set ns)) : ∃ a, v = .ref a ∧ H a = some (.set (fun i => decide (i ∈ ns)) ns.eraseDups.length) := by
  cases c with
  | rep r => cases r
  | own o =>
    cases o with
    | set h => exact ⟨_, rfl, h⟩
theorem Cont.dct {ds : List (D × D)} (c : Cont K F H v (.dct ds)) (s : Sub F H) : ds.length ≤ sizeLine ∧ ∃ a, v = .ref a ∧ ((∃ kvs, Rd H a (.dK kvs) ∧ RepK K F kvs ds) ∨ ∃ kvs, Rd H a (.dT kvs) ∧ RepT K F kvs ds) := by
  cases c with
  | rep r =>
    cases r with
    | dctK h r l => exact ⟨l, _, rfl, .inl ⟨_, s.rd h, r⟩⟩
    | dctT h r l => exact ⟨l, _, rfl, .inr ⟨_, s.rd h, r⟩⟩
  | own o =>
    cases o with
    | dctK h r l => exact ⟨l, _, rfl, .inl ⟨_, .inl h, r⟩⟩
    | dctT h r l => exact ⟨l, _, rfl, .inr ⟨_, .inl h, r⟩⟩
theorem new_lst {xs : List V} {ds : List D} {p : Addr} (s : Sub F H) (n : H p = none) (r : Reps K F xs ds) (l : ds.length ≤ sizeLine) : Grow F H F (upd H p (.lst xs)) ∧ ORep K H F (upd H p (.lst xs)) (.ref p) (.o (.lst ds)) :=
  ⟨.newO s n, p, rfl, .of n, s.free n, .lst upd_same r l⟩
theorem new_tup {xs : List V} {ds : List D} {p : Addr} (s : Sub F H) (n : H p = none) (r : Reps K F xs ds) (l : ds.length ≤ sizeLine) : Grow F H (updF F p (.tup xs)) (upd H p (.tup xs)) ∧ ORep K H (updF F p (.tup xs)) (upd H p (.tup xs)) (.ref p) (.v (.tup ds)) :=
  ⟨.newF s n (fun _ z => nomatch z), .tup updF_same (r.mono (same_new (s.free n))) l⟩
end

abbrev line : Nat := 16777216
theorem line_eq : (sizeLine : Nat) = line := sizeLine_eq
def dAdd : D → D → Option O
  | .int i, .int j => some (.v (.int (i + j)))
  | .str i, .str j => if i.length + j.length ≤ line then some (.v (.str (i ++ j))) else none
  | .lst i, .lst j => if i.length + j.length ≤ line then some (.o (.lst (i ++ j))) else none
  | .tup i, .tup j => if i.length + j.length ≤ line then some (.v (.tup (i ++ j))) else none
  | _, _ => none
def dSub : D → D → Option O
  | .int i, .int j => some (.v (.int (i - j)))
  | _, _ => none
def dMul : D → D → Option O
  | .int i, .int j => if (-(2 ^ 64) < i ∧ i < 2 ^ 64) ∨ (-(2 ^ 64) < j ∧ j < 2 ^ 64) then some (.v (.int (i * j))) else none
  | .lst xs, .int k => if -(2 ^ 63) ≤ k ∧ k < 2 ^ 63 ∧ xs.length * k.toNat ≤ line then some (.o (.lst (List.replicate k.toNat xs).flatten)) else none
  | .tup xs, .int k => if k = 1 then some (.v (.tup xs)) else if 2 ≤ k ∧ k ≤ 1000 ∧ xs ≠ [] ∧ xs.length ≤ 1000 then some (.v (.tup (List.replicate k.toNat xs).flatten)) else none
  | _, _ => none
def dDiv : D → D → Option O
  | .int i, .int j => if 0 < j ∧ j.natAbs.log2 < 9000 then some (.v (.int (i / j))) else none
  | _, _ => none
def dMod : D → D → Option O
  | .int i, .int j => if 0 < j then some (.v (.int (i % j))) else none
  | _, _ => none
def dPow : D → D → Option O
  | .int i, .int j => if 0 ≤ j ∧ j ≤ 1000000 ∧ i.natAbs < 2 ^ 64 then some (.v (.int (i ^ j.toNat))) else none
  | _, _ => none
def dShl : D → D → Option O
  | .int i, .int j => if 0 ≤ j ∧ j ≤ 1000000 ∧ i.natAbs < 2 ^ 64 then some (.v (.int (i * 2 ^ j.toNat))) else none
  | _, _ => none
def dShr : D → D → Option O
  | .int i, .int j => if 0 ≤ j then some (.v (.int (i / 2 ^ j.toNat))) else none
  | _, _ => none
def dAnd : D → D → Option O
  | .int i, .int j => some (.v (.int (Builtin.bitAnd i j)))
  | _, _ => none
section
variable {K : PySem.W.Frag} {F F' : Fz T} {H H' : Hp} {v : V}
theorem opd_rI {C : Int → Int → Prop} [∀ i j, Decidable (C i j)] {g : Int → Int → Int} {op : D → D → Option O} (h : ∀ a b o, op a b = some o → ∃ i j, a = .int i ∧ b = .int j ∧ C i j ∧ o = .v (.int (g i j))) : OpD K (rI C fun i j => .int (g i j)) op :=
  fun x y a b o F H Q s ca cb eo q => by
    obtain ⟨i, j, rfl, rfl, c, rfl⟩ := h a b o eo
    obtain rfl := ca.int
    obtain rfl := cb.int
    exact ⟨i, j, rfl, rfl, c, q _ F H (.refl s) (.int _)⟩
theorem opd_rI0 {g : Int → Int → Int} {op : D → D → Option O} (h : ∀ a b o, op a b = some o → ∃ i j, a = .int i ∧ b = .int j ∧ o = .v (.int (g i j))) : OpD K (rI0 fun i j => .int (g i j)) op :=
  fun x y a b o F H Q s ca cb eo q => by
    obtain ⟨i, j, rfl, rfl, rfl⟩ := h a b o eo
    obtain rfl := ca.int
    obtain rfl := cb.int
    exact ⟨i, j, rfl, rfl, q _ F H (.refl s) (.int _)⟩
def rAddD (K : PySem.W.Frag) : R2 := fun x y H Q => rI0 (fun i j => .int (i + j)) x y H Q ∨ (∃ i j, x = .str i ∧ y = .str j ∧ i.length + j.length ≤ sizeLine ∧ Q (.str (i ++ j)) H) ∨ rCat x y H Q ∨ rCatA K x y H Q
theorem op_addD {X : Cx} : OpR X (binaryOp .Add) (rAddD X.K) := op_add.or (op_add_str.or (op_cat.or op_catA))
theorem nil_of_len {α β : Type} {xs : List α} {ds : List β} (e : xs.length = ds.length) : xs = [] ↔ ds = [] := by
  rw [← List.length_eq_zero_iff, ← List.length_eq_zero_iff, e]
theorem opd_add : OpD K (rAddD K) dAdd := fun x y a b o F H Q s ca cb eo q => by
  unfold dAdd at eo
  split at eo
  · obtain rfl := ca.int
    obtain rfl := cb.int
    cases eo
    exact .inl ⟨_, _, rfl, rfl, q _ F H (.refl s) (.int _)⟩
  · obtain rfl := ca.str
    obtain rfl := cb.str
    split at eo
    · rename_i hl
      cases eo
      exact .inr (.inl ⟨_, _, rfl, rfl, by rw [line_eq]; exact hl, q _ F H (.refl s) (.str _)⟩)
    · cases eo
  · split at eo
    · rename_i hl
      cases eo
      obtain ⟨p, xs, rfl, hp, rp, _⟩ := ca.lst s
      obtain ⟨p', ys, rfl, hp', rp', _⟩ := cb.lst s
      have l1 := rp.length
      have l2 := rp'.length
      refine .inr (.inr (.inl ⟨p, p', xs, ys, rfl, rfl, hp, hp', by rw [line_eq, l1, l2]; exact hl, fun z hz => ?_⟩))
      obtain ⟨g, r⟩ := new_lst s hz (rp.append rp') (by rw [List.length_append, line_eq]; exact hl)
      exact q _ _ _ g r
    · cases eo
  · split at eo
    · rename_i i j hl
      cases eo
      obtain ⟨p, xs, rfl, hp, rp, _, r0⟩ := ca.tup s
      obtain ⟨p', ys, rfl, hp', rp', _, r0'⟩ := cb.tup s
      have l1 := rp.length
      have l2 := rp'.length
      refine .inr (.inr (.inr ⟨p, p', xs, ys, rfl, rfl, .of hp, .of hp', by rw [line_eq, l1, l2]; exact hl, fun e => ?_, fun _ e => ?_, fun _ _ z hz => ?_⟩))
      · rw [nil_of_len l1] at e
        subst e
        exact q _ F H (.refl s) r0'
      · rw [nil_of_len l2] at e
        subst e
        rw [List.append_nil] at q
        exact q _ F H (.refl s) r0
      · obtain ⟨g, r⟩ := new_tup s hz (rp.append rp') (by rw [List.length_append, line_eq]; exact hl)
        exact q _ _ _ g r
    · cases eo
  · cases eo
theorem opd_sub : OpD K (rI0 fun i j => .int (i - j)) dSub := opd_rI0 fun a b o e => by
  unfold dSub at e
  split at e
  · cases e; exact ⟨_, _, rfl, rfl, rfl⟩
  · cases e
theorem tup_mul1 (ad : Addr) (arr : Array Value) (n : Nat) (dd : Option Addr) (sl : Array (Option Value)) (tk : Tok) :
    Meets (Builtin.«tuple.__mul__» ⟨[.ref ad, .int 1 tk], []⟩) (fun _ R sh => sh.heap.get? ad = some { cls := .type "tuple", dict := dd, data := .seq arr n, slots := sl } ∧ R (.ok (.ret (.ref ad))) sh) :=
  .of_wp fun pg wd Ar R sh hyp => by
    obtain ⟨heap, g, d, tks, oss⟩ := sh
    obtain ⟨at_, hyp⟩ := hyp
    have f1 := AutoSeq1.idx_int
    wp_walk using AutoSeq1.wpAny_loadPart' at_
    exact ⟨_, rfl, hyp⟩
def rRepT1 (K : PySem.W.Frag) : R2 := fun x y H Q => ∃ ad xs, x = .ref ad ∧ y = .int 1 ∧ SqT K H ad xs ∧ Q (.ref ad) H
theorem op_repT1 {X : Cx} : OpR X (binaryOp .Mult) (rRepT1 X.K) := by
  intro pins sh σ H x y v u Q I rx ry h
  obtain ⟨ad, xs, rfl, rfl, hT, q⟩ := h
  cases rx
  obtain ⟨tk, rfl⟩ := ry
  obtain ⟨its, rr, ⟨⟨cls, dd, data, sl⟩, ho, hc, n, hd⟩, _⟩ := I.tuple hT
  simp only at hc hd
  subst hc hd
  refine wpAny_binaryOp_repeat_ref (T := "tuple") (U := "int") (by decide) ⟨_, ho, rfl⟩ (fun sh' => typeIs_int sh' 1 tk) noFill_tuple_mul F.fills_int_mul F.slot_int_rmul repeat_tuple F.slot_int_index.lookup ?_
  refine call_meets F.slot_int_rmul (typeIs_int sh 1 tk) F.entry_int_rmul (F.args_int_rmul_2 _ _) (int_rmul_tuple 1 tk ad its.toArray n dd sl) ⟨ho, rfl, ⟨_, ho, rfl⟩, ?_⟩
  exact call_meets F.slot_tuple_mul ⟨_, ho, rfl⟩ F.entry_tuple_mul (F.args_tuple_mul_2 _ _) (tup_mul1 ad its.toArray n dd sl tk) ⟨ho, ⟨.ref ad, H, I, rfl, q⟩⟩
def rMulD (K : PySem.W.Frag) : R2 := fun x y H Q => rI CMul (fun i j => .int (i * j)) x y H Q ∨ rRep x y H Q ∨ rRepT1 K x y H Q ∨ rRepT K x y H Q
theorem op_mulD {X : Cx} : OpR X (binaryOp .Mult) (rMulD X.K) := op_mul.or (op_rep.or (op_repT1.or op_repT))
theorem Reps.flat {vs : List V} {ds : List D} (r : Reps K F vs ds) : ∀ k : Nat, Reps K F (List.replicate k vs).flatten (List.replicate k ds).flatten
  | 0 => .nil
  | k + 1 => by
    rw [List.replicate_succ, List.replicate_succ, List.flatten_cons, List.flatten_cons]
    exact r.append (Reps.flat r k)
theorem len_flat {α : Type} (l : List α) (k : Nat) : (List.replicate k l).flatten.length = l.length * k := by
  induction k with
  | zero => rfl
  | succ k ih => rw [List.replicate_succ, List.flatten_cons, List.length_append, ih, Nat.mul_succ, Nat.add_comm]
theorem opd_mul : OpD K (rMulD K) dMul := fun x y a b o F H Q s ca cb eo q => by
  unfold dMul at eo
  split at eo
  · obtain rfl := ca.int
    obtain rfl := cb.int
    split at eo
    · rename_i c
      cases eo
      exact .inl ⟨_, _, rfl, rfl, c, q _ F H (.refl s) (.int _)⟩
    · cases eo
  · split at eo
    · rename_i c
      cases eo
      obtain rfl := cb.int
      obtain ⟨p, xs, rfl, hp, rp, _⟩ := ca.lst s
      have l1 := rp.length
      refine .inr (.inl ⟨p, _, xs, rfl, rfl, hp, c.1, c.2.1, by rw [line_eq, l1]; exact c.2.2, fun z hz => ?_⟩)
      obtain ⟨g, r⟩ := new_lst s hz (rp.flat _) (by rw [len_flat, line_eq]; exact c.2.2)
      exact q _ _ _ g r
    · cases eo
  · obtain rfl := cb.int
    obtain ⟨p, xs, rfl, hp, rp, hl, r0⟩ := ca.tup s
    have l1 := rp.length
    split at eo
    · rename_i c
      subst c
      cases eo
      exact .inr (.inr (.inl ⟨p, xs, rfl, rfl, .of hp, q _ F H (.refl s) r0⟩))
    · split at eo
      · rename_i c
        obtain ⟨c1, c2, c3, c4⟩ := c
        cases eo
        refine .inr (.inr (.inr ⟨p, _, xs, rfl, rfl, .of hp, fun e => ?_, c1, c2, by omega, fun z hz => ?_⟩))
        · subst e
          cases rp
          exact c3 rfl
        · rename_i xs0 k _
          obtain ⟨g, r⟩ := new_tup s hz (rp.flat k.toNat) (by
            rw [len_flat, line_eq]
            exact Nat.le_trans (Nat.mul_le_mul c4 (show k.toNat ≤ 1000 by omega)) (by decide))
          exact q _ _ _ g r
      · cases eo
  · cases eo
def DivW (_ j : Int) : Prop := 0 < j ∧ j.natAbs.log2 < 9000
instance (i j : Int) : Decidable (DivW i j) := by unfold DivW; infer_instance
theorem op_divW {X : Cx} : OpR X (binaryOp .FloorDiv) (rI DivW fun i j => .int (i / j)) := opI fun i j _ _ _ _ _ hc q => by
  obtain ⟨h1, h2⟩ := hc
  refine PyProof.Rows.floordiv_int (by omega) ?_ (.inl (PyProof.noPylong_of_log2 h2))
  rw [Int.fdiv_eq_ediv_of_nonneg i (Int.le_of_lt h1)]
  exact q
instance (i j : Int) : Decidable (CPow i j) := by unfold CPow; infer_instance
theorem opd_div : OpD K (rI DivW fun i j => .int (i / j)) dDiv := opd_rI fun a b o e => by
  unfold dDiv at e
  split at e
  · split at e
    · rename_i c; cases e; exact ⟨_, _, rfl, rfl, c, rfl⟩
    · cases e
  · cases e
theorem opd_mod : OpD K (rI (fun _ j => 0 < j) fun i j => .int (i % j)) dMod := opd_rI fun a b o e => by
  unfold dMod at e
  split at e
  · split at e
    · rename_i c; cases e; exact ⟨_, _, rfl, rfl, c, rfl⟩
    · cases e
  · cases e
theorem opd_pow : OpD K (rI CPow fun i j => .int (i ^ j.toNat)) dPow := opd_rI fun a b o e => by
  unfold dPow at e
  split at e
  · split at e
    · rename_i c; cases e; exact ⟨_, _, rfl, rfl, c, rfl⟩
    · cases e
  · cases e
theorem opd_shl : OpD K (rI CPow fun i j => .int (i * 2 ^ j.toNat)) dShl := opd_rI fun a b o e => by
  unfold dShl at e
  split at e
  · split at e
    · rename_i c; cases e; exact ⟨_, _, rfl, rfl, c, rfl⟩
    · cases e
  · cases e
theorem opd_shr : OpD K (rI (fun _ j => 0 ≤ j) fun i j => .int (i / 2 ^ j.toNat)) dShr := opd_rI fun a b o e => by
  unfold dShr at e
  split at e
  · split at e
    · rename_i c; cases e; exact ⟨_, _, rfl, rfl, c, rfl⟩
    · cases e
  · cases e
theorem opd_and : OpD K (rI0 fun i j => .int (Builtin.bitAnd i j)) dAnd := opd_rI0 fun a b o e => by
  unfold dAnd at e
  split at e
  · cases e; exact ⟨_, _, rfl, rfl, rfl⟩
  · cases e
end
def dBin : Operator → D → D → Option O
  | .Add => dAdd
  | .Sub => dSub
  | .Mult => dMul
  | .FloorDiv => dDiv
  | .Mod => dMod
  | .Pow => dPow
  | .LShift => dShl
  | .RShift => dShr
  | .BitAnd => dAnd
  | _ => fun _ _ => none
theorem bin_ok {X : Cx} (op : Operator) : ∃ r, OpR X (binaryOp op) r ∧ OpD X.K r (dBin op) := by
  cases op with
  | Add => exact ⟨_, op_addD, opd_add⟩
  | Sub => exact ⟨_, op_sub, opd_sub⟩
  | Mult => exact ⟨_, op_mulD, opd_mul⟩
  | FloorDiv => exact ⟨_, op_divW, opd_div⟩
  | Mod => exact ⟨_, op_mod, opd_mod⟩
  | Pow => exact ⟨_, op_pow, opd_pow⟩
  | LShift => exact ⟨_, op_shl, opd_shl⟩
  | RShift => exact ⟨_, op_shr, opd_shr⟩
  | BitAnd => exact ⟨_, op_and, opd_and⟩
  | _ => exact ⟨fun _ _ _ _ => False, fun _ _ _ _ _ _ _ _ _ _ _ _ h => h.elim, fun _ _ _ _ _ _ _ _ _ _ _ e => by cases e⟩

end Pd

set_option Elab.async false
set_option linter.all false
set_option maxRecDepth 100000
set_option maxHeartbeats 1000000
namespace Pd
open PySem PySem.Spec L2

mutual
def ltP : PyData → PyData → Bool
  | .int i, .int j => decide (i < j)
  | .str i, .str j => decide (i.cps.toList < j.cps.toList)
  | .tuple xs, .tuple ys => ltPs xs ys
  | _, _ => false
def ltPs : List PyData → List PyData → Bool
  | [], [] => false
  | [], _ :: _ => true
  | _ :: _, [] => false
  | x :: xs, y :: ys => if PyData.eqv x y = true then ltPs xs ys else ltP x y
end
mutual
/-- they may be compared -/
def okP : PyData → PyData → Bool
  | .int _, .int _ => true
  | .str _, .str _ => true
  | .tuple xs, .tuple ys => okPs xs ys
  | _, _ => false
def okPs : List PyData → List PyData → Bool
  | x :: xs, y :: ys => okP x y && okPs xs ys
  | _, _ => true
end
theorem okPs_at : ∀ {xs ys : List PyData} (j : Nat), okPs xs ys = true → j < xs.length → j < ys.length → okP (xs.getD j .none) (ys.getD j .none) = true
  | [], _, _, _, h, _ => absurd h (Nat.not_lt_zero _)
  | _ :: _, [], _, _, _, h => absurd h (Nat.not_lt_zero _)
  | x :: xs, y :: ys, 0, h, _, _ => by
    have h' : okP x y = true ∧ okPs xs ys = true := by simpa [okPs] using h
    exact h'.1
  | x :: xs, y :: ys, j + 1, h, h1, h2 => by
    have h' : okP x y = true ∧ okPs xs ys = true := by simpa [okPs] using h
    exact okPs_at (xs := xs) (ys := ys) j h'.2 (Nat.lt_of_succ_lt_succ h1) (Nat.lt_of_succ_lt_succ h2)
theorem lexAt_shift {e r : Nat → Bool} {z : Bool} : ∀ (k i : Nat), Ob.lexAt e r z (i + 1) k = Ob.lexAt (fun j => e (j + 1)) (fun j => r (j + 1)) z i k
  | 0, _ => rfl
  | k + 1, i => by
    rw [Ob.lexAt_succ, Ob.lexAt_succ, lexAt_shift k (i + 1)]
theorem lexAt_ltPs : ∀ (xs ys : List PyData), Ob.lexAt (SeqAt.pairEq xs ys) (fun j => ltP (xs.getD j .none) (ys.getD j .none)) (decide (xs.length < ys.length)) 0 (min xs.length ys.length) = ltPs xs ys
  | [], [] => rfl
  | [], y :: ys => by simp [Ob.lexAt, ltPs]
  | x :: xs, [] => by simp [Ob.lexAt, ltPs]
  | x :: xs, y :: ys => by
    have ih := lexAt_ltPs xs ys
    have em : min (x :: xs).length (y :: ys).length = min xs.length ys.length + 1 := by simp only [List.length_cons]; omega
    have ed : decide ((x :: xs).length < (y :: ys).length) = decide (xs.length < ys.length) := by simp
    rw [em, ed, Ob.lexAt_succ, lexAt_shift]
    show (if PyData.eqv x y = true then Ob.lexAt (SeqAt.pairEq xs ys) (fun j => ltP (xs.getD j .none) (ys.getD j .none)) (decide (xs.length < ys.length)) 0 (min xs.length ys.length) else ltP x y) = ltPs (x :: xs) (y :: ys)
    rw [ih, ltPs]
theorem readsAll_len {h : Heap} : ∀ {vs : List Value} {ds : List PyData} {as : List Addr}, ReadsAll h vs ds as → vs.length = ds.length
  | _, _, _, .nil => rfl
  | _, _, _, .cons _ t => by rw [List.length_cons, List.length_cons, readsAll_len t]
theorem readsAll_at {h : Heap} : ∀ {vs : List Value} {ds : List PyData} {as : List Addr} (j : Nat) (h1 : j < vs.length), ReadsAll h vs ds as → ∃ bs, Reads h vs[j] (ds.getD j .none) bs
  | _, _, _, 0, _, .cons r _ => ⟨_, r⟩
  | _, _, _, j + 1, h1, .cons _ t => readsAll_at j (Nat.lt_of_succ_lt_succ h1) t
theorem canLayAll_at : ∀ {ds : List PyData} (j : Nat), PyData.canLayAll0 ds = true → j < ds.length → (ds.getD j .none).canLay0 = true
  | d :: ds, 0, h, _ => by
    have h' : d.canLay0 = true ∧ PyData.canLayAll0 ds = true := by simpa [PyData.canLayAll0] using h
    exact h'.1
  | d :: ds, j + 1, h, hl => by
    have h' : d.canLay0 = true ∧ PyData.canLayAll0 ds = true := by simpa [PyData.canLayAll0] using h
    exact canLayAll_at (ds := ds) j h'.2 (Nat.lt_of_succ_lt_succ hl)
theorem depth_at : ∀ {ds : List PyData} (j : Nat), j < ds.length → (ds.getD j .none).depth ≤ PyData.depthAll ds
  | d :: ds, 0, _ => by
    show d.depth ≤ PyData.depthAll (d :: ds)
    rw [PyData.depthAll]; exact Nat.le_max_left _ _
  | d :: ds, j + 1, hl => by
    have := depth_at (ds := ds) j (Nat.lt_of_succ_lt_succ hl)
    show (ds.getD j .none).depth ≤ PyData.depthAll (d :: ds)
    rw [PyData.depthAll]; exact Nat.le_trans this (Nat.le_max_right _ _)
theorem rc_lt : ∀ (n : Nat) (da db : PyData) (A : Around) (s : Shared) (a b : Value) (as bs : List Addr), da.depth ≤ n → Reads s.heap a da as → Reads s.heap b db bs → okP da db = true → da.canLay0 = true → db.canLay0 = true →
    A.units + n + 1 < cLine → Ob.RcOp .Lt A s a b (ltP da db) := by
  intro n
  induction n with
  | zero =>
    intro da db A s a b as bs hd ra rb ok ha hb hu
    cases ra with
    | int i t =>
      cases rb with
      | int j u => exact Ob.RcOp.lt_int i j t u
      | _ => cases ok
    | str x t =>
      cases rb with
      | str y u => exact fun _ _ _ _ h => PyProof.Rows.lt_str h
      | _ => cases ok
    | @tuple a o vs n xs as e1 e2 e3 r => simp [PyData.depth] at hd
    | none => cases ok
    | bool _ => cases ok
    | list => cases ok
    | dict => cases ok
  | succ n ih =>
    intro da db A s a b as bs hd ra rb ok ha hb hu
    cases ra with
    | int i t =>
      cases rb with
      | int j u => exact Ob.RcOp.lt_int i j t u
      | _ => cases ok
    | str x t =>
      cases rb with
      | str y u => exact fun _ _ _ _ h => PyProof.Rows.lt_str h
      | _ => cases ok
    | @tuple a o vs n1 xs as e1 e2 e3 r =>
      cases rb with
      | @tuple b o2 ws n2 ys bs f1 f2 f3 r2 =>
        have ok' : okPs xs ys = true := by simpa [okP] using ok
        have ha' : PyData.canLayAll0 xs = true := by simpa [PyData.canLay0] using ha
        have hb' : PyData.canLayAll0 ys = true := by simpa [PyData.canLay0] using hb
        have l1 := readsAll_len r
        have l2 := readsAll_len r2
        have hd' : PyData.depthAll xs ≤ n := by
          rw [PyData.depth] at hd; omega
        have hl : s.heap.IsTuple a vs := ⟨o, e1, e2, n1, e3⟩
        have hl2 : s.heap.IsTuple b ws := ⟨o2, f1, f2, n2, f3⟩
        have R := Ob.RcOp.tuples_lt (A := A) (s := s) (e := SeqAt.pairEq xs ys) (r := fun j => ltP (xs.getD j .none) (ys.getD j .none)) hl hl2 (by omega)
          (fun j h1 h2 => by
            have q := SeqAt.eqAt_readsAll xs ys A.in1 s vs.toList ws.toList as bs r r2 ha' hb' (by
              show A.units + 1 + _ < _
              have := Nat.min_le_left (PyData.depthAll xs) (PyData.depthAll ys)
              omega) j (by simpa using h1) (by simpa using h2)
            simpa using q)
          (fun j h1 h2 _ => by
            have h1' : j < vs.toList.length := by simpa using h1
            have h2' : j < ws.toList.length := by simpa using h2
            obtain ⟨as', ra⟩ := readsAll_at j h1' r
            obtain ⟨bs', rb⟩ := readsAll_at j h2' r2
            have k1 : j < xs.length := by omega
            have k2 : j < ys.length := by omega
            have q := ih (xs.getD j .none) (ys.getD j .none) A.in1 s _ _ _ _ (Nat.le_trans (depth_at j k1) hd') ra rb (okPs_at j ok' k1 k2) (canLayAll_at j ha' k1) (canLayAll_at j hb' k2) (by show A.units + 1 + n + 1 < _; omega)
            simpa using q)
        have e1 : vs.size = xs.length := by rw [← l1]; simp
        have e2 : ws.size = ys.length := by rw [← l2]; simp
        rw [e1, e2, lexAt_ltPs] at R
        rw [ltP]
        exact R
      | _ => cases ok
    | none => cases ok
    | bool _ => cases ok
    | list => cases ok
    | dict => cases ok
def ltD (a b : D) : Option Bool := if shp a = true ∧ shp b = true ∧ okP (pyD a) (pyD b) = true then some (ltP (pyD a) (pyD b)) else none
def rLtD (K : PySem.W.Frag) : R2 := fun x y H Q => ∃ d e, Dp K H x d ∧ Dp K H y e ∧ SeqAt.shaped d = true ∧ SeqAt.shaped e = true ∧ okP d e = true ∧ Q (.bl (ltP d e)) H
theorem op_ltD {X : Cx} (hu : X.A.units + 100 < cLine) : OpR X (compareOp .Lt) (rLtD X.K) := by
  intro pins s σ H x y v u Q I rx ry h
  obtain ⟨d, e, hd, he, sd, se, ok, q⟩ := h
  obtain ⟨as, r1⟩ := Dp.reads I d x v hd rx
  obtain ⟨bs, r2⟩ := Dp.reads I e y u he ry
  have R := rc_lt 64 d e X.A s v u as bs (SeqAt.depth_of_shaped sd) r1 r2 ok (SeqAt.canLay_of_shaped sd) (SeqAt.canLay_of_shaped se) (by omega)
  exact R X.prog X.w X.xe (EP X pins σ Q) ⟨.bl _, H, I, rfl, q⟩

def bO (b : Bool) : O := .v (.bl b)
def dEq (a b : D) : Option O := (eqD a b).map bO
def dNe (a b : D) : Option O := (eqD a b).map fun c => bO (!c)
def dLt (a b : D) : Option O := (ltD a b).map bO
def numsT : List D → Option (List Int)
  | [] => some []
  | .int i :: r => (numsT r).map fun l => i :: l
  | _ => none
theorem numsT_some : ∀ {ds : List D} {ns : List Int}, numsT ds = some ns → ds = ns.map D.int
  | [], ns, h => by cases h; rfl
  | d :: r, ns, h => by
    cases d <;> simp [numsT] at h
    obtain ⟨l, hl, rfl⟩ := h
    rw [numsT_some hl]; rfl
def leT (ns ms : List Int) : Bool := Ob.lexAt (fun j => decide (ns.getD j 0 = ms.getD j 0)) (fun j => decide (ns.getD j 0 ≤ ms.getD j 0)) (decide (ns.length ≤ ms.length)) 0 (min ns.length ms.length)
def dLe : D → D → Option O
  | .int i, .int j => some (bO (decide (i ≤ j)))
  | .tup xs, .tup ys => (numsT xs).bind fun ns => (numsT ys).map fun ms => bO (leT ns ms)
  | _, _ => none
def dGt : D → D → Option O
  | .int i, .int j => some (bO (decide (j < i)))
  | _, _ => none
def dGe : D → D → Option O
  | .int i, .int j => some (bO (decide (j ≤ i)))
  | _, _ => none
def isNonD : D → Bool
  | .non => true
  | _ => false
def dIs : D → D → Option O
  | a, .non => some (bO (isNonD a))
  | .bl a, .bl b => some (bO (decide (a = b)))
  | _, _ => none
def dIsNot : D → D → Option O
  | a, .non => some (bO (!isNonD a))
  | .bl a, .bl b => some (bO (!decide (a = b)))
  | _, _ => none
def keyOf? : D → Option Key
  | .int i => some (.inl i)
  | .str x => some (.inr x)
  | _ => none
def keysOf? : List D → Option (List Key)
  | [] => some []
  | d :: ds => (keyOf? d).bind fun k => (keysOf? ds).map fun ks => k :: ks
def isKey : D → Bool
  | .int _ => true
  | .str _ => true
  | .tup ds => (keysOf? ds).isSome
  | _ => false
def keyEq : D → D → Bool
  | .int i, .int j => decide (i = j)
  | .str i, .str j => decide (i = j)
  | .tup xs, .tup ys => decide (keysOf? xs = keysOf? ys)
  | _, _ => false
def getK (kvs : List (D × D)) (k : D) : Option D := (kvs.find? fun kv => keyEq kv.1 k).map (·.2)
def inKeys (kvs : List (D × D)) (k : D) : Bool := kvs.any fun kv => keyEq kv.1 k
def kindK (kvs : List (D × D)) (k : D) : Bool := match k, kvs with
  | .tup _, (.tup _, _) :: _ => true
  | .tup _, [] => true
  | .int _, (.tup _, _) :: _ => false
  | .str _, (.tup _, _) :: _ => false
  | .int _, _ => true
  | .str _, _ => true
  | _, _ => false
section
variable {K : PySem.W.Frag} {F F' : Fz T} {H H' : Hp} {v : V}
theorem isNon_eq {a : D} (c : Cont K F H v a) : decide (v = .non) = isNonD a := by
  cases c with
  | rep r => cases r <;> rfl
  | own o => cases o <;> rfl
theorem opd_eq : OpD K (rEqD K) dEq := fun x y a b o F H Q s ca cb eo q => by
  unfold dEq eqD at eo
  split at eo
  · rename_i h
    cases eo
    exact ⟨_, _, ca.dp s h.1, cb.dp s h.2, h.1, h.2, q _ F H (.refl s) (.bl _)⟩
  · cases eo
theorem opd_ne : OpD K (rNeD K) dNe := fun x y a b o F H Q s ca cb eo q => by
  unfold dNe eqD at eo
  split at eo
  · rename_i h
    cases eo
    exact ⟨_, _, ca.dp s h.1, cb.dp s h.2, h.1, h.2, q _ F H (.refl s) (.bl _)⟩
  · cases eo
theorem opd_lt : OpD K (rLtD K) dLt := fun x y a b o F H Q s ca cb eo q => by
  unfold dLt ltD at eo
  split at eo
  · rename_i h
    cases eo
    exact ⟨_, _, ca.dp s h.1, cb.dp s h.2.1, h.1, h.2.1, h.2.2, q _ F H (.refl s) (.bl _)⟩
  · cases eo
theorem opd_B0 {g : Int → Int → Bool} {op : D → D → Option O} (h : ∀ a b o, op a b = some o → ∃ i j, a = .int i ∧ b = .int j ∧ o = bO (g i j)) : OpD K (rI0 fun i j => .bl (g i j)) op :=
  fun x y a b o F H Q s ca cb eo q => by
    obtain ⟨i, j, rfl, rfl, rfl⟩ := h a b o eo
    obtain rfl := ca.int
    obtain rfl := cb.int
    exact ⟨i, j, rfl, rfl, q _ F H (.refl s) (.bl _)⟩
theorem opd_le : OpD K (fun x y H Q => (rI0 fun i j => .bl (decide (i ≤ j))) x y H Q ∨ rLeT K x y H Q) dLe := fun x y a b o F H Q s ca cb eo q => by
  unfold dLe at eo
  split at eo
  · rename_i i j
    cases eo
    obtain rfl := ca.int
    obtain rfl := cb.int
    exact .inl ⟨i, j, rfl, rfl, q _ F H (.refl s) (.bl _)⟩
  · rename_i xs ys
    obtain ⟨ns, e1, eo⟩ := Option.bind_eq_some_iff.mp eo
    obtain ⟨ms, e2, rfl⟩ := Option.map_eq_some_iff.mp eo
    obtain rfl := numsT_some e1
    obtain rfl := numsT_some e2
    obtain ⟨p1, us, rfl, h1, r1, _⟩ := ca.tup s
    obtain ⟨p2, vs, rfl, h2, r2, _⟩ := cb.tup s
    rw [r1.ints_of] at h1
    rw [r2.ints_of] at h2
    exact .inr ⟨p1, p2, ns, ms, rfl, rfl, .inl (.inl h1), .inl (.inl h2), q _ F H (.refl s) (.bl _)⟩
  · cases eo
theorem opd_gt : OpD K (rI0 fun i j => .bl (decide (j < i))) dGt := opd_B0 fun a b o e => by
  unfold dGt at e
  split at e
  · cases e; exact ⟨_, _, rfl, rfl, rfl⟩
  · cases e
theorem opd_ge : OpD K (rI0 fun i j => .bl (decide (j ≤ i))) dGe := opd_B0 fun a b o e => by
  unfold dGe at e
  split at e
  · cases e; exact ⟨_, _, rfl, rfl, rfl⟩
  · cases e
def rIsD : R2 := fun x y H Q => (y = .non ∧ Q (.bl (decide (x = .non))) H) ∨ rIsB x y H Q
theorem op_isD {X : Cx} : OpR X (compareOp .Is) rIsD := op_isN.or op_isBl
theorem opd_is : OpD K rIsD dIs := fun x y a b o F H Q s ca cb eo q => by
  unfold dIs at eo
  split at eo
  · cases eo
    obtain rfl := cb.non
    refine .inl ⟨rfl, ?_⟩
    rw [isNon_eq ca]
    exact q _ F H (.refl s) (.bl _)
  · cases eo
    obtain rfl := ca.bl
    obtain rfl := cb.bl
    exact .inr ⟨_, _, rfl, rfl, q _ F H (.refl s) (.bl _)⟩
  · cases eo
def rIsNotD : R2 := fun x y H Q => (y = .non ∧ Q (.bl (!decide (x = .non))) H) ∨ rNotB x y H Q
theorem op_isNotD {X : Cx} : OpR X (compareOp .IsNot) rIsNotD := op_notN.or op_notBl
theorem opd_isNot : OpD K rIsNotD dIsNot := fun x y a b o F H Q s ca cb eo q => by
  unfold dIsNot at eo
  split at eo
  · cases eo
    obtain rfl := cb.non
    refine .inl ⟨rfl, ?_⟩
    rw [isNon_eq ca]
    exact q _ F H (.refl s) (.bl _)
  · cases eo
    obtain rfl := ca.bl
    obtain rfl := cb.bl
    exact .inr ⟨_, _, rfl, rfl, q _ F H (.refl s) (.bl _)⟩
  · cases eo
end
end Pd

set_option Elab.async false
set_option linter.all false
set_option maxRecDepth 100000
set_option maxHeartbeats 1000000
namespace Pd
open PySem PySem.Spec L2

theorem keyOf_keyD (k : Key) : keyOf? (keyD k) = some k := by cases k <;> rfl
theorem keysOf_map : ∀ ks : List Key, keysOf? (ks.map keyD) = some ks
  | [] => rfl
  | k :: ks => by
    show ((keyOf? (keyD k)).bind fun k => (keysOf? (ks.map keyD)).map fun ks => k :: ks) = _
    rw [keyOf_keyD, keysOf_map ks]; rfl
theorem keyOf_some {d : D} {k : Key} (h : keyOf? d = some k) : d = keyD k := by
  cases d <;> simp [keyOf?] at h <;> subst h <;> rfl
theorem keysOf_some : ∀ {ds : List D} {ks : List Key}, keysOf? ds = some ks → ds = ks.map keyD
  | [], ks, h => by cases h; rfl
  | d :: ds, ks, h => by
    have h : ((keyOf? d).bind fun k => (keysOf? ds).map fun ks => k :: ks) = some ks := h
    cases e : keyOf? d with
    | none => rw [e] at h; cases h
    | some k =>
      rw [e, Option.bind_some] at h
      cases e2 : keysOf? ds with
      | none => rw [e2] at h; cases h
      | some ks' =>
        rw [e2] at h
        cases h
        rw [keyOf_some e, keysOf_some e2]; rfl
theorem keyEq_K (a b : Key) : keyEq (keyD a) (keyD b) = decide (a = b) := by
  cases a with
  | inl i =>
    cases b with
    | inl j => simp [keyD, keyEq]
    | inr y => simp [keyD, keyEq]
  | inr x =>
    cases b with
    | inl j => simp [keyD, keyEq]
    | inr y => simp [keyD, keyEq]
theorem keyEq_T (a b : List Key) : keyEq (keyT a) (keyT b) = decide (a = b) := by
  show decide (keysOf? (a.map keyD) = keysOf? (b.map keyD)) = _
  rw [keysOf_map, keysOf_map]
  by_cases h : a = b
  · subst h; simp
  · rw [decide_eq_false h, decide_eq_false (fun e => h (Option.some.inj e))]
section
variable {K : PySem.W.Frag} {F H : Hp}
theorem Reps.keys : ∀ {ks : List Key} {xs : List V}, Reps K F xs (ks.map keyD) → xs = ks.map kV
  | [], _, .nil => rfl
  | k :: ks, _, .cons r t => by
    rw [Reps.keys (ks := ks) t]
    cases k with
    | inl i => cases r; rfl
    | inr x => cases r; rfl
def RelD (K : PySem.W.Frag) (F : Hp) : Option V → Option D → Prop
  | some v, some d => Rep K F v d
  | none, none => True
  | _, _ => False
theorem RelD.isSome {o : Option V} {u : Option D} (h : RelD K F o u) : o.isSome = u.isSome := by
  cases o <;> cases u <;> first | rfl | exact h.elim
theorem RepK.val (k : Key) : ∀ {kvs : List (Key × V)} {ds : List (D × D)}, RepK K F kvs ds → RelD K F (valV kvs k) (getK ds (keyD k))
  | _, _, .nil => trivial
  | _, _, .cons (k := k') (v := v) (d := d) (vs := vs) (ds := ds) r t => by
    have ih := RepK.val k t
    unfold getK
    rw [List.find?_cons, keyEq_K]
    by_cases h : k' = k
    · rw [decide_eq_true h, valV_pos (p := (k', v)) h]
      exact r
    · rw [decide_eq_false h, valV_neg (p := (k', v)) h]
      exact ih
theorem RepT.val (k : List Key) : ∀ {kvs : List (List Key × V)} {ds : List (D × D)}, RepT K F kvs ds → RelD K F (valV kvs k) (getK ds (keyT k))
  | _, _, .nil => trivial
  | _, _, .cons (k := k') (v := v) (d := d) (vs := vs) (ds := ds) r t => by
    have ih := RepT.val k t
    unfold getK
    rw [List.find?_cons, keyEq_T]
    by_cases h : k' = k
    · rw [decide_eq_true h, valV_pos (p := (k', v)) h]
      exact r
    · rw [decide_eq_false h, valV_neg (p := (k', v)) h]
      exact ih
def putD (kvs : List (D × D)) (k v : D) : List (D × D) :=
  if inKeys kvs k = true then kvs.map (fun kv => if keyEq kv.1 k = true then (kv.1, v) else kv) else kvs ++ [(k, v)]
def dropD (kvs : List (D × D)) (k : D) : List (D × D) := kvs.filter fun kv => !keyEq kv.1 k
theorem RepK.any (k : Key) : ∀ {kvs : List (Key × V)} {ds : List (D × D)}, RepK K F kvs ds → (kvs.any fun kv => decide (kv.1 = k)) = inKeys ds (keyD k)
  | _, _, .nil => rfl
  | _, _, .cons r t => by
    unfold inKeys
    rw [List.any_cons, List.any_cons, keyEq_K, RepK.any k t]; rfl
theorem RepT.any (k : List Key) : ∀ {kvs : List (List Key × V)} {ds : List (D × D)}, RepT K F kvs ds → (kvs.any fun kv => decide (kv.1 = k)) = inKeys ds (keyT k)
  | _, _, .nil => rfl
  | _, _, .cons r t => by
    unfold inKeys
    rw [List.any_cons, List.any_cons, keyEq_T, RepT.any k t]; rfl
theorem RepK.repl (k : Key) {y : V} {d : D} (ry : Rep K F y d) : ∀ {kvs : List (Key × V)} {ds : List (D × D)}, RepK K F kvs ds →
    RepK K F (kvs.map fun kv => if kv.1 = k then (kv.1, y) else kv) (ds.map fun kv => if keyEq kv.1 (keyD k) = true then (kv.1, d) else kv)
  | _, _, .nil => .nil
  | _, _, .cons (k := k') r t => by
    rw [List.map_cons, List.map_cons]
    have ih := RepK.repl k ry t
    by_cases h : k' = k
    · rw [if_pos h, if_pos (by rw [keyEq_K]; exact decide_eq_true h)]
      exact .cons ry ih
    · rw [if_neg h, if_neg (by rw [keyEq_K, decide_eq_false h]; exact Bool.false_ne_true)]
      exact .cons r ih
theorem RepT.repl (k : List Key) {y : V} {d : D} (ry : Rep K F y d) : ∀ {kvs : List (List Key × V)} {ds : List (D × D)}, RepT K F kvs ds →
    RepT K F (kvs.map fun kv => if kv.1 = k then (kv.1, y) else kv) (ds.map fun kv => if keyEq kv.1 (keyT k) = true then (kv.1, d) else kv)
  | _, _, .nil => .nil
  | _, _, .cons (k := k') r t => by
    rw [List.map_cons, List.map_cons]
    have ih := RepT.repl k ry t
    by_cases h : k' = k
    · rw [if_pos h, if_pos (by rw [keyEq_T]; exact decide_eq_true h)]
      exact .cons ry ih
    · rw [if_neg h, if_neg (by rw [keyEq_T, decide_eq_false h]; exact Bool.false_ne_true)]
      exact .cons r ih
theorem RepK.append : ∀ {a b : List (Key × V)} {c d : List (D × D)}, RepK K F a c → RepK K F b d → RepK K F (a ++ b) (c ++ d)
  | _, _, _, _, .nil, s => s
  | _, _, _, _, .cons r t, s => .cons r (RepK.append t s)
theorem RepT.append : ∀ {a b : List (List Key × V)} {c d : List (D × D)}, RepT K F a c → RepT K F b d → RepT K F (a ++ b) (c ++ d)
  | _, _, _, _, .nil, s => s
  | _, _, _, _, .cons r t, s => .cons r (RepT.append t s)
theorem RepK.put (k : Key) {y : V} {d : D} (ry : Rep K F y d) {kvs : List (Key × V)} {ds : List (D × D)} (r : RepK K F kvs ds) : RepK K F (putK kvs k y) (putD ds (keyD k) d) := by
  unfold putK putD
  have e := r.any k
  by_cases h : inKeys ds (keyD k) = true
  · rw [if_pos h, if_pos (by rw [e]; exact h)]
    exact r.repl k ry
  · rw [if_neg h, if_neg (by rw [e]; exact h)]
    exact r.append (.cons ry .nil)
theorem RepT.put (k : List Key) {y : V} {d : D} (ry : Rep K F y d) {kvs : List (List Key × V)} {ds : List (D × D)} (r : RepT K F kvs ds) : RepT K F (putK kvs k y) (putD ds (keyT k) d) := by
  unfold putK putD
  have e := r.any k
  by_cases h : inKeys ds (keyT k) = true
  · rw [if_pos h, if_pos (by rw [e]; exact h)]
    exact r.repl k ry
  · rw [if_neg h, if_neg (by rw [e]; exact h)]
    exact r.append (.cons ry .nil)
theorem RepK.drop (k : Key) : ∀ {kvs : List (Key × V)} {ds : List (D × D)}, RepK K F kvs ds → RepK K F (dropK kvs k) (dropD ds (keyD k))
  | _, _, .nil => .nil
  | _, _, .cons (k := k') (v := v) (d := d) (vs := vs) (ds := ds) r t => by
    have ih := RepK.drop k t
    unfold dropK dropD at ih ⊢
    rw [List.filter_cons, List.filter_cons, keyEq_K]
    by_cases h : k' = k
    · rw [if_neg (by simp [h]), if_neg (by simp [h])]
      exact ih
    · rw [if_pos (by simp [h]), if_pos (by simp [h])]
      exact .cons r ih
theorem RepT.drop (k : List Key) : ∀ {kvs : List (List Key × V)} {ds : List (D × D)}, RepT K F kvs ds → RepT K F (dropK kvs k) (dropD ds (keyT k))
  | _, _, .nil => .nil
  | _, _, .cons (k := k') (v := v) (d := d) (vs := vs) (ds := ds) r t => by
    have ih := RepT.drop k t
    unfold dropK dropD at ih ⊢
    rw [List.filter_cons, List.filter_cons, keyEq_T]
    by_cases h : k' = k
    · rw [if_neg (by simp [h]), if_neg (by simp [h])]
      exact ih
    · rw [if_pos (by simp [h]), if_pos (by simp [h])]
      exact .cons r ih
end

section
variable {X : Cx} {pins : List (Addr × Obj)} {σ : St} {H : Hp} {s : Shared} {a : Addr}
theorem objOk_other {P : Program} {w : World} {h : Heap} {b : Addr} {o o' : HO} {q : HO} (hb : b ≠ a) (e : H a = some o) (h1 : ∀ x, o ≠ .own x) (h2 : ∀ xs, o ≠ .tup xs) (x : ObjOk P w H h b q) : ObjOk P w (upd H a o') h b q :=
  x.stay (fun _ _ _ z => z) (fun c z => by rw [upd_ne (fun y => by rw [y, e] at z; exact h1 _ (Option.some.inj z))]; exact z)
    fun c xs z => by rw [upd_ne (fun y => by rw [y, e] at z; exact h2 _ (Option.some.inj z))]; exact z
theorem inv_swap {o o' : HO} (I : Inv X pins σ H s) (e : H a = some o) (h1 : ∀ x, o ≠ .own x) (h2 : ∀ xs, o ≠ .tup xs) (h3 : ∀ x u, o ≠ .frz x u) (h4 : ∀ ps, o ≠ .tbl ps) (new : ObjOk X.prog X.w (upd H a o') s.heap a o') : Inv X pins σ (upd H a o') s := by
  have nn : ∀ b, H b = none → b ≠ a := fun b z y => by rw [y, e] at z; cases z
  refine I.step (h' := s.heap) (g' := s.gens) (t' := s.toks) (d' := s.drawn) (ch := []) (fun b hb => absurd hb (by simp)) (fun b o _ _ _ z _ => z) (fun b o _ _ _ z _ => ⟨o.slots, z⟩) (fun b o _ _ z => by rw [upd_ne (nn b z)]; exact z) (fun b o _ z => ⟨o, z⟩)
    (fun b xs z => by rw [upd_ne (fun y => by rw [y, e] at z; exact h2 _ (Option.some.inj z))]; exact z) (fun b x u z => by rw [upd_ne (fun y => by rw [y, e] at z; exact h3 _ _ (Option.some.inj z))]; exact z)
    (fun b ps z => ⟨#[], by rw [upd_ne (fun y => by rw [y, e] at z; exact h4 _ (Option.some.inj z)), z]; simp⟩) (fun m z => z) (fun b u z => ?_) I.bare
  by_cases hb : b = a
  · subst hb
    rw [upd_same] at z
    cases z
    exact new
  · rw [upd_ne hb] at z
    exact objOk_other hb e h1 h2 (I.hok b u z)
theorem inv_toT (I : Inv X pins σ H s) (e : H a = some (.dK [])) : Inv X pins σ (upd H a (.dT [])) s := by
  refine inv_swap I e (fun _ z => nomatch z) (fun _ z => nomatch z) (fun _ _ z => nomatch z) (fun _ z => nomatch z) ?_
  obtain ⟨_, ns, vs, r, o, es, ep, h1, h2, h3, h4, h5⟩ := I.hok a _ e
  cases r
  have e0 : es.toList = [] := by
    have h6 := h5.1
    generalize es.toList = l at h6
    cases h6
    rfl
  exact ⟨Nat.zero_le _, ns, [], .nil, o, es, ep, h1, h2, h3, by simpa using e0, by simp⟩
theorem inv_toK (I : Inv X pins σ H s) (e : H a = some (.dT [])) : Inv X pins σ (upd H a (.dK [])) s := by
  refine inv_swap I e (fun _ z => nomatch z) (fun _ z => nomatch z) (fun _ _ z => nomatch z) (fun _ z => nomatch z) ?_
  obtain ⟨_, ns, xs, r, o, es, ep, h1, h2, h3, h4, h5⟩ := I.hok a _ e
  cases r
  have e0 : es = #[] := by simpa using h4
  subst e0
  exact ⟨Nat.zero_le _, ns, [], .nil, o, #[], ep, h1, h2, h3, (fun e he => absurd he (by simp)), .nil, by simp⟩
end

def dIn : D → D → Option Bool
  | x, .lst ys => if shp x = true ∧ shp (.lst ys) = true then some ((pyDs ys).any fun z => PyData.eqv z (pyD x)) else none
  | x, .tup ys => if shp x = true ∧ shp (.tup ys) = true then some ((pyDs ys).any fun z => PyData.eqv z (pyD x)) else none
  | x, .dct kvs => if isKey x = true ∧ kindK kvs x = true then some (inKeys kvs x) else none
  | .str x, .str z => match x.cps.toList with
    | [c] => some (decide (c ∈ z.cps.toList))
    | _ => none
  | _, _ => none
def DGet2 (H : Hp) (a : Addr) (y : V) (o : Option V) : Prop := DGet H a y o ∨ (Rd H a (.dK []) ∧ o = none ∧ ∃ (b : Addr) (k : List Key), y = .ref b ∧ H b = some (.tup (k.map kV))) ∨
  (Rd H a (.dT []) ∧ o = none ∧ ∃ k : Key, y = kV k)
theorem empK {P : Program} {w : World} {H : Hp} {h : Heap} {a : Addr} (ok : HOk P w H h) (e : Rd H a (.dK [])) : (a == sysModules) = false ∧ h.DictOfH (tupleKind (mixKind P w)) a [] := by
  obtain ⟨_, ns, vs, r, o, es, ep, h1, h2, h3, h4, h5⟩ := (show ObjOk P w H h a (.dK []) from e.ok ok)
  cases r
  have e0 : es.toList = [] := by
    have h6 := h5.1
    generalize es.toList = l at h6
    cases h6
    rfl
  exact ⟨ns, o, es, ep, h1, h2, h3, by simpa using e0, (fun x hx => nomatch hx), List.nodup_nil⟩
theorem empT {P : Program} {w : World} {H : Hp} {h : Heap} {a : Addr} (ok : HOk P w H h) (e : Rd H a (.dT [])) : (a == sysModules) = false ∧ h.DictOf (mixKind P w) a [] := by
  obtain ⟨_, ns, vs, r, o, es, ep, h1, h2, h3, h4, h5⟩ := (show ObjOk P w H h a (.dT []) from e.ok ok)
  cases r
  have e0 : es = #[] := by simpa using h4
  subst e0
  exact ⟨ns, o, #[], ep, h1, h2, h3, (fun e he => absurd he (by simp)), .nil, by simp⟩
def rIn2 (K : PySem.W.Frag) (neg : Bool) : R2 := fun x y H Q =>
  (∃ d ds, Dp K H x d ∧ (Dp K H y (.list ds) ∨ Dp K H y (.tuple ds)) ∧ SeqAt.shaped d = true ∧ PyData.canLayAll0 ds = true ∧ Q (.bl (neg != ds.any fun z => PyData.eqv z d)) H) ∨
  (∃ a o, y = .ref a ∧ DGet2 H a x o ∧ Q (.bl (neg != o.isSome)) H) ∨
  (∃ (c : Nat) (z : Str), x = .str ⟨#[c]⟩ ∧ y = .str z ∧ Q (.bl (neg != decide (c ∈ z.cps.toList))) H)
section
variable {X : Cx}
theorem op_in2 (hu : X.A.units + 100 < cLine) : OpR X (compareOp .In) (rIn2 X.K false) := by
  intro pins s σ H x y v u Q I rx ry h
  rcases h with ⟨d, ds, hd, he, sd, se, q⟩ | ⟨a, o, rfl, g, q⟩ | ⟨c, z, rfl, rfl, q⟩
  · obtain ⟨as, r1⟩ := Dp.reads I d x v hd rx
    rw [Bool.false_bne] at q
    rcases he with he | he
    · obtain ⟨bs, r2⟩ := Dp.reads I (.list ds) y u he ry
      exact SeqAt.in_list_reads r2 r1 se (SeqAt.canLay_of_shaped sd) (PyProof.Rows.room_in_shaped sd (by omega)) ⟨.bl _, H, I, rfl, q⟩
    · obtain ⟨bs, r2⟩ := Dp.reads I (.tuple ds) y u he ry
      exact SeqAt.in_tuple_reads r2 r1 se (SeqAt.canLay_of_shaped sd) (PyProof.Rows.room_in_shaped sd (by omega)) ⟨.bl _, H, I, rfl, q⟩
  · rw [Bool.false_bne] at q
    cases ry
    rcases g with g | ⟨e, rfl, b, k, rfl, eb⟩ | ⟨e, rfl, k, rfl⟩
    · exact d_in (by omega) I g rx fun s' I' => ⟨.bl _, H, I', rfl, q⟩
    · obtain ⟨hd, dd⟩ := empK I.hok e
      cases rx
      refine wpAny_in_heap (tupleKind_room_in1 (by omega)) (key_of I.hok eb) hd dd ?_
      exact ⟨.bl _, H, I.tok _, rfl, q⟩
    · obtain ⟨hd, dd⟩ := empT I.hok e
      refine wpAny_in_of (kV_is rx) hd dd.mapOf ?_
      exact ⟨.bl _, H, I.tok _, rfl, q⟩
  · rw [Bool.false_bne] at q
    exact op_in_sign pins s σ H _ _ v u Q I rx ry ⟨c, z, rfl, rfl, q⟩
theorem op_notIn2 (hu : X.A.units + 100 < cLine) : OpR X (compareOp .NotIn) (rIn2 X.K true) := by
  intro pins s σ H x y v u Q I rx ry h
  rcases h with ⟨d, ds, hd, he, sd, se, q⟩ | ⟨a, o, rfl, g, q⟩ | ⟨c, z, rfl, rfl, q⟩
  · obtain ⟨as, r1⟩ := Dp.reads I d x v hd rx
    rw [Bool.true_bne] at q
    rcases he with he | he
    · obtain ⟨bs, r2⟩ := Dp.reads I (.list ds) y u he ry
      exact SeqAt.notIn_list_reads r2 r1 se (SeqAt.canLay_of_shaped sd) (PyProof.Rows.room_in_shaped sd (by omega)) ⟨.bl _, H, I, rfl, q⟩
    · obtain ⟨bs, r2⟩ := Dp.reads I (.tuple ds) y u he ry
      exact SeqAt.notIn_tuple_reads r2 r1 se (SeqAt.canLay_of_shaped sd) (PyProof.Rows.room_in_shaped sd (by omega)) ⟨.bl _, H, I, rfl, q⟩
  · rw [Bool.true_bne] at q
    cases ry
    rcases g with g | ⟨e, rfl, b, k, rfl, eb⟩ | ⟨e, rfl, k, rfl⟩
    · exact d_notIn (by omega) I g rx fun s' I' => ⟨.bl _, H, I', rfl, q⟩
    · obtain ⟨hd, dd⟩ := empK I.hok e
      cases rx
      refine PyProof.Rows.wpAny_notIn_heap (tupleKind_room_in1 (by omega)) (key_of I.hok eb) hd dd ?_
      exact ⟨.bl _, H, I.tok _, rfl, q⟩
    · obtain ⟨hd, dd⟩ := empT I.hok e
      refine wpAny_notIn_of (kV_is rx) hd dd.mapOf ?_
      exact ⟨.bl _, H, I.tok _, rfl, q⟩
  · rw [Bool.true_bne] at q
    exact op_notIn_sign pins s σ H _ _ v u Q I rx ry ⟨c, z, rfl, rfl, q⟩
end
section
variable {K : PySem.W.Frag} {F F' : Fz T} {H H' : Hp} {v : V}
theorem getK_some {kvs : List (D × D)} {k : D} : (getK kvs k).isSome = inKeys kvs k := by
  unfold getK inKeys
  rw [Option.isSome_map]
  induction kvs with
  | nil => rfl
  | cons kv r ih =>
    rw [List.find?_cons, List.any_cons]
    cases keyEq kv.1 k with
    | true => rfl
    | false => exact ih
theorem dget {x y : V} {kx : D} {kvs : List (D × D)} (s : Sub F H) (cx : Cont K F H x kx) (cy : Cont K F H y (.dct kvs)) (hk : isKey kx = true) (hkind : kindK kvs kx = true) :
    ∃ a o, y = .ref a ∧ DGet2 H a x o ∧ RelD K F o (getK kvs kx) := by
  obtain ⟨_, a, rfl, hd⟩ := cy.dct s
  have flat : ∀ k : Key, kx = keyD k → x = kV k → ∃ (a' : Addr) (o : Option V), V.ref a = .ref a' ∧ DGet2 H a' x o ∧ RelD K F o (getK kvs kx) := fun k e1 e2 => by
    subst e1 e2
    rcases hd with ⟨w, hw, r⟩ | ⟨w, hw, r⟩
    · exact ⟨a, _, rfl, .inl (.inl ⟨_, k, hw, rfl, rfl⟩), r.val k⟩
    · cases r with
      | nil => exact ⟨a, none, rfl, .inr (.inr ⟨hw, rfl, k, rfl⟩), trivial⟩
      | @cons k' _ _ _ _ r t => cases k <;> simp [kindK, keyT, keyD] at hkind
  cases kx with
  | int i => exact flat (.inl i) rfl cx.int
  | str z => exact flat (.inr z) rfl cx.str
  | tup ds =>
    obtain ⟨b, xs, rfl, hb, r1, _, _⟩ := cx.tup s
    have hk : (keysOf? ds).isSome = true := hk
    obtain ⟨ks, hks⟩ := Option.isSome_iff_exists.mp hk
    have e1 := keysOf_some hks
    subst e1
    have e2 := r1.keys
    subst e2
    rcases hd with ⟨w, hw, r⟩ | ⟨w, hw, r⟩
    · cases r with
      | nil => exact ⟨a, none, rfl, .inr (.inl ⟨hw, rfl, b, ks, rfl, hb⟩), trivial⟩
      | @cons k' _ _ _ _ r t => cases k' <;> simp [kindK, keyD] at hkind
    · exact ⟨a, _, rfl, .inl (.inr ⟨_, ks, b, hw, rfl, hb, rfl⟩), r.val ks⟩
  | _ => cases hk
def dInO (neg : Bool) (a b : D) : Option O := (dIn a b).map fun c => bO (neg != c)
theorem opd_in (neg : Bool) : OpD K (rIn2 K neg) (dInO neg) := fun x y a b o F H Q s ca cb eo q => by
  unfold dInO dIn at eo
  split at eo
  · split at eo
    · rename_i ys h
      cases eo
      have c2 := cb.dp s h.2
      rw [pyD] at c2
      have l2 := SeqAt.canLay_of_shaped h.2
      have l3 : PyData.canLayAll0 (pyDs ys) = true := by simpa [pyD, PyData.canLay0] using l2
      exact .inl ⟨_, _, ca.dp s h.1, .inl c2, h.1, l3, q _ F H (.refl s) (.bl _)⟩
    · cases eo
  · split at eo
    · rename_i ys h
      cases eo
      have c2 := cb.dp s h.2
      rw [pyD] at c2
      have l2 := SeqAt.canLay_of_shaped h.2
      have l3 : PyData.canLayAll0 (pyDs ys) = true := by simpa [pyD, PyData.canLay0] using l2
      exact .inl ⟨_, _, ca.dp s h.1, .inr c2, h.1, l3, q _ F H (.refl s) (.bl _)⟩
    · cases eo
  · split at eo
    · rename_i h
      cases eo
      obtain ⟨p, w, rfl, g, r⟩ := dget s ca cb h.1 h.2
      refine .inr (.inl ⟨p, w, rfl, g, ?_⟩)
      rw [r.isSome, getK_some]
      exact q _ F H (.refl s) (.bl _)
    · cases eo
  · rename_i x z
    obtain rfl := ca.str
    obtain rfl := cb.str
    split at eo
    · rename_i c e
      cases eo
      have e3 : x = ⟨#[c]⟩ := by
        obtain ⟨⟨l⟩⟩ := x
        have e : l = [c] := e
        subst e; rfl
      subst e3
      exact .inr (.inr ⟨c, z, rfl, rfl, q _ F H (.refl s) (.bl _)⟩)
    · cases eo
  · cases eo
end
def dCmp : CmpOp → D → D → Option O
  | .Eq => dEq
  | .NotEq => dNe
  | .Lt => dLt
  | .LtE => dLe
  | .Gt => dGt
  | .GtE => dGe
  | .Is => dIs
  | .IsNot => dIsNot
  | .In => dInO false
  | .NotIn => dInO true
theorem cmp_ok {X : Cx} (hu : X.A.units + 100 < cLine) (op : CmpOp) : ∃ r, OpR X (compareOp op) r ∧ OpD X.K r (dCmp op) := by
  cases op with
  | Eq => exact ⟨_, op_eqD (by omega), opd_eq⟩
  | NotEq => exact ⟨_, op_neD (by omega), opd_ne⟩
  | Lt => exact ⟨_, op_ltD hu, opd_lt⟩
  | LtE => exact ⟨_, op_le.or (op_leT (by omega)), opd_le⟩
  | Gt => exact ⟨_, op_gt, opd_gt⟩
  | GtE => exact ⟨_, op_ge, opd_ge⟩
  | Is => exact ⟨_, op_isD, opd_is⟩
  | IsNot => exact ⟨_, op_isNotD, opd_isNot⟩
  | In => exact ⟨_, op_in2 hu, opd_in false⟩
  | NotIn => exact ⟨_, op_notIn2 hu, opd_in true⟩
end Pd

set_option Elab.async false
set_option linter.all false
set_option maxRecDepth 100000
set_option maxHeartbeats 1000000
namespace Pd
open PySem PySem.Spec L2

def CallD (K : PySem.W.Frag) (r : List V → Hp → VK → Prop) (f : List D → Option O) : Prop :=
  ∀ {T : List (Addr × Str)} (xs : List V) (ds : List D) (o : O) (F : Fz T) (H : Hp) (Q : VK), Sub F H → Conts K F H xs ds → f ds = some o → (∀ v F' H', Grow F H F' H' → ORep K H F' H' v o → Q v H') → r xs H Q
theorem CallD.or {K : PySem.W.Frag} {r r' : List V → Hp → VK → Prop} {f f' f'' : List D → Option O} (h : CallD K r f) (h' : CallD K r' f') (e : ∀ ds o, f'' ds = some o → f ds = some o ∨ f' ds = some o) : CallD K (fun xs H Q => r xs H Q ∨ r' xs H Q) f'' :=
  fun xs ds o F H Q s cs eo q => by
    rcases e ds o eo with e | e
    · exact .inl (h xs ds o F H Q s cs e q)
    · exact .inr (h' xs ds o F H Q s cs e q)
theorem Conts.one {K : PySem.W.Frag} {F H : Hp} {xs : List V} {d : D} (h : Conts K F H xs [d]) : ∃ x, xs = [x] ∧ Cont K F H x d := by
  cases h with
  | cons c t => cases t; exact ⟨_, rfl, c⟩
theorem Conts.two {K : PySem.W.Frag} {F H : Hp} {xs : List V} {d e : D} (h : Conts K F H xs [d, e]) : ∃ x y, xs = [x, y] ∧ Cont K F H x d ∧ Cont K F H y e := by
  cases h with
  | cons c t =>
    obtain ⟨y, rfl, c2⟩ := t.one
    exact ⟨_, y, rfl, c, c2⟩

def intsOf : List D → Option (List Int)
  | [] => some []
  | .int i :: r => (intsOf r).map fun l => i :: l
  | _ => none
def blsOf : List D → Option (List Bool)
  | [] => some []
  | .bl i :: r => (blsOf r).map fun l => i :: l
  | _ => none
def strsOf : List D → Option (List Str)
  | [] => some []
  | .str i :: r => (strsOf r).map fun l => i :: l
  | _ => none
theorem intsOf_some : ∀ {ds : List D} {ns : List Int}, intsOf ds = some ns → ds = ns.map D.int
  | [], ns, h => by cases h; rfl
  | d :: r, ns, h => by
    cases d <;> simp [intsOf] at h
    obtain ⟨l, hl, rfl⟩ := h
    rw [intsOf_some hl]; rfl
theorem blsOf_some : ∀ {ds : List D} {ns : List Bool}, blsOf ds = some ns → ds = ns.map D.bl
  | [], ns, h => by cases h; rfl
  | d :: r, ns, h => by
    cases d <;> simp [blsOf] at h
    obtain ⟨l, hl, rfl⟩ := h
    rw [blsOf_some hl]; rfl
@[simp] theorem intsOf_map (ns : List Int) : intsOf (ns.map D.int) = some ns := by
  induction ns with
  | nil => rfl
  | cons n r ih => simp [intsOf, ih]
@[simp] theorem blsOf_map (ns : List Bool) : blsOf (ns.map D.bl) = some ns := by
  induction ns with
  | nil => rfl
  | cons n r ih => simp [blsOf, ih]
@[simp] theorem strsOf_map (ns : List Str) : strsOf (ns.map D.str) = some ns := by
  induction ns with
  | nil => rfl
  | cons n r ih => simp [strsOf, ih]

def maxL : List Int → Int
  | [] => 0
  | [x] => x
  | x :: r => max x (maxL r)
def minL : List Int → Int
  | [] => 0
  | [x] => x
  | x :: r => min x (minL r)
theorem maxL_mem : ∀ {ns : List Int}, ns ≠ [] → maxL ns ∈ ns ∧ ∀ y ∈ ns, y ≤ maxL ns
  | [], h => absurd rfl h
  | [x], _ => by simp [maxL]
  | x :: y :: r, _ => by
    have ih := maxL_mem (ns := y :: r) (by simp)
    show max x (maxL (y :: r)) ∈ _ ∧ ∀ z ∈ _, z ≤ max x (maxL (y :: r))
    generalize maxL (y :: r) = m at ih
    refine ⟨?_, fun z hz => ?_⟩
    · rcases Int.le_total x m with h | h
      · rw [Int.max_eq_right h]; exact List.mem_cons_of_mem _ ih.1
      · rw [Int.max_eq_left h]; exact List.mem_cons_self
    · rcases List.mem_cons.mp hz with rfl | hz
      · omega
      · have := ih.2 z hz; omega
theorem minL_mem : ∀ {ns : List Int}, ns ≠ [] → minL ns ∈ ns ∧ ∀ y ∈ ns, minL ns ≤ y
  | [], h => absurd rfl h
  | [x], _ => by simp [minL]
  | x :: y :: r, _ => by
    have ih := minL_mem (ns := y :: r) (by simp)
    show min x (minL (y :: r)) ∈ _ ∧ ∀ z ∈ _, min x (minL (y :: r)) ≤ z
    generalize minL (y :: r) = m at ih
    refine ⟨?_, fun z hz => ?_⟩
    · rcases Int.le_total x m with h | h
      · rw [Int.min_eq_left h]; exact List.mem_cons_self
      · rw [Int.min_eq_right h]; exact List.mem_cons_of_mem _ ih.1
    · rcases List.mem_cons.mp hz with rfl | hz
      · omega
      · have := ih.2 z hz; omega
def insL (x : Int) : List Int → List Int
  | [] => [x]
  | y :: r => if x ≤ y then x :: y :: r else y :: insL x r
def sortL : List Int → List Int
  | [] => []
  | x :: r => insL x (sortL r)
theorem insL_perm (x : Int) : ∀ l : List Int, (insL x l).Perm (x :: l)
  | [] => .refl _
  | y :: r => by
    unfold insL
    split
    · exact .refl _
    · exact ((insL_perm x r).cons y).trans (.swap x y r)
theorem sortL_perm : ∀ l : List Int, (sortL l).Perm l
  | [] => .refl _
  | x :: r => (insL_perm x _).trans ((sortL_perm r).cons x)
theorem insL_sorted (x : Int) : ∀ {l : List Int}, l.Pairwise (· ≤ ·) → (insL x l).Pairwise (· ≤ ·)
  | [], _ => List.pairwise_singleton _ _
  | y :: r, h => by
    unfold insL
    have h' := List.pairwise_cons.mp h
    split
    · rename_i hxy
      refine List.pairwise_cons.mpr ⟨fun z hz => ?_, h⟩
      rcases List.mem_cons.mp hz with rfl | hz
      · exact hxy
      · exact Int.le_trans hxy (h'.1 z hz)
    · rename_i hxy
      refine List.pairwise_cons.mpr ⟨fun z hz => ?_, insL_sorted x h'.2⟩
      rcases List.mem_cons.mp ((insL_perm x r).mem_iff.mp hz) with rfl | hz
      · omega
      · exact h'.1 z hz
theorem sortL_sorted : ∀ l : List Int, (sortL l).Pairwise (· ≤ ·)
  | [] => .nil
  | x :: r => insL_sorted x (sortL_sorted r)
theorem sorted_unique : ∀ {a b : List Int}, a.Perm b → a.Pairwise (· ≤ ·) → b.Pairwise (· ≤ ·) → a = b
  | [], b, p, _, _ => by
    have := p.length_eq
    cases b with
    | nil => rfl
    | cons => simp at this
  | x :: a, [], p, _, _ => by have := p.length_eq; simp at this
  | x :: a, y :: b, p, ha, hb => by
    have ha' := List.pairwise_cons.mp ha
    have hb' := List.pairwise_cons.mp hb
    have e : x = y := by
      have h1 : x ∈ y :: b := p.mem_iff.mp List.mem_cons_self
      have h2 : y ∈ x :: a := p.mem_iff.mpr List.mem_cons_self
      rcases List.mem_cons.mp h1 with h | h
      · exact h
      · rcases List.mem_cons.mp h2 with h2 | h2
        · exact h2.symm
        · exact Int.le_antisymm (ha'.1 y h2) (hb'.1 x h)
    subst e
    rw [sorted_unique (List.Perm.cons_inv p) ha'.2 hb'.2]
theorem sortL_eq {ns ns' : List Int} (p : ns'.Perm ns) (h : ns'.Pairwise (· ≤ ·)) : ns' = sortL ns :=
  sorted_unique (p.trans (sortL_perm ns).symm) h (sortL_sorted ns)

def fLen : List D → Option O
  | [.lst xs] => some (.v (.int xs.length))
  | [.tup xs] => some (.v (.int xs.length))
  | [.scr xs] => some (.v (.int xs.length))
  | [.str x] => if x.length ≤ line then some (.v (.int x.length)) else none
  | [.dct xs] => some (.v (.int xs.length))
  | _ => none
def fAbs : List D → Option O
  | [.int i] => some (.v (.int (if i < 0 then -i else i)))
  | _ => none
def fMax : List D → Option O
  | [.int i, .int j] => some (.v (.int (if j > i then j else i)))
  | [.lst ds] => (intsOf ds).bind fun ns => if ns = [] then none else some (.v (.int (maxL ns)))
  | _ => none
def fMin : List D → Option O
  | [.int i, .int j] => some (.v (.int (if j < i then j else i)))
  | [.lst ds] => (intsOf ds).bind fun ns => if ns = [] then none else some (.v (.int (minL ns)))
  | _ => none
def fSum : List D → Option O
  | [.lst ds] => (intsOf ds).map fun ns => .v (.int ns.sum)
  | _ => none
def fAny : List D → Option O
  | [.lst ds] => (blsOf ds).map fun bs => .v (.bl (bs.any id))
  | _ => none
def fAll : List D → Option O
  | [.lst ds] => (blsOf ds).map fun bs => .v (.bl (bs.all id))
  | _ => none
def fInt : List D → Option O
  | [.int i] => some (.v (.int i))
  | [.bl b] => some (.v (.int (if b then 1 else 0)))
  | _ => none
def fStr : List D → Option O
  | [.int i] => if i.natAbs.log2 < 1920 then some (.v (.str (toString i))) else none
  | _ => none
def fTuple : List D → Option O
  | [.lst ds] => some (.v (.tup ds))
  | [.tup ds] => some (.v (.tup ds))
  | _ => none
def fList : List D → Option O
  | [.lst ds] => some (.o (.lst ds))
  | [.tup ds] => some (.o (.lst ds))
  | _ => none
def tyName : D → Option String
  | .non => some "NoneType"
  | .bl _ => some "bool"
  | .int _ => some "int"
  | .str _ => some "str"
  | .lst _ => some "list"
  | .tup _ => some "tuple"
  | .dct _ => some "dict"
  | .scr _ => some "list"
  | _ => none
def isTy : String → String → Bool
  | "bool", "int" => true
  | a, b => a == b
def fIsi : List D → Option O
  | [x, .ty n] => (tyName x).bind fun m => if n ∈ ["int", "bool", "str", "tuple", "list", "dict"] then some (.v (.bl (isTy m n))) else none
  | _ => none
section
variable {K : PySem.W.Frag} {F F' : Fz T} {H H' : Hp} {v : V}
theorem Cont.sqL {ds : List D} (c : Cont K F H v (.lst ds)) (s : Sub F H) : ∃ a xs, v = .ref a ∧ SqL K H a xs ∧ Reps K F xs ds ∧ ds.length ≤ sizeLine := by
  obtain ⟨a, xs, e, h, r, l⟩ := c.lst s
  exact ⟨a, xs, e, .of h, r, l⟩
def rLenK : List V → Hp → VK → Prop := fun xs H Q => ∃ (p : Addr) (kvs : List (Key × V)), xs = [.ref p] ∧ Rd H p (.dK kvs) ∧ Q (.int kvs.length) H
def rLenT2 : List V → Hp → VK → Prop := fun xs H Q => ∃ (p : Addr) (kvs : List (List Key × V)), xs = [.ref p] ∧ Rd H p (.dT kvs) ∧ Q (.int kvs.length) H
def rLen (K : PySem.W.Frag) : List V → Hp → VK → Prop := fun xs H Q => (∃ x n, xs = [x] ∧ LenV K x H n ∧ Q (.int n) H) ∨ rLenK xs H Q ∨ rLenT2 xs H Q
theorem call_lenK {X : Cx} : CallR X (.builtin "len") rLenK := by
  intro pins s σ H xs us Q I r h
  obtain ⟨p, kvs, rfl, e, q⟩ := h
  rw [Vals.ref1 r]
  exact d_len I e fun t s' I' => ⟨.int kvs.length, H, I', ⟨t, rfl⟩, q⟩
theorem call_lenT2 {X : Cx} : CallR X (.builtin "len") rLenT2 := by
  intro pins s σ H xs us Q I r h
  obtain ⟨p, kvs, rfl, e, q⟩ := h
  rw [Vals.ref1 r]
  obtain ⟨z, hd, ys, rel, dd⟩ := dt_rd I.hok e
  have hl : kvs.length = ys.length := Paired.length rel
  refine PySem.call_len_dictH hd dd (by rw [← hl]; rw [line_eq] at z; unfold line at z; omega) ?_
  rw [← hl]
  exact ⟨.int kvs.length, H, I.tok _, ⟨_, rfl⟩, q⟩
theorem call_lenD {X : Cx} : CallR X (.builtin "len") (rLen X.K) := call_len.or (call_lenK.or call_lenT2)
theorem cd_len : CallD K (rLen K) fLen := fun xs ds o F H Q s cs eo q => by
  unfold fLen at eo
  split at eo
  · cases eo
    obtain ⟨x, rfl, c⟩ := cs.one
    obtain ⟨a, ys, rfl, h, r, _⟩ := c.lst s
    exact .inl ⟨_, _, rfl, .inl ⟨ys, .of h, rfl⟩, by rw [r.length]; exact q _ F H (.refl s) (.int _)⟩
  · cases eo
    obtain ⟨x, rfl, c⟩ := cs.one
    obtain ⟨a, ys, rfl, h, r, _⟩ := c.tup s
    exact .inl ⟨_, _, rfl, .inr ⟨ys, .of h, rfl⟩, by rw [r.length]; exact q _ F H (.refl s) (.int _)⟩
  · cases eo
    obtain ⟨x, rfl, c⟩ := cs.one
    obtain ⟨a, rfl, h, _⟩ := c.scr s
    exact .inl ⟨_, _, rfl, .inl ⟨_, h, rfl⟩, by rw [List.length_map]; exact q _ F H (.refl s) (.int _)⟩
  · split at eo
    · rename_i h
      cases eo
      obtain ⟨x, rfl, c⟩ := cs.one
      obtain rfl := c.str
      exact .inl ⟨_, _, rfl, ⟨by rw [line_eq]; exact h, rfl⟩, q _ F H (.refl s) (.int _)⟩
    · cases eo
  · cases eo
    obtain ⟨x, rfl, c⟩ := cs.one
    obtain ⟨l, a, rfl, hd⟩ := c.dct s
    rcases hd with ⟨w, hw, r⟩ | ⟨w, hw, r⟩
    · exact .inr (.inl ⟨a, w, rfl, hw, by rw [r.length]; exact q _ F H (.refl s) (.int _)⟩)
    · exact .inr (.inr ⟨a, w, rfl, hw, by rw [r.length]; exact q _ F H (.refl s) (.int _)⟩)
  · cases eo
theorem cd_abs : CallD K (fun xs H Q => ∃ i, xs = [.int i] ∧ Q (.int (if i < 0 then -i else i)) H) fAbs := fun xs ds o F H Q s cs eo q => by
  unfold fAbs at eo
  split at eo
  · cases eo
    obtain ⟨x, rfl, c⟩ := cs.one
    obtain rfl := c.int
    exact ⟨_, rfl, q _ F H (.refl s) (.int _)⟩
  · cases eo
def rMaxD (K : PySem.W.Frag) : List V → Hp → VK → Prop := fun xs H Q => (∃ i j, xs = [.int i, .int j] ∧ Q (.int (if j > i then j else i)) H) ∨ rMax K xs H Q
def rMinD (K : PySem.W.Frag) : List V → Hp → VK → Prop := fun xs H Q => (∃ i j, xs = [.int i, .int j] ∧ Q (.int (if j < i then j else i)) H) ∨ rMin K xs H Q
theorem call_maxD {X : Cx} (hc : X.calm = true) : CallR X (.builtin "max") (rMaxD X.K) := (call_max2 hc).or (cr_max hc)
theorem call_minD {X : Cx} (hc : X.calm = true) : CallR X (.builtin "min") (rMinD X.K) := (call_min2 hc).or (cr_min hc)
theorem cd_max : CallD K (rMaxD K) fMax := fun xs ds o F H Q s cs eo q => by
  unfold fMax at eo
  split at eo
  · cases eo
    obtain ⟨x, y, rfl, c1, c2⟩ := cs.two
    obtain rfl := c1.int
    obtain rfl := c2.int
    exact .inl ⟨_, _, rfl, q _ F H (.refl s) (.int _)⟩
  · rename_i ds
    obtain ⟨x, rfl, c⟩ := cs.one
    cases e : intsOf ds with
    | none => rw [e] at eo; cases eo
    | some ns =>
      rw [e, Option.bind_some] at eo
      split at eo
      · cases eo
      · rename_i hne
        cases eo
        obtain rfl := intsOf_some e
        obtain ⟨a, ys, rfl, h, r, _⟩ := c.sqL s
        obtain rfl := r.ints_of
        have m0 := maxL_mem hne
        refine .inr ⟨a, ns, rfl, h, List.length_pos_iff.mpr hne, fun m hm hb => ?_⟩
        have e2 : m = maxL ns := Int.le_antisymm (m0.2 m hm) (hb _ m0.1)
        rw [e2]
        exact q _ F H (.refl s) (.int _)
  · cases eo
theorem cd_min : CallD K (rMinD K) fMin := fun xs ds o F H Q s cs eo q => by
  unfold fMin at eo
  split at eo
  · cases eo
    obtain ⟨x, y, rfl, c1, c2⟩ := cs.two
    obtain rfl := c1.int
    obtain rfl := c2.int
    exact .inl ⟨_, _, rfl, q _ F H (.refl s) (.int _)⟩
  · rename_i ds
    obtain ⟨x, rfl, c⟩ := cs.one
    cases e : intsOf ds with
    | none => rw [e] at eo; cases eo
    | some ns =>
      rw [e, Option.bind_some] at eo
      split at eo
      · cases eo
      · rename_i hne
        cases eo
        obtain rfl := intsOf_some e
        obtain ⟨a, ys, rfl, h, r, _⟩ := c.sqL s
        obtain rfl := r.ints_of
        have m0 := minL_mem hne
        refine .inr ⟨a, ns, rfl, h, List.length_pos_iff.mpr hne, fun m hm hb => ?_⟩
        have e2 : m = minL ns := Int.le_antisymm (hb _ m0.1) (m0.2 m hm)
        rw [e2]
        exact q _ F H (.refl s) (.int _)
  · cases eo
theorem cd_sum : CallD K (rSum K) fSum := fun xs ds o F H Q s cs eo q => by
  unfold fSum at eo
  split at eo
  · rename_i ds
    obtain ⟨x, rfl, c⟩ := cs.one
    obtain ⟨ns, e, rfl⟩ := Option.map_eq_some_iff.mp eo
    obtain rfl := intsOf_some e
    obtain ⟨a, ys, rfl, h, r, _⟩ := c.sqL s
    obtain rfl := r.ints_of
    exact ⟨a, ns, rfl, h, q _ F H (.refl s) (.int _)⟩
  · cases eo
theorem cd_any : CallD K (rAny K) fAny := fun xs ds o F H Q s cs eo q => by
  unfold fAny at eo
  split at eo
  · rename_i ds
    obtain ⟨x, rfl, c⟩ := cs.one
    obtain ⟨ns, e, rfl⟩ := Option.map_eq_some_iff.mp eo
    obtain rfl := blsOf_some e
    obtain ⟨a, ys, rfl, h, r, _⟩ := c.sqL s
    obtain rfl := r.bls_of
    exact ⟨a, ns, rfl, h, q _ F H (.refl s) (.bl _)⟩
  · cases eo
theorem cd_all : CallD K (rAll K) fAll := fun xs ds o F H Q s cs eo q => by
  unfold fAll at eo
  split at eo
  · rename_i ds
    obtain ⟨x, rfl, c⟩ := cs.one
    obtain ⟨ns, e, rfl⟩ := Option.map_eq_some_iff.mp eo
    obtain rfl := blsOf_some e
    obtain ⟨a, ys, rfl, h, r, _⟩ := c.sqL s
    obtain rfl := r.bls_of
    exact ⟨a, ns, rfl, h, q _ F H (.refl s) (.bl _)⟩
  · cases eo
theorem cd_int : CallD K (fun xs H Q => (∃ i, xs = [.int i] ∧ Q (.int i) H) ∨ ∃ k, xs = [.bl k] ∧ Q (.int (if k then 1 else 0)) H) fInt := fun xs ds o F H Q s cs eo q => by
  unfold fInt at eo
  split at eo
  · cases eo
    obtain ⟨x, rfl, c⟩ := cs.one
    obtain rfl := c.int
    exact .inl ⟨_, rfl, q _ F H (.refl s) (.int _)⟩
  · cases eo
    obtain ⟨x, rfl, c⟩ := cs.one
    obtain rfl := c.bl
    exact .inr ⟨_, rfl, q _ F H (.refl s) (.int _)⟩
  · cases eo
theorem cd_str : CallD K (fun xs H Q => ∃ i : Int, xs = [.int i] ∧ i.natAbs.log2 < 1920 ∧ Q (.str (toString i)) H) fStr := fun xs ds o F H Q s cs eo q => by
  unfold fStr at eo
  split at eo
  · split at eo
    · rename_i h
      cases eo
      obtain ⟨x, rfl, c⟩ := cs.one
      obtain rfl := c.int
      exact ⟨_, rfl, h, q _ F H (.refl s) (.str _)⟩
    · cases eo
  · cases eo
theorem cd_tuple : CallD K (fun xs H Q => ∃ p ys, xs = [.ref p] ∧ ((SqL K H p ys ∧ ∀ l, H l = none → Q (.ref l) (upd H l (.tup ys))) ∨ (SqT K H p ys ∧ Q (.ref p) H))) fTuple := fun xs ds o F H Q s cs eo q => by
  unfold fTuple at eo
  split at eo
  · cases eo
    obtain ⟨x, rfl, c⟩ := cs.one
    obtain ⟨a, ys, rfl, h, r, l⟩ := c.sqL s
    refine ⟨a, ys, rfl, .inl ⟨h, fun z hz => ?_⟩⟩
    obtain ⟨g, r⟩ := new_tup s hz r l
    exact q _ _ _ g r
  · cases eo
    obtain ⟨x, rfl, c⟩ := cs.one
    obtain ⟨a, ys, rfl, h, r, l, r0⟩ := c.tup s
    exact ⟨a, ys, rfl, .inr ⟨.of h, q _ F H (.refl s) r0⟩⟩
  · cases eo
theorem cd_list : CallD K (fun xs H Q => ∃ p ys, xs = [.ref p] ∧ (SqL K H p ys ∨ SqT K H p ys) ∧ ∀ l, H l = none → Q (.ref l) (upd H l (.lst ys))) fList := fun xs ds o F H Q s cs eo q => by
  unfold fList at eo
  split at eo
  · cases eo
    obtain ⟨x, rfl, c⟩ := cs.one
    obtain ⟨a, ys, rfl, h, r, l⟩ := c.sqL s
    refine ⟨a, ys, rfl, .inl h, fun z hz => ?_⟩
    obtain ⟨g, r⟩ := new_lst s hz r l
    exact q _ _ _ g r
  · cases eo
    obtain ⟨x, rfl, c⟩ := cs.one
    obtain ⟨a, ys, rfl, h, r, l, r0⟩ := c.tup s
    refine ⟨a, ys, rfl, .inr (.of h), fun z hz => ?_⟩
    obtain ⟨g, r⟩ := new_lst s hz r l
    exact q _ _ _ g r
  · cases eo
theorem tyX_of {x : D} {m : String} (c : Cont K F H v x) (s : Sub F H) (e : tyName x = some m) : TyX K H v (.type m) ∨ ∃ a o kvs, v = .ref a ∧ H a = some (.frz o (.dT kvs)) ∧ m = "dict" := by
  cases x with
  | non => cases e; obtain rfl := c.non; exact .inl (.base .non)
  | bl b => cases e; obtain rfl := c.bl; exact .inl (.base (.bl _))
  | int b => cases e; obtain rfl := c.int; exact .inl (.base (.int _))
  | str b => cases e; obtain rfl := c.str; exact .inl (.base (.str _))
  | lst ds => cases e; obtain ⟨a, ys, rfl, h, _⟩ := c.lst s; exact .inl (.base (.lst h))
  | tup ds => cases e; obtain ⟨a, ys, rfl, h, _⟩ := c.tup s; exact .inl (.base (.tup h))
  | dct ds =>
    cases e
    obtain ⟨_, a, rfl, hd⟩ := c.dct s
    rcases hd with ⟨w, hw, r⟩ | ⟨w, hw, r⟩
    · rcases hw with hw | ⟨o, hw⟩
      · exact .inl (.base (.dK hw))
      · exact .inl (.fDict hw)
    · rcases hw with hw | ⟨o, hw⟩
      · exact .inl (.base (.dT hw))
      · exact .inr ⟨a, o, w, rfl, hw, rfl⟩
  | scr ns =>
    cases e
    obtain ⟨a, rfl, h, _⟩ := c.scr s
    rcases h with (h | ⟨o, h⟩) | ⟨o, its, n, hk, hc, _⟩
    · exact .inl (.base (.lst h))
    · exact .inl (.base (.frz h))
    · exact .inl (.kList hk hc)
  | _ => cases e
def rIsi2 (K : PySem.W.Frag) : List V → Hp → VK → Prop := fun xs H Q => rIsi K xs H Q ∨ ∃ (a : Addr) (o : Obj) (kvs : List (List Key × V)) (n : String) (b : Bool), xs = [.ref a, .ty n] ∧ H a = some (.frz o (.dT kvs)) ∧ PySem.W.kitOne K (.type "dict") (.type n) = some b ∧ Q (.bl b) H
theorem call_isi2 {X : Cx} : CallR X (.builtin "isinstance") (rIsi2 X.K) := by
  refine call_isi.or ?_
  intro pins s σ H xs us Q I r h
  obtain ⟨a, ob, kvs, n, b, rfl, ea, e, q⟩ := h
  obtain ⟨u1, u2, rfl, r1, r2⟩ := vals2 r
  cases r1
  cases r2
  obtain ⟨_, _, _, vs, _, o, es, ep, h1, h2, _⟩ := (show ObjOk X.prog X.w H s.heap a (.frz ob (.dT kvs)) from I.hok a _ ea)
  exact PySem.W.kia_one PySem.W.kitx_dict I.kIn ⟨o, h1, h2.1⟩ e (fun z => nomatch z) fun tk => ⟨.bl b, H, I.tok tk, rfl, q⟩
theorem kit_all : ∀ m ∈ ["NoneType", "bool", "int", "str", "list", "tuple", "dict"], ∀ n ∈ ["int", "bool", "str", "tuple", "list", "dict"], kitB m n = some (isTy m n) := by decide +kernel
theorem tyName_mem {x : D} {m : String} (e : tyName x = some m) : m ∈ ["NoneType", "bool", "int", "str", "list", "tuple", "dict"] := by
  cases x <;> simp [tyName] at e <;> subst e <;> simp
theorem cd_isi : CallD K (rIsi2 K) fIsi := fun xs ds o F H Q s cs eo q => by
  unfold fIsi at eo
  split at eo
  · rename_i x n
    obtain ⟨x1, y1, rfl, c1, c2⟩ := cs.two
    cases e : tyName x with
    | none => rw [e] at eo; cases eo
    | some m =>
      rw [e, Option.bind_some] at eo
      split at eo
      · rename_i hn
        cases eo
        obtain rfl := c2.ty
        rcases tyX_of c1 s e with ty | ⟨a, ob, kvs, rfl, ha, rfl⟩
        · exact .inl ⟨_, _, _, _, _, rfl, .ty n, ty, kit_ty (kit_all m (tyName_mem e) n hn), q _ F H (.refl s) (.bl _)⟩
        · exact .inr ⟨a, ob, kvs, n, _, rfl, ha, kit_ty (kit_all _ (tyName_mem e) n hn), q _ F H (.refl s) (.bl _)⟩
      · cases eo
  · cases eo
end
end Pd

set_option Elab.async false
set_option linter.all false
set_option maxRecDepth 100000
set_option maxHeartbeats 1000000
namespace Pd
open PySem PySem.Spec L2

def isStar : PySem.Expr → Bool
  | .Starred .. => true
  | _ => false
theorem star_cons {e : PySem.Expr} {es : List PySem.Expr} {env : Env} (h : isStar e = false) : starEach (e :: es) env = (false, eval e env) :: starEach es env := by
  cases e <;> first | rfl | cases h
theorem star_plain {pos : Pos} {env : Env} : ∀ {es : List PySem.Expr}, es.all (fun e => !isStar e) = true → (backTo pos (starEach es env)).any (·.1) = false
  | [], _ => rfl
  | e :: es, h => by
    have h' : isStar e = false ∧ es.all (fun e => !isStar e) = true := by simpa using h
    rw [star_cons h'.1]
    show (false || (backTo pos (starEach es env)).any (·.1)) = false
    rw [star_plain h'.2]; rfl
theorem star_few {pos : Pos} {env : Env} : ∀ {es : List PySem.Expr}, es.all (fun e => !isStar e) = true → (backTo pos (starEach es env)).all (fun x => !x.1) = true
  | [], _ => rfl
  | e :: es, h => by
    have h' : isStar e = false ∧ es.all (fun e => !isStar e) = true := by simpa using h
    rw [star_cons h'.1]
    show (true && (backTo pos (starEach es env)).all (fun x => !x.1)) = true
    rw [star_few h'.2]; rfl
def isSuper : PySem.Expr → Bool
  | .Call (.Name id _) [] [] _ => id == ("super" : Str)
  | _ => false
theorem attr_base {o : PySem.Expr} {m : Str} {env : Env} {w : Sem Value} (h : isSuper o = false) : attributeBase o m env w = w := by
  unfold attributeBase
  split
  · rename_i id p pos
    have h : (id == ("super" : Str)) = false := h
    have h2 : (id != ("super" : Str)) = true := by rw [bne, h]; rfl
    simp only [h2, Bool.true_or, if_true]
  · rfl
def isSlice : PySem.Expr → Bool
  | .Slice .. => true
  | _ => false
theorem plain_ix {b : PySem.Expr} (h : isSlice b = false) : PlainIx b := fun o i => by
  cases b <;> first | rfl | cases h
def isLogic : PySem.Expr → Bool
  | .UnaryOp .Not _ _ => true
  | .BoolOp .. => true
  | .IfExp .. => true
  | .Compare .. => true
  | _ => false
theorem test_plain {e : PySem.Expr} {env : Env} (h : isLogic e = false) : ∀ whole, isTrue e env whole = (do let v ← whole; standAt e.pos; holding [v] (truthy v)) := fun whole => by
  cases e with
  | UnaryOp op x p => cases op <;> first | rfl | cases h
  | _ => first | rfl | cases h
def isSetE : PySem.Expr → Bool
  | .Set .. => true
  | _ => false
theorem behind_of {op : CmpOp} {e : PySem.Expr} (h : isSetE e = false) : behindInMarks op e = false := by
  cases e <;> first | rfl | cases h
theorem lastMarks_of {op op' : CmpOp} {b c : PySem.Expr} (h : isSetE c = false) : lastMarks [op, op'] [b, c] = false := by
  show lastMarks [op'] [c] = false
  exact behind_of h
theorem folded_of {e : PySem.Expr} {env : Env} (h : isSetE e = false) : ∀ x, foldedSetIterable e env x = pure x := fun x => by
  unfold foldedSetIterable
  cases e <;> first | rfl | cases h
def isComp : PySem.Expr → Bool
  | .ListComp .. => true
  | .SetComp .. => true
  | .DictComp .. => true
  | _ => false
theorem swaps_of {e : PySem.Expr} {t : Option PySem.Expr} {l : Nat} {env : Env} (h : isComp e = false) : swapsWith e t l env = pure false := by
  unfold swapsWith
  cases e <;> first | rfl | cases h

section
variable (X : Cx) (E : Ex T)
def SE (e : PySem.Expr) (f : Gm → R O) : Prop := ∃ t, PE X e t ∧ GE X.K X.mg E t f
def SR (e : PySem.Expr) (f : Gm → R D) : Prop := ∃ t, PE X e t ∧ GR X.K X.mg E t f
def SV (e : PySem.Expr) (f : Gm → R D) : Prop := ∃ t, PE X e t ∧ GV X.K X.mg E t f
def ST (e : PySem.Expr) (f : Gm → R Bool) : Prop := ∃ t, PT X e t ∧ GT X.K X.mg E t f
def SA (es : List PySem.Expr) (f : Gm → R (List D)) : Prop := ∃ t, PA X es t ∧ GA X.K X.mg E t f
def SI (es : List PySem.Expr) (f : Gm → R (List D)) : Prop := ∃ t, PA X es t ∧ GI X.K X.mg E t f
end
section
variable {X : Cx} {E : Ex T} {e a b c : PySem.Expr} {es : List PySem.Expr} {pos : Pos}
theorem SE.none : SE X E e (fun _ => .stuck) := ⟨fun _ _ _ => False, ⟨fun _ _ _ _ _ _ h => h.elim⟩, fun _ _ _ _ _ _ _ _ h => h⟩
theorem SR.none : SR X E e (fun _ => .stuck) := ⟨fun _ _ _ => False, ⟨fun _ _ _ _ _ _ h => h.elim⟩, fun _ _ _ _ _ _ _ _ h => h⟩
theorem ST.none : ST X E e (fun _ => .stuck) := ⟨fun _ _ _ => False, ⟨fun _ _ _ _ _ _ h => h.elim⟩, fun _ _ _ _ _ _ _ _ h => h⟩
theorem SA.none : SA X E es (fun _ => .stuck) := ⟨fun _ _ _ => False, ⟨fun _ _ _ _ _ _ _ h => h.elim⟩, fun _ _ _ _ _ _ _ _ h => h⟩
theorem SI.none : SI X E es (fun _ => .stuck) := ⟨fun _ _ _ => False, ⟨fun _ _ _ _ _ _ _ h => h.elim⟩, fun _ _ _ _ _ _ _ _ h => h⟩
def rd (f : Gm → R O) : Gm → R D := fun Γ => (f Γ).bind fun o => .ok o.d
def vl (f : Gm → R O) : Gm → R D := fun Γ => (f Γ).bind O.val
theorem SE.read {f : Gm → R O} (h : SE X E e f) : SR X E e (rd f) := let ⟨t, p, g⟩ := h; ⟨t, p, GE.read g⟩
theorem SE.val {f : Gm → R O} (h : SE X E e f) : SV X E e (vl f) := let ⟨t, p, g⟩ := h; ⟨t, p, GE.val g⟩
def eC (d : D) : Gm → R O := fun _ => .ok (.v d)
theorem ge_C {v : V} {d : D} (h : ∀ F, Rep X.K F v d) : GE X.K X.mg E (tC v) (eC d) := fun Γ F0 H0 F H σ Q I q => q v F H (.refl I.sub) (h F)
def constD : Const → Option D
  | .none => some .non
  | .bool b => some (.bl b)
  | .int i => some (.int i)
  | .str s => some (.str s)
  | _ => none
def eConst (c : Const) : Gm → R O := match constD c with
  | some d => eC d
  | none => fun _ => .stuck
theorem se_const {c : Const} {k : Nat} : SE X E (.Constant c k pos) (eConst c) := by
  cases c with
  | none => exact ⟨_, pe_non, ge_C fun _ => .non⟩
  | bool b => exact ⟨_, pe_bl, ge_C fun _ => .bl b⟩
  | int b => exact ⟨_, pe_int, ge_C fun _ => .int b⟩
  | str b => exact ⟨_, pe_str, ge_C fun _ => .str b⟩
  | _ => exact SE.none
def eVar (i : Nat) : Gm → R O := fun Γ => match Γ[i]? with
  | some (.val d) => .ok (.v d)
  | _ => .stuck
def rVar (i : Nat) : Gm → R D := fun Γ => match Γ[i]? with
  | some (.val d) => .ok d
  | some (.own d) => .ok d
  | some (.bor d) => .ok d
  | _ => .stuck
theorem getD_some {σ : L2.St} {i : Nat} {v : V} (h : σ.getD i none = some v) : σ[i]? = some (some v) := by
  rw [List.getD_eq_getElem?_getD] at h
  cases e : σ[i]? with
  | none => rw [e] at h; cases h
  | some o => rw [e] at h; rw [show o = some v from h]
theorem ge_var {i : Nat} : GE X.K X.mg E (tVar i) (eVar i) := fun Γ F0 H0 F H σ Q I q => by
  unfold eVar at q
  cases e : Γ[i]? with
  | none => rw [e] at q; exact q.elim
  | some s =>
    rw [e] at q
    cases s with
    | val d =>
      obtain ⟨v, ev, r⟩ := I.slot i _ e
      exact ⟨v, getD_some ev, q v F H (.refl I.sub) r⟩
    | _ => exact q.elim
theorem gr_var {i : Nat} : GR X.K X.mg E (tVar i) (rVar i) := fun Γ F0 H0 F H σ Q I q => by
  unfold rVar at q
  cases e : Γ[i]? with
  | none => rw [e] at q; exact q.elim
  | some s =>
    rw [e] at q
    cases s with
    | val d =>
      obtain ⟨v, ev, r⟩ := I.slot i _ e
      exact ⟨v, getD_some ev, q v F H (.refl I.sub) (.rep r)⟩
    | own d =>
      obtain ⟨p, ev, n0, nF, r⟩ := I.slot i _ e
      exact ⟨_, getD_some ev, q _ F H (.refl I.sub) (.own r)⟩
    | bor d =>
      obtain ⟨p, ev, r⟩ := I.slot i _ e
      exact ⟨_, getD_some ev, q _ F H (.refl I.sub) (.own (r.ext (Same.refl _) I.hH))⟩
    | un => exact q.elim
section
variable {i : Nat} {x : Str}
theorem se_var (hN : X.N[i]? = some x) (hv : Vis X.env.scope x) (hd : (x == ("__debug__" : Str)) = false) (hcd : (x == ("__classdict__" : Str)) = false) : SE X E (.Name x pos) (eVar i) := ⟨_, pe_var hN hv hd hcd, ge_var⟩
theorem sr_var (hN : X.N[i]? = some x) (hv : Vis X.env.scope x) (hd : (x == ("__debug__" : Str)) = false) (hcd : (x == ("__classdict__" : Str)) = false) : SR X E (.Name x pos) (rVar i) := ⟨_, pe_var hN hv hd hcd, gr_var⟩
end
theorem se_bin {op : Operator} {fa fb : Gm → R D} (ha : SR X E a fa) (hb : SR X E b fb) : SE X E (.BinOp a op b pos) (e2 (dBin op) fa fb) := by
  obtain ⟨ta, pa, ga⟩ := ha
  obtain ⟨tb, pb, gb⟩ := hb
  obtain ⟨r, ho, hd⟩ := bin_ok (X := X) op
  exact ⟨_, pe_op ho pa pb, ge_op hd ga gb⟩
theorem se_cmp {op : CmpOp} {fa fb : Gm → R D} (hu : X.A.units + 100 < cLine) (ha : SR X E a fa) (hb : SR X E b fb) (hs : isSetE b = false) : SE X E (.Compare a [op] [b] pos) (e2 (dCmp op) fa fb) := by
  obtain ⟨ta, pa, ga⟩ := ha
  obtain ⟨tb, pb, gb⟩ := hb
  obtain ⟨r, ho, hd⟩ := cmp_ok (X := X) hu op
  exact ⟨_, pe_cmpR ho pa pb (behind_of hs), ge_op hd ga gb⟩
def isB (f : Gm → R O) : Gm → R Bool := fun Γ => (f Γ).bind fun o => match o with
  | .v (.bl b) => .ok b
  | _ => .stuck
theorem gt_of_ge {t : TE} {f : Gm → R O} (h : GE X.K X.mg E t f) : GT X.K X.mg E (tTest t) (isB f) := fun Γ F0 H0 F H σ Q I p =>
  h Γ F0 H0 F H σ _ I (R.post_imp (R.post_bind p) fun o q v F' H' g r => by
    cases o with
    | v d =>
      cases d with
      | bl b =>
        cases (show Rep X.K F' v (.bl b) from r)
        exact ⟨b, rfl, q F' H' g⟩
      | _ => exact q.elim
    | o d => exact q.elim)
theorem st_cmp {op : CmpOp} {fa fb : Gm → R D} (hu : X.A.units + 100 < cLine) (ha : SR X E a fa) (hb : SR X E b fb) (hs : isSetE b = false) : ST X E (.Compare a [op] [b] pos) (isB (e2 (dCmp op) fa fb)) := by
  obtain ⟨ta, pa, ga⟩ := ha
  obtain ⟨tb, pb, gb⟩ := hb
  obtain ⟨r, ho, hd⟩ := cmp_ok (X := X) hu op
  exact ⟨_, pt_cmpR ho pa pb (behind_of hs), gt_of_ge (ge_op hd ga gb)⟩
def e3 (op op' : D → D → Option O) (fa fb fc : Gm → R D) : Gm → R O := fun Γ => (fa Γ).bind fun a => (fb Γ).bind fun b => match op a b with
  | some (.v (.bl true)) => (fc Γ).bind fun c => R.of (op' b c)
  | some (.v (.bl false)) => .ok (.v (.bl false))
  | _ => .stuck
theorem ge_chain {r r' : R2} {op op' : D → D → Option O} {ta tb tc : TE} {fa fb fc : Gm → R D} (h : OpD X.K r op) (h' : OpD X.K r' op') (ha : GR X.K X.mg E ta fa) (hb : GR X.K X.mg E tb fb) (hc : GR X.K X.mg E tc fc) : GE X.K X.mg E (tChain r r' ta tb tc) (e3 op op' fa fb fc) := fun Γ F0 H0 F H σ Q I p =>
  ha Γ F0 H0 F H σ _ I (R.post_imp (R.post_bind p) fun a p1 x F1 H1 g1 c1 =>
    hb Γ F0 H0 F1 H1 σ _ (I.grow g1) (R.post_mono (R.post_bind p1) (fun b _ p2 y F2 H2 g2 c2 => by
      have g12 := g1.trans g2
      cases eo : op a b with
      | none => rw [eo] at p2; exact p2.elim
      | some o =>
        rw [eo] at p2
        refine h x y a b o F2 H2 _ g2.sub (c1.grow g2) c2 eo fun v F3 H3 g3 r3 => ?_
        have g13 := g12.trans g3
        cases o with
        | o d => exact p2.elim
        | v d =>
          cases d with
          | bl k =>
            cases (show Rep X.K F3 v (.bl k) from r3)
            refine ⟨k, rfl, ?_⟩
            cases k with
            | false => exact p2 _ F3 H3 g13 (.bl false)
            | true =>
              rw [if_pos rfl]
              refine hc Γ F0 H0 F3 H3 σ _ (I.grow g13) (R.post_mono (R.post_bind p2) (fun c _ p3 z F4 H4 g4 c4 => ?_) fun n e => e.on g13)
              obtain ⟨o', eo', q⟩ := of_post p3
              exact h' y z b c o' F4 H4 Q g4.sub ((c2.grow g3).grow g4) c4 eo' fun v F5 H5 g5 r5 => q v F5 H5 ((g13.trans g4).trans g5) (r5.back (g13.trans g4).hh)
          | _ => exact p2.elim) fun n e => e.on g1))
theorem se_chain {op op' : CmpOp} {fa fb fc : Gm → R D} (hu : X.A.units + 100 < cLine) (ha : SR X E a fa) (hb : SR X E b fb) (hc : SR X E c fc) (hs : isSetE c = false) : SE X E (.Compare a [op, op'] [b, c] pos) (e3 (dCmp op) (dCmp op') fa fb fc) := by
  obtain ⟨ta, pa, ga⟩ := ha
  obtain ⟨tb, pb, gb⟩ := hb
  obtain ⟨tc, pc, gc⟩ := hc
  obtain ⟨r, ho, hd⟩ := cmp_ok (X := X) hu op
  obtain ⟨r', ho', hd'⟩ := cmp_ok (X := X) hu op'
  exact ⟨_, pe_chain ho ho' pa pb pc (lastMarks_of hs), ge_chain hd hd' ga gb gc⟩
theorem st_chain {op op' : CmpOp} {fa fb fc : Gm → R D} (hu : X.A.units + 100 < cLine) (ha : SR X E a fa) (hb : SR X E b fb) (hc : SR X E c fc) (hs : isSetE c = false) : ST X E (.Compare a [op, op'] [b, c] pos) (isB (e3 (dCmp op) (dCmp op') fa fb fc)) := by
  obtain ⟨ta, pa, ga⟩ := ha
  obtain ⟨tb, pb, gb⟩ := hb
  obtain ⟨tc, pc, gc⟩ := hc
  obtain ⟨r, ho, hd⟩ := cmp_ok (X := X) hu op
  obtain ⟨r', ho', hd'⟩ := cmp_ok (X := X) hu op'
  exact ⟨_, pt_chain ho ho' pa pb pc (lastMarks_of hs), gt_of_ge (ge_chain hd hd' ga gb gc)⟩
def truD : D → Option Bool
  | .non => some false
  | .bl b => some b
  | .int i => some (i != 0)
  | .str y => if y.length ≤ line then some ((y.length : Int) != 0) else none
  | .lst ds => some (!ds.isEmpty)
  | .tup ds => some (!ds.isEmpty)
  | _ => none
theorem empty_len {α β : Type} {xs : List α} {ds : List β} (e : xs.length = ds.length) : xs.isEmpty = ds.isEmpty := by
  cases xs <;> cases ds <;> first | rfl | simp at e
theorem tru_of {F : Fz T} {H : Hp} {v : V} {d : D} {k : Bool} (cv : Cont X.K F H v d) (s : Sub F H) (e : truD d = some k) : TruV X.K v H k := by
  cases d with
  | non => obtain rfl := cv.non; cases e; exact rfl
  | bl b => obtain rfl := cv.bl; cases e; exact rfl
  | int b => obtain rfl := cv.int; cases e; exact rfl
  | str y =>
    obtain rfl := cv.str
    have e : (if y.length ≤ line then some ((y.length : Int) != 0) else none) = some k := e
    split at e
    · rename_i h; cases e; exact ⟨by rw [line_eq]; exact h, rfl⟩
    · cases e
  | lst ds =>
    obtain ⟨p, xs, rfl, h, r, _⟩ := cv.lst s
    cases e
    exact .inl ⟨xs, .of h, by rw [empty_len r.length]⟩
  | tup ds =>
    obtain ⟨p, xs, rfl, h, r, _⟩ := cv.tup s
    cases e
    exact .inr (.inl ⟨xs, .of h, by rw [empty_len r.length]⟩)
  | _ => cases e
def tTru (f : Gm → R D) : Gm → R Bool := fun Γ => (f Γ).bind fun d => R.of (truD d)
theorem st_truth {f : Gm → R D} (h : SR X E e f) (hl : isLogic e = false) : ST X E e (tTru f) := by
  obtain ⟨t, p, g⟩ := h
  refine ⟨_, pt_truth p (test_plain hl), fun Γ F0 H0 F H σ Q I q => ?_⟩
  refine g Γ F0 H0 F H σ _ I (R.post_imp (R.post_bind q) fun d q v F' H' gr c => ?_)
  obtain ⟨k, ek, q⟩ := of_post q
  exact ⟨k, tru_of c gr.sub ek, q F' H' gr⟩
def tNotF (f : Gm → R Bool) : Gm → R Bool := fun Γ => (f Γ).bind fun b => .ok (!b)
theorem st_not {f : Gm → R Bool} (h : ST X E a f) : ST X E (.UnaryOp .Not a pos) (tNotF f) := by
  obtain ⟨t, p, g⟩ := h
  exact ⟨_, pt_not p, fun Γ F0 H0 F H σ Q I q => g Γ F0 H0 F H σ _ I (R.post_bind q)⟩
def tAndF : List (Gm → R Bool) → Gm → R Bool
  | [] => fun _ => .stuck
  | [f] => f
  | f :: r => fun Γ => (f Γ).bind fun b => if b = true then tAndF r Γ else .ok false
def tOrF : List (Gm → R Bool) → Gm → R Bool
  | [] => fun _ => .stuck
  | [f] => f
  | f :: r => fun Γ => (f Γ).bind fun b => if b = true then .ok true else tOrF r Γ
inductive STs (X : Cx) (E : Ex T) : List PySem.Expr → List (Gm → R Bool) → Prop where
  | nil : STs X E [] []
  | cons {e es f fs} : ST X E e f → STs X E es fs → STs X E (e :: es) (f :: fs)
theorem gt_or {t u : TT} {f g : Gm → R Bool} (h : GT X.K X.mg E t f) (h' : GT X.K X.mg E u g) : GT X.K X.mg E (tOr t u) (fun Γ => (f Γ).bind fun b => if b = true then .ok true else g Γ) := fun Γ F0 H0 F H σ Q I q =>
  h Γ F0 H0 F H σ _ I (R.post_imp (R.post_bind q) fun b q F' H' gr => by
    cases b with
    | true => exact q F' H' gr
    | false => exact h' Γ F0 H0 F' H' σ Q (I.grow gr) (R.post_mono q (fun b _ q F2 H2 g2 => q F2 H2 (gr.trans g2)) fun n e => e.on gr))
theorem sw_or (pos : Pos) : ∀ {es : List PySem.Expr} {fs : List (Gm → R Bool)}, STs X E es fs → es ≠ [] → ∃ t, PW X (.BoolOp .Or es pos) t ∧ GT X.K X.mg E t (tOrF fs)
  | _, _, .nil, h => absurd rfl h
  | _, _, .cons ⟨t, p, g⟩ .nil, _ => ⟨t, pw_or1 p, g⟩
  | _, _, .cons ⟨t, p, g⟩ (.cons h2 r), _ => by
    obtain ⟨u, pu, gu⟩ := sw_or pos (.cons h2 r) (by simp)
    exact ⟨_, pw_or p pu, gt_or g gu⟩
theorem st_or {fs : List (Gm → R Bool)} (h : STs X E es fs) (hn : es ≠ []) : ST X E (.BoolOp .Or es pos) (tOrF fs) := let ⟨t, p, g⟩ := sw_or pos h hn; ⟨t, p.pt, g⟩
inductive SEs (X : Cx) (E : Ex T) : List PySem.Expr → List (Gm → R O) → Prop where
  | nil : SEs X E [] []
  | cons {e es f fs} : SE X E e f → SEs X E es fs → SEs X E (e :: es) (f :: fs)
def vAndF : List (Gm → R O) → Gm → R O
  | [] => fun _ => .stuck
  | [f] => f
  | f :: r => fun Γ => (f Γ).bind fun o => (R.of (truD o.d)).bind fun k => if k = true then vAndF r Γ else .ok o
def vOrF : List (Gm → R O) → Gm → R O
  | [] => fun _ => .stuck
  | [f] => f
  | f :: r => fun Γ => (f Γ).bind fun o => (R.of (truD o.d)).bind fun k => if k = true then .ok o else vOrF r Γ
theorem ge_andT {t u : TE} {f g : Gm → R O} (h : GE X.K X.mg E t f) (h' : GE X.K X.mg E u g) : GE X.K X.mg E (tAndT X.K t u) (fun Γ => (f Γ).bind fun o => (R.of (truD o.d)).bind fun k => if k = true then g Γ else .ok o) := fun Γ F0 H0 F H σ Q I q =>
  h Γ F0 H0 F H σ _ I (R.post_imp (R.post_bind q) fun o q v F' H' gr r => by
    obtain ⟨k, ek, q⟩ := of_post (R.post_bind q)
    refine ⟨k, tru_of r.cont gr.sub ek, ?_⟩
    cases k with
    | true => exact h' Γ F0 H0 F' H' σ Q (I.grow gr) (R.post_mono q (fun b _ q w F2 H2 g2 r2 => q w F2 H2 (gr.trans g2) (r2.back gr.hh)) fun n e => e.on gr)
    | false => exact q v F' H' gr r)
theorem se_and (pos : Pos) : ∀ {es : List PySem.Expr} {fs : List (Gm → R O)}, SEs X E es fs → es ≠ [] → SE X E (.BoolOp .And es pos) (vAndF fs)
  | _, _, .nil, h => absurd rfl h
  | _, _, .cons ⟨t, p, g⟩ .nil, _ => ⟨t, pe_one p, g⟩
  | _, _, .cons ⟨t, p, g⟩ (.cons h2 r), _ => by
    obtain ⟨u, pu, gu⟩ := se_and pos (.cons h2 r) (by simp)
    exact ⟨_, pe_andT p pu, ge_andT g gu⟩
def eNot (f : Gm → R D) : Gm → R O := fun Γ => (f Γ).bind fun d => (R.of (truD d)).bind fun k => .ok (.v (.bl (!k)))
theorem se_not {f : Gm → R D} (h : SR X E a f) : SE X E (.UnaryOp .Not a pos) (eNot f) := by
  obtain ⟨t, p, g⟩ := h
  refine ⟨_, pe_notT p, fun Γ F0 H0 F H σ Q I q => g Γ F0 H0 F H σ _ I (R.post_imp (R.post_bind q) fun d q v F' H' gr c => ?_)⟩
  obtain ⟨k, ek, q⟩ := of_post (R.post_bind q)
  exact ⟨k, tru_of c gr.sub ek, q _ F' H' gr (.bl _)⟩
def eNeg (f : Gm → R D) : Gm → R O := fun Γ => (f Γ).bind fun d => match d with
  | .int i => .ok (.v (.int (-i)))
  | _ => .stuck
theorem se_neg {f : Gm → R D} (h : SR X E a f) : SE X E (.UnaryOp .USub a pos) (eNeg f) := by
  obtain ⟨t, p, g⟩ := h
  refine ⟨_, pe_un un_neg p, fun Γ F0 H0 F H σ Q I q => g Γ F0 H0 F H σ _ I (R.post_imp (R.post_bind q) fun d q v F' H' gr c => ?_)⟩
  cases d with
  | int i =>
    obtain rfl := c.int
    exact ⟨i, rfl, q _ F' H' gr (.int _)⟩
  | _ => exact q.elim
def eIf (c : Gm → R Bool) (f g : Gm → R O) : Gm → R O := fun Γ => (c Γ).bind fun b => if b = true then f Γ else g Γ
theorem se_if {fc : Gm → R Bool} {f g : Gm → R O} (hc : ST X E c fc) (ha : SE X E a f) (hb : SE X E b g) : SE X E (.IfExp c a b pos) (eIf fc f g) := by
  obtain ⟨tc, pc, gc⟩ := hc
  obtain ⟨ta, pa, ga⟩ := ha
  obtain ⟨tb, pb, gb⟩ := hb
  refine ⟨_, pe_ifExp pc pa pb, fun Γ F0 H0 F H σ Q I q => gc Γ F0 H0 F H σ _ I (R.post_imp (R.post_bind q) fun b q F' H' gr => ?_)⟩
  cases b with
  | true => exact ga Γ F0 H0 F' H' σ Q (I.grow gr) (R.post_mono q (fun b _ q w F2 H2 g2 r2 => q w F2 H2 (gr.trans g2) (r2.back gr.hh)) fun n e => e.on gr)
  | false => exact gb Γ F0 H0 F' H' σ Q (I.grow gr) (R.post_mono q (fun b _ q w F2 H2 g2 r2 => q w F2 H2 (gr.trans g2) (r2.back gr.hh)) fun n e => e.on gr)
def seqR {α : Type} : List (Gm → R α) → Gm → R (List α)
  | [] => fun _ => .ok []
  | f :: r => fun Γ => (f Γ).bind fun a => (seqR r Γ).bind fun as => .ok (a :: as)
inductive SRs (X : Cx) (E : Ex T) : List PySem.Expr → List (Gm → R D) → Prop where
  | nil : SRs X E [] []
  | cons {e es f fs} : SR X E e f → isStar e = false → SRs X E es fs → SRs X E (e :: es) (f :: fs)
inductive SVs (X : Cx) (E : Ex T) : List PySem.Expr → List (Gm → R D) → Prop where
  | nil : SVs X E [] []
  | cons {e es f fs} : SV X E e f → isStar e = false → SVs X E es fs → SVs X E (e :: es) (f :: fs)
theorem SRs.plain : ∀ {es : List PySem.Expr} {fs : List (Gm → R D)}, SRs X E es fs → es.all (fun e => !isStar e) = true
  | _, _, .nil => rfl
  | _, _, .cons _ h r => by simpa [h] using SRs.plain r
theorem SVs.plain : ∀ {es : List PySem.Expr} {fs : List (Gm → R D)}, SVs X E es fs → es.all (fun e => !isStar e) = true
  | _, _, .nil => rfl
  | _, _, .cons _ h r => by simpa [h] using SVs.plain r
theorem sa_of : ∀ {es : List PySem.Expr} {fs : List (Gm → R D)}, SRs X E es fs → SA X E es (seqR fs)
  | _, _, .nil => ⟨_, pa_nil, fun Γ F0 H0 F H σ Q I q => q [] F H (.refl I.sub) .nil⟩
  | _, _, .cons ⟨t, p, g⟩ hs r => by
    obtain ⟨u, pu, gu⟩ := sa_of r
    refine ⟨_, pa_cons p pu (star_cons hs), fun Γ F0 H0 F H σ Q I q => ?_⟩
    refine g Γ F0 H0 F H σ _ I (R.post_imp (R.post_bind q) fun d q v F' H' gr c => ?_)
    refine gu Γ F0 H0 F' H' σ _ (I.grow gr) (R.post_mono (R.post_bind q) (fun ds _ q vs F2 H2 g2 cs => q _ F2 H2 (gr.trans g2) (.cons (c.grow g2) cs)) fun n e => e.on gr)
theorem si_of : ∀ {es : List PySem.Expr} {fs : List (Gm → R D)}, SVs X E es fs → SI X E es (seqR fs)
  | _, _, .nil => ⟨_, pa_nil, fun Γ F0 H0 F H σ Q I q => q [] F H (.refl I.sub) .nil⟩
  | _, _, .cons ⟨t, p, g⟩ hs r => by
    obtain ⟨u, pu, gu⟩ := si_of r
    refine ⟨_, pa_cons p pu (star_cons hs), fun Γ F0 H0 F H σ Q I q => ?_⟩
    refine g Γ F0 H0 F H σ _ I (R.post_imp (R.post_bind q) fun d q v F' H' gr c => ?_)
    refine gu Γ F0 H0 F' H' σ _ (I.grow gr) (R.post_mono (R.post_bind q) (fun ds _ q vs F2 H2 g2 cs => q _ F2 H2 (gr.trans g2) (.cons (c.mono g2.ff) cs)) fun n e => e.on gr)
def eTup (f : Gm → R (List D)) : Gm → R O := fun Γ => (f Γ).bind fun ds => if ds.length ≤ line then .ok (.v (.tup ds)) else .stuck
def eLst (f : Gm → R (List D)) : Gm → R O := fun Γ => (f Γ).bind fun ds => if ds.length ≤ line then .ok (.o (.lst ds)) else .stuck
theorem se_tup {k : Nat} {f : Gm → R (List D)} (h : SI X E es f) : SE X E (.Tuple es k pos) (eTup f) := by
  obtain ⟨t, p, g⟩ := h
  refine ⟨_, pe_tup p, fun Γ F0 H0 F H σ Q I q => g Γ F0 H0 F H σ _ I (R.post_imp (R.post_bind q) fun ds q vs F' H' gr rs => ?_)⟩
  split at q
  · rename_i hl
    refine ⟨by rw [rs.length, line_eq]; exact hl, fun z hz => ?_⟩
    obtain ⟨g', r'⟩ := new_tup gr.sub hz rs (by rw [line_eq]; exact hl)
    exact q _ _ _ (gr.trans g') (r'.back gr.hh)
  · exact q.elim
theorem se_lst {f : Gm → R (List D)} (h : SI X E es f) : SE X E (.List es pos) (eLst f) := by
  obtain ⟨t, p, g⟩ := h
  refine ⟨_, pe_lst p, fun Γ F0 H0 F H σ Q I q => g Γ F0 H0 F H σ _ I (R.post_imp (R.post_bind q) fun ds q vs F' H' gr rs => ?_)⟩
  split at q
  · rename_i hl
    refine ⟨by rw [rs.length, line_eq]; exact hl, fun z hz => ?_⟩
    obtain ⟨g', r'⟩ := new_lst gr.sub hz rs (by rw [line_eq]; exact hl)
    exact q _ _ _ (gr.trans g') (r'.back gr.hh)
  · exact q.elim
theorem se_dict0 : SE X E (.Dict [] [] pos) (fun _ => .ok (.o (.dct []))) :=
  ⟨_, pe_dnewK, fun Γ F0 H0 F H σ Q I q p hp => q (.ref p) F (upd H p (.dK [])) (.newO I.sub hp) ⟨p, rfl, .of hp, I.sub.free hp, .dctK upd_same .nil (Nat.zero_le _)⟩⟩
end
end Pd

set_option Elab.async false
set_option linter.all false
set_option maxRecDepth 100000
set_option maxHeartbeats 1000000
namespace Pd
open PySem PySem.Spec L2

def dIx : D → D → Option O
  | .lst ds, .int i => (atI ds i).map .v
  | .tup ds, .int i => (atI ds i).map .v
  | .scr ns, .int i => (atI ns i).map fun n => .v (.int n)
  | .str z, .int i => if z.length ≤ line then (atI z.cps.toList i).map fun c => .v (.str ⟨#[c]⟩) else none
  | .dct kvs, k => if isKey k = true ∧ kindK kvs k = true then (getK kvs k).map .v else none
  | _, _ => none
def rIxD (K : PySem.W.Frag) : R2 := fun x y H Q => rIx K x y H Q ∨ ∃ a v, x = .ref a ∧ DGet H a y (some v) ∧ Q v H
section
variable {X : Cx}
theorem ix_dict (hu : X.A.units + 1 < cLine) : IxR X (fun x y H Q => ∃ a v, x = .ref a ∧ DGet H a y (some v) ∧ Q v H) := by
  intro value slice pins s σ H x y v u Q I rx ry h hs
  obtain ⟨a, w, rfl, g, q⟩ := h
  cases rx
  exact PyProof.Rows.tail_any (dict_typeIs I g) PySem.F.slot_dict_getitem.lookup (d_getItem hu I g ry fun w' s' I' rw' => ⟨w, H, I', rw', q⟩) hs
theorem ix_D (hu : X.A.units + 1 < cLine) : IxR X (rIxD X.K) := ix_seq.or (ix_dict hu)
end
section
variable {K : PySem.W.Frag} {F F' : Fz T} {H H' : Hp} {v : V}
theorem Reps.atI {vs : List V} {ds : List D} {i : Int} {d : D} (r : Reps K F vs ds) (e : L2.atI ds i = some d) : ∃ v, L2.atI vs i = some v ∧ Rep K F v d := by
  unfold L2.atI at e ⊢
  rw [r.length]
  cases q : ixN ds.length i with
  | none => rw [q] at e; cases e
  | some j =>
    rw [q, Option.bind_some] at e
    obtain ⟨v, h1, h2⟩ := r.get e
    exact ⟨v, by rw [Option.bind_some]; exact h1, h2⟩
theorem atI_map {α β : Type} {f : α → β} {xs : List α} {i : Int} : atI (xs.map f) i = (atI xs i).map f := by
  unfold atI
  rw [List.length_map]
  cases ixN xs.length i with
  | none => rfl
  | some j => rw [Option.bind_some, Option.bind_some, List.getElem?_map]
theorem opd_ix : OpD K (rIxD K) dIx := fun x y a b o F H Q s ca cb eo q => by
  unfold dIx at eo
  split at eo
  · obtain ⟨d, e, rfl⟩ := Option.map_eq_some_iff.mp eo
    obtain ⟨p, xs, rfl, hp, r, _⟩ := ca.lst s
    obtain rfl := cb.int
    obtain ⟨w, e1, r1⟩ := r.atI e
    exact .inl (.inl ⟨p, xs, _, w, rfl, rfl, .of hp, e1, q w F H (.refl s) r1⟩)
  · obtain ⟨d, e, rfl⟩ := Option.map_eq_some_iff.mp eo
    obtain ⟨p, xs, rfl, hp, r, _⟩ := ca.tup s
    obtain rfl := cb.int
    obtain ⟨w, e1, r1⟩ := r.atI e
    exact .inl (.inr (.inl ⟨p, xs, _, w, rfl, rfl, .of hp, e1, q w F H (.refl s) r1⟩))
  · obtain ⟨d, e, rfl⟩ := Option.map_eq_some_iff.mp eo
    obtain ⟨p, rfl, hp, _⟩ := ca.scr s
    obtain rfl := cb.int
    exact .inl (.inl ⟨p, _, _, .int d, rfl, rfl, hp, by rw [atI_map, e]; rfl, q _ F H (.refl s) (.int _)⟩)
  · split at eo
    · rename_i hl
      obtain ⟨d, e, rfl⟩ := Option.map_eq_some_iff.mp eo
      obtain rfl := ca.str
      obtain rfl := cb.int
      exact .inl (.inr (.inr ⟨_, _, d, rfl, rfl, by rw [line_eq]; exact hl, e, q _ F H (.refl s) (.str _)⟩))
    · cases eo
  · split at eo
    · rename_i h
      obtain ⟨d, e, rfl⟩ := Option.map_eq_some_iff.mp eo
      obtain ⟨p, w, rfl, g, r⟩ := dget s cb ca h.1 h.2
      rw [e] at r
      cases w with
      | none => exact r.elim
      | some w =>
        rcases g with g | ⟨_, e2, _⟩ | ⟨_, e2, _⟩
        · exact .inr ⟨p, w, rfl, g, q w F H (.refl s) r⟩
        · cases e2
        · cases e2
    · cases eo
  · cases eo
end

def cutG {α : Type} (xs : List α) (lo hi : Option Int) : List α := (xs.drop (HT.sIx xs.length 0 lo)).take (HT.sIx xs.length xs.length hi - HT.sIx xs.length 0 lo)
def dSl : D → Option Int → Option Int → Option O
  | .lst ds, lo, hi => some (.o (.lst (cutG ds lo hi)))
  | .tup ds, lo, hi => some (.v (.tup (cutG ds lo hi)))
  | .str z, lo, hi => if z.length ≤ line then some (.v (.str ⟨(cutG z.cps.toList lo hi).toArray⟩)) else none
  | _, _, _ => none
def rSlD (K : PySem.W.Frag) : V → Option Int → Option Int → Hp → VK → Prop := fun x lo hi H Q => rSlL K x lo hi H Q ∨ rSlA K x lo hi H Q ∨ rSlS x lo hi H Q
section
variable {K : PySem.W.Frag} {F F' : Fz T} {H H' : Hp} {v : V}
end
section
variable {X : Cx} {E : Ex T} {e a b c : PySem.Expr} {es : List PySem.Expr} {pos p2 : Pos}
theorem se_ix {fa fb : Gm → R D} (hu : X.A.units + 1 < cLine) (ha : SR X E a fa) (hb : SR X E b fb) (hs : isSlice b = false) : SE X E (.Subscript a b pos) (e2 dIx fa fb) := by
  obtain ⟨ta, pa, ga⟩ := ha
  obtain ⟨tb, pb, gb⟩ := hb
  exact ⟨_, pe_ix (ix_D hu) pa pb (plain_ix hs), ge_op opd_ix ga gb⟩
def SO (X : Cx) (E : Ex T) (e : Option PySem.Expr) (f : Gm → R (Option Int)) : Prop := ∃ t, PO X e t ∧
  ∀ (Γ : Gm) (F0 : Fz T) (H0 : Hp) (F : Fz T) (H : Hp) (σ : L2.St) (Q : Option Int → Hp → Prop), EnvOk X.K F0 H0 F H σ Γ → (f Γ).post (fun i => ∀ F' H', Grow F H F' H' → Q i H') (Erp X.mg E F H) → t σ H Q
def noPart : Gm → R (Option Int) := fun _ => .ok none
def aPart (f : Gm → R D) : Gm → R (Option Int) := fun Γ => (f Γ).bind fun d => match d with
  | .int i => .ok (some i)
  | _ => .stuck
def eSl (fa : Gm → R D) (fl fh : Gm → R (Option Int)) : Gm → R O := fun Γ => (fa Γ).bind fun a => (fl Γ).bind fun lo => (fh Γ).bind fun hi => R.of (dSl a lo hi)
def bFn (x : Str) : Option (List D → Option O) :=
  if x = "len" then some fLen else if x = "abs" then some fAbs else if x = "max" then some fMax else if x = "min" then some fMin else if x = "sum" then some fSum
  else if x = "any" then some fAny else if x = "all" then some fAll else if x = "int" then some fInt else if x = "str" then some fStr else if x = "tuple" then some fTuple
  else if x = "list" then some fList else if x = "isinstance" then some fIsi else none
def BuiltinOk (X : Cx) (x : Str) (f : List D → Option O) : Prop :=
  (∃ id r, bootBuiltins x = some (.builtin id) ∧ CallR X (.builtin id) r ∧ CallD X.K r f) ∨ ∃ T r, bootBuiltins x = some (.type T) ∧ CallR X (.type T) r ∧ CallD X.K r f
theorem bFn_ok (hc : X.calm = true) {x : Str} {f : List D → Option O} (h : bFn x = some f) : BuiltinOk X x f ∧ x ≠ "__name__" ∧ (x == ("__debug__" : Str)) = false := by
  unfold bFn at h
  split at h
  · rename_i e; subst e; cases h
    exact ⟨.inl ⟨_, _, by decide +kernel, call_lenD, cd_len⟩, by decide, by decide⟩
  split at h
  · rename_i e; subst e; cases h
    exact ⟨.inl ⟨_, _, by decide +kernel, call_abs, cd_abs⟩, by decide, by decide⟩
  split at h
  · rename_i e; subst e; cases h
    exact ⟨.inl ⟨_, _, by decide +kernel, call_maxD hc, cd_max⟩, by decide, by decide⟩
  split at h
  · rename_i e; subst e; cases h
    exact ⟨.inl ⟨_, _, by decide +kernel, call_minD hc, cd_min⟩, by decide, by decide⟩
  split at h
  · rename_i e; subst e; cases h
    exact ⟨.inl ⟨_, _, by decide +kernel, cr_sum hc, cd_sum⟩, by decide, by decide⟩
  split at h
  · rename_i e; subst e; cases h
    exact ⟨.inl ⟨_, _, by decide +kernel, cr_any hc, cd_any⟩, by decide, by decide⟩
  split at h
  · rename_i e; subst e; cases h
    exact ⟨.inl ⟨_, _, by decide +kernel, cr_all hc, cd_all⟩, by decide, by decide⟩
  split at h
  · rename_i e; subst e; cases h
    exact ⟨.inr ⟨_, _, by decide +kernel, call_int1, cd_int⟩, by decide, by decide⟩
  split at h
  · rename_i e; subst e; cases h
    exact ⟨.inr ⟨_, _, by decide +kernel, call_str_int, cd_str⟩, by decide, by decide⟩
  split at h
  · rename_i e; subst e; cases h
    exact ⟨.inr ⟨_, _, by decide +kernel, call_tuple_of, cd_tuple⟩, by decide, by decide⟩
  split at h
  · rename_i e; subst e; cases h
    exact ⟨.inr ⟨_, _, by decide +kernel, call_list_of, cd_list⟩, by decide, by decide⟩
  split at h
  · rename_i e; subst e; cases h
    exact ⟨.inl ⟨_, _, by decide +kernel, call_isi2, cd_isi⟩, by decide, by decide⟩
  · cases h
def eCall (f : List D → Option O) (fa : Gm → R (List D)) : Gm → R O := fun Γ => (fa Γ).bind fun ds => R.of (f ds)
theorem ge_call {r : List V → Hp → VK → Prop} {f : List D → Option O} {t : TA} {fa : Gm → R (List D)} (h : CallD X.K r f) (ha : GA X.K X.mg E t fa) : GE X.K X.mg E (tCB r t) (eCall f fa) := fun Γ F0 H0 F H σ Q I q =>
  ha Γ F0 H0 F H σ _ I (R.post_imp (R.post_bind q) fun ds q vs F1 H1 g1 c1 => by
    obtain ⟨o, eo, q⟩ := of_post q
    exact h vs ds o F1 H1 Q g1.sub c1 eo fun w F2 H2 g2 r2 => q w F2 H2 (g1.trans g2) (r2.back g1.hh))
theorem se_call {x : Str} {p : Pos} {f : List D → Option O} {fs : List (Gm → R D)} (hb : BuiltinOk X x f) (hn : x ≠ "__name__") (hd : (x == ("__debug__" : Str)) = false) (hg : Gl X x) (hm : X.mg x = none) (ha : SRs X E (e :: es) fs) :
    SE X E (.Call (.Name x p) (e :: es) [] pos) (eCall f (seqR fs)) := by
  obtain ⟨t, pa, ga⟩ := sa_of ha
  have pl := ha.plain
  have hs : isStar e = false ∧ es.all (fun e => !isStar e) = true := by simpa using pl
  rcases hb with ⟨id, r, hv, hr, hcd⟩ | ⟨T, r, hv, hr, hcd⟩
  · exact ⟨_, pe_callB hr hg hm hv pa hn hd (star_cons hs.1) (star_plain hs.2), ge_call hcd ga⟩
  · exact ⟨_, pe_callTy hr hg hm hv pa hn hd (star_cons hs.1) (star_plain hs.2), ge_call hcd ga⟩
theorem se_type {x : Str} {n : String} (hg : Gl X x) (hm : X.mg x = none) (hv : bootBuiltins x = some (.type n)) (hn : x ≠ "__name__") (hd : (x == ("__debug__" : Str)) = false) : SE X E (.Name x pos) (eC (.ty n)) :=
  ⟨_, pe_bltn hg hm hv (v := .ty n) rfl hn hd, ge_C fun _ => .ty n⟩
theorem se_glob {x : Str} {u : Value} {v : V} {d : D} (hg : Gl X x) (hm : X.mg x = some u) (r : RelV v u) (hr : ∀ F, Rep X.K F v d) (hd : (x == ("__debug__" : Str)) = false) : SE X E (.Name x pos) (eC d) :=
  ⟨_, pe_glob hg hm r hd, ge_C hr⟩

def SlV (K : PySem.W.Frag) (F H : Hp) (v : V) : Sl → Prop
  | .val d => Rep K F v d
  | .bor d => ∃ p, v = .ref p ∧ OwnAt K F H p d
  | _ => False
inductive SlVs (K : PySem.W.Frag) (F H : Hp) : List V → List Sl → Prop where
  | nil : SlVs K F H [] []
  | cons {v : V} {s : Sl} {vs : List V} {ss : List Sl} : SlV K F H v s → SlVs K F H vs ss → SlVs K F H (v :: vs) (s :: ss)
theorem SlV.grow {K : PySem.W.Frag} {F F' : Fz T} {H H' : Hp} {v : V} {s : Sl} (h : SlV K F H v s) (g : Grow F H F' H') : SlV K F' H' v s := by
  cases s with
  | val d => exact Rep.mono g.ff h
  | bor d => obtain ⟨p, e, o⟩ := h; exact ⟨p, e, o.grow g⟩
  | _ => exact h
theorem SlVs.length {K : PySem.W.Frag} {F H : Hp} : ∀ {vs : List V} {ss : List Sl}, SlVs K F H vs ss → vs.length = ss.length
  | _, _, .nil => rfl
  | _, _, .cons _ t => by rw [List.length_cons, List.length_cons, SlVs.length t]
def GU (K : PySem.W.Frag) (mg : Str → Option Value) (E : Ex T) (t : TE) (f : Gm → R Sl) : Prop :=
  ∀ (Γ : Gm) (F0 : Fz T) (H0 : Hp) (F : Fz T) (H : Hp) (σ : L2.St) (Q : VK), EnvOk K F0 H0 F H σ Γ → (f Γ).post (fun s => ∀ v F' H', Grow F H F' H' → SlV K F' H' v s → Q v H') (Erp mg E F H) → t σ H Q
def SU (X : Cx) (E : Ex T) (e : PySem.Expr) (f : Gm → R Sl) : Prop := ∃ t, PE X e t ∧ GU X.K X.mg E t f
def uVal (f : Gm → R D) : Gm → R Sl := fun Γ => (f Γ).bind fun d => .ok (.val d)
def uVar (i : Nat) : Gm → R Sl := fun Γ => match Γ[i]? with
  | some (.val d) => .ok (.val d)
  | some (.own d) => .ok (.bor d)
  | some (.bor d) => .ok (.bor d)
  | _ => .stuck
theorem su_val {f : Gm → R D} (h : SV X E e f) : SU X E e (uVal f) := by
  obtain ⟨t, p, g⟩ := h
  exact ⟨t, p, fun Γ F0 H0 F H σ Q I q => g Γ F0 H0 F H σ _ I (R.post_imp (R.post_bind q) fun d q v F' H' gr r => q v F' H' gr r)⟩
theorem gu_var {i : Nat} : GU X.K X.mg E (tVar i) (uVar i) := fun Γ F0 H0 F H σ Q I q => by
  unfold uVar at q
  cases e : Γ[i]? with
  | none => rw [e] at q; exact q.elim
  | some s =>
    rw [e] at q
    cases s with
    | val d =>
      obtain ⟨v, ev, r⟩ := I.slot i _ e
      exact ⟨v, getD_some ev, q v F H (.refl I.sub) r⟩
    | own d =>
      obtain ⟨p, ev, n0, nF, r⟩ := I.slot i _ e
      exact ⟨_, getD_some ev, q _ F H (.refl I.sub) ⟨p, rfl, r⟩⟩
    | bor d =>
      obtain ⟨p, ev, r⟩ := I.slot i _ e
      exact ⟨_, getD_some ev, q _ F H (.refl I.sub) ⟨p, rfl, r.ext (Same.refl _) I.hH⟩⟩
    | un => exact q.elim
theorem su_var {i : Nat} {x : Str} (hN : X.N[i]? = some x) (hv : Vis X.env.scope x) (hd : (x == ("__debug__" : Str)) = false) (hcd : (x == ("__classdict__" : Str)) = false) : SU X E (.Name x pos) (uVar i) := ⟨_, pe_var hN hv hd hcd, gu_var⟩
inductive SUs (X : Cx) (E : Ex T) : List PySem.Expr → List (Gm → R Sl) → Prop where
  | nil : SUs X E [] []
  | cons {e es f fs} : SU X E e f → isStar e = false → SUs X E es fs → SUs X E (e :: es) (f :: fs)
theorem SUs.plain : ∀ {es : List PySem.Expr} {fs : List (Gm → R Sl)}, SUs X E es fs → es.all (fun e => !isStar e) = true
  | _, _, .nil => rfl
  | _, _, .cons _ h r => by simpa [h] using SUs.plain r
def GUs (K : PySem.W.Frag) (mg : Str → Option Value) (E : Ex T) (t : TA) (f : Gm → R (List Sl)) : Prop :=
  ∀ (Γ : Gm) (F0 : Fz T) (H0 : Hp) (F : Fz T) (H : Hp) (σ : L2.St) (Q : List V → Hp → Prop), EnvOk K F0 H0 F H σ Γ → (f Γ).post (fun ss => ∀ vs F' H', Grow F H F' H' → SlVs K F' H' vs ss → Q vs H') (Erp mg E F H) → t σ H Q
theorem sus_of : ∀ {es : List PySem.Expr} {fs : List (Gm → R Sl)}, SUs X E es fs → ∃ t, PA X es t ∧ GUs X.K X.mg E t (seqR fs)
  | _, _, .nil => ⟨_, pa_nil, fun Γ F0 H0 F H σ Q I q => q [] F H (.refl I.sub) .nil⟩
  | _, _, .cons ⟨t, p, g⟩ hs r => by
    obtain ⟨u, pu, gu⟩ := sus_of r
    refine ⟨_, pa_cons p pu (star_cons hs), fun Γ F0 H0 F H σ Q I q => ?_⟩
    refine g Γ F0 H0 F H σ _ I (R.post_imp (R.post_bind q) fun d q v F' H' gr c => ?_)
    exact gu Γ F0 H0 F' H' σ _ (I.grow gr) (R.post_mono (R.post_bind q) (fun ds _ q vs F2 H2 g2 cs => q _ F2 H2 (gr.trans g2) (.cons (c.grow g2) cs)) fun n e => e.on gr)
def spOf (K : PySem.W.Frag) (mg : Str → Option Value) (n : Nat) (φ : List Sl → R O) : Sp := fun vs H Q E => vs.length = n ∧ ∃ (T : List (Addr × Str)) (F : Fz T) (ss : List Sl), Sub F H ∧ SlVs K F H vs ss ∧
  (φ ss).post (fun o => ∀ v F' H', Grow F H F' H' → ORep K H F' H' v o → Q v H') (Erp mg ⟨E⟩ F H)
def eUser (φ : List Sl → R O) (fa : Gm → R (List Sl)) : Gm → R O := fun Γ => (fa Γ).bind φ
theorem ge_user {φ : List Sl → R O} {t : TA} {fa : Gm → R (List Sl)} {n : Nat} (h : GUs X.K X.mg E t fa) (hn : ∀ Γ ss, fa Γ = .ok ss → ss.length = n) : GE X.K X.mg E (tCall (spOf X.K X.mg n φ) [] E t) (eUser φ fa) := fun Γ F0 H0 F H σ Q I q =>
  h Γ F0 H0 F H σ _ I (R.post_mono (R.post_bind q) (fun ss es q vs F1 H1 g1 c1 => by
    refine ⟨by rw [List.append_nil, c1.length]; exact hn Γ ss es, _, F1, ss, g1.sub, by rw [List.append_nil]; exact c1, ?_⟩
    exact R.post_mono q (fun o _ q v F2 H2 g2 r2 => q v F2 H2 (g1.trans g2) (r2.back g1.hh)) fun n e => e.on g1) fun n e => e)
theorem seqR_len {α : Type} : ∀ {fs : List (Gm → R α)} {Γ : Gm} {as : List α}, seqR fs Γ = .ok as → as.length = fs.length
  | [], Γ, as, h => by cases h; rfl
  | f :: r, Γ, as, h => by
    unfold seqR at h
    cases e : f Γ with
    | stuck => rw [e] at h; cases h
    | err n => rw [e] at h; cases h
    | ok a =>
      rw [e] at h
      have h : ((seqR r Γ).bind fun as => R.ok (a :: as)) = .ok as := h
      cases e2 : seqR r Γ with
      | stuck => rw [e2] at h; cases h
      | err n => rw [e2] at h; cases h
      | ok as' =>
        rw [e2] at h
        cases h
        rw [List.length_cons, List.length_cons, seqR_len e2]
structure DefOk (X : Cx) (k : Nat) (x : Str) (n : Nat) (φ : List Sl → R O) : Prop where
  ex : ∃ (f : Addr) (fd : FuncData) (ps : List Str), FnOk X.prog X.w X.K X.mg X.base (L2.CX X.prog X.w) k f fd ps (spOf X.K X.mg n φ) ∧ X.mg x = some (.ref f) ∧ PySem.W.keepIn X.K (.ref f) = true ∧ Binds X.K fd ps []
theorem se_user {x : Str} {p : Pos} {k n : Nat} {φ : List Sl → R O} {fs : List (Gm → R Sl)} (D : DefOk X k x n φ) (hr : Room k X.A) (tk : Takes X (fun cls d _ H => E cls d H)) (hg : Gl X x) (hd : (x == ("__debug__" : Str)) = false) (hn : fs.length = n) (ha : SUs X E es fs) :
    SE X E (.Call (.Name x p) es [] pos) (eUser φ (seqR fs)) := by
  obtain ⟨f, fd, ps, F, hm, hk, hb⟩ := D.ex
  obtain ⟨t, pa, ga⟩ := sus_of ha
  have hx : Passes (L2.CX X.prog X.w) X E := passes_call tk fun _ _ _ _ h => h
  have pl := ha.plain
  cases ha with
  | nil =>
    refine ⟨_, pe_call0 F hr hg hm hk hb .nil hx hd, ?_⟩
    exact ge_user (fun Γ F0 H0 F H σ Q I q => q [] F H (.refl I.sub) .nil) fun Γ ss e => (seqR_len e).trans hn
  | @cons e1 es1 _ _ h1 hs r =>
    have hs' : isStar e1 = false ∧ es1.all (fun e => !isStar e) = true := by simpa using pl
    exact ⟨_, pe_call F hr hg hm hk hb .nil hx pa hd (star_cons hs'.1) (star_plain hs'.2), ge_user ga fun Γ ss e => (seqR_len e).trans hn⟩
end
end Pd

set_option Elab.async false
set_option linter.all false
set_option maxRecDepth 100000
set_option maxHeartbeats 1000000
namespace Pd
open PySem PySem.Spec L2
section
variable {pg : Program} {w : World} {A : Around} {E : Value → Shared → Prop} {s : Shared}
end
def IteT (K : PySem.W.Frag) (ad : Addr) : It :=
  ⟨fun i H => ∃ (zs : List V) (x : V), SqT K H ad zs ∧ zs[i]? = some x, fun i H v H' => ∃ T x, v = .ref T ∧ H T = none ∧ H' = upd H T (.tup [.int (i : Nat), x]) ∧ ∀ zs, SqT K H ad zs → zs[i]? = some x, fun i H => ∃ zs : List V, SqT K H ad zs ∧ zs.length ≤ i⟩
def iEnumA (K : PySem.W.Frag) (ta : TA) : TI := fun σ H R => ta σ H fun vlist H1 => ∃ ad zs, vlist = [.ref ad] ∧ (SqL K H1 ad zs ∧ R (Ite K ad) H1 ∨ SqT K H1 ad zs ∧ R (IteT K ad) H1)
structure Items (K : PySem.W.Frag) (On : Fz T → Hp → Prop) (J : It) (ds : List D) : Prop where
  len : ds.length ≤ sizeLine
  go : ∀ i F' H', i < ds.length → On F' H' → J.go i H'
  yld : ∀ i d F' H' x H'', ds[i]? = some d → On F' H' → J.yld i H' x H'' → ∃ F'', Grow F' H' F'' H'' ∧ Rep K F'' x d
  stop : ∀ F' H', On F' H' → J.stop ds.length H'
abbrev OnF (F : Fz T) : Fz T → Hp → Prop := fun F' H' => Same F F' ∧ Sub F' H'
theorem Items.imp {K : PySem.W.Frag} {On On' : Fz T → Hp → Prop} {J : It} {ds : List D} (h : Items K On J ds) (e : ∀ F H, On' F H → On F H) : Items K On' J ds :=
  ⟨h.len, fun i F H a b => h.go i F H a (e _ _ b), fun i d F H x H' a b c => h.yld i d F H x H' a (e _ _ b) c, fun F H a => h.stop F H (e _ _ a)⟩
section
variable {K : PySem.W.Frag} {On : Fz T → Hp → Prop} {F : Hp} {a b : Addr} {xs ys : List V} {ds es : List D}
theorem Ext.seq {K : PySem.W.Frag} {H H' : Hp} {a : Addr} {xs : List V} (e : Ext H H') (h : SqL K H a xs) : SqL K H' a xs := by
  rcases h with (h | ⟨o, h⟩) | h
  · exact .inl (.inl (e _ _ h fun _ z => nomatch z))
  · exact .inl (.inr ⟨o, e _ _ h fun _ z => nomatch z⟩)
  · exact .inr h
theorem get_some {α : Type} {l : List α} {i : Nat} (h : i < l.length) : ∃ x, l[i]? = some x := ⟨l[i], List.getElem?_eq_getElem h⟩
theorem items_l (r : Reps K F xs ds) (l : ds.length ≤ sizeLine) (h : ∀ F' H', On F' H' → SqL K H' a xs ∧ Same F F' ∧ Sub F' H') : Items K On (Itl K a) ds := by
  have el := r.length
  refine ⟨l, fun i F' H' hi o => ?_, fun i d F' H' x H'' ed o y => ?_, fun F' H' o => ?_⟩
  · obtain ⟨v, hv⟩ := get_some (l := xs) (i := i) (by omega)
    exact ⟨xs, v, (h _ _ o).1, hv⟩
  · obtain ⟨rfl, y⟩ := y
    obtain ⟨q, s, sb⟩ := h _ _ o
    obtain ⟨v, hv, rv⟩ := r.get ed
    have e := y _ q
    rw [hv] at e
    cases e
    exact ⟨F', .refl sb, rv.mono s⟩
  · exact ⟨xs, (h _ _ o).1, by omega⟩
theorem items_t (r : Reps K F xs ds) (l : ds.length ≤ sizeLine) (h : ∀ F' H', On F' H' → SqT K H' a xs ∧ Same F F' ∧ Sub F' H') : Items K On (Itt K a) ds := by
  have el := r.length
  refine ⟨l, fun i F' H' hi o => ?_, fun i d F' H' x H'' ed o y => ?_, fun F' H' o => ?_⟩
  · obtain ⟨v, hv⟩ := get_some (l := xs) (i := i) (by omega)
    exact ⟨xs, v, (h _ _ o).1, hv⟩
  · obtain ⟨rfl, y⟩ := y
    obtain ⟨q, s, sb⟩ := h _ _ o
    obtain ⟨v, hv, rv⟩ := r.get ed
    have e := y _ q
    rw [hv] at e
    cases e
    exact ⟨F', .refl sb, rv.mono s⟩
  · exact ⟨xs, (h _ _ o).1, by omega⟩
def enumD (k : Nat) : List D → List D
  | [] => []
  | d :: r => .tup [.int (k : Nat), d] :: enumD (k + 1) r
def zipD : List D → List D → List D
  | x :: xs, y :: ys => .tup [x, y] :: zipD xs ys
  | _, _ => []
def rngD (lo : Int) : Nat → List D
  | 0 => []
  | n + 1 => .int lo :: rngD (lo + 1) n
theorem rngD_len : ∀ (n : Nat) (lo : Int), (rngD lo n).length = n
  | 0, _ => rfl
  | n + 1, lo => by rw [rngD, List.length_cons, rngD_len n]
theorem rngD_get : ∀ (n : Nat) (lo : Int) (i : Nat) (x : D), (rngD lo n)[i]? = some x → x = .int (lo + i)
  | 0, _, _, _, h => by simp [rngD] at h
  | n + 1, lo, 0, x, h => by
    simp [rngD] at h
    rw [← h]; simp
  | n + 1, lo, i + 1, x, h => by
    rw [rngD, List.getElem?_cons_succ] at h
    rw [rngD_get n (lo + 1) i x h]
    congr 1
    omega
theorem items_r {lo : Int} {n : Nat} (l : n ≤ sizeLine) (h : ∀ F' H', On F' H' → Sub F' H') : Items K On (Itr lo n) (rngD lo n) := by
  refine ⟨by rw [rngD_len]; exact l, fun i F' H' hi o => by rw [rngD_len] at hi; exact hi, fun i d F' H' x H'' ed o y => ?_, fun F' H' o => by rw [rngD_len]; exact Nat.le_refl _⟩
  obtain ⟨rfl, rfl⟩ := y
  rw [rngD_get _ _ _ _ ed]
  exact ⟨F', .refl (h _ _ o), .int _⟩
def sgnD (z : Str) : List D := z.cps.toList.map fun c => .str ⟨#[c]⟩
theorem items_s {z : Str} (l : z.length ≤ line) (h : ∀ F' H', On F' H' → Sub F' H') : Items K On (Its z) (sgnD z) := by
  have el : (sgnD z).length = z.cps.size := by unfold sgnD; rw [List.length_map, Array.length_toList]
  have l' : z.cps.size ≤ line := l
  refine ⟨by rw [el, line_eq]; exact l', fun i F' H' hi o => by rw [el] at hi; exact hi, fun i d F' H' x H'' ed o y => ?_, fun F' H' o => by rw [el]; exact Nat.le_refl _⟩
  obtain ⟨rfl, c, hc, rfl⟩ := y
  unfold sgnD at ed
  rw [List.getElem?_map, Array.getElem?_toList, hc] at ed
  cases ed
  exact ⟨F', .refl (h _ _ o), .str _⟩
end
def SItF (X : Cx) (E : Ex T) (tg e : PySem.Expr) (f : Gm → R (List D)) : Prop := ∃ wi, PI X tg e wi ∧
  ∀ (Γ : Gm) (F0 : Fz T) (H0 : Hp) (F : Fz T) (H : Hp) (σ : L2.St) (R' : It → Hp → Prop), EnvOk X.K F0 H0 F H σ Γ → (f Γ).post (fun ds => ∀ J F' H', Grow F H F' H' → Items X.K (OnF F') J ds → R' J H') (Erp X.mg E F H) → wi σ H R'
def SItC (X : Cx) (E : Ex T) (tg e : PySem.Expr) (f : Gm → R (List D)) : Prop := ∃ wi, PI X tg e wi ∧
  ∀ (Γ : Gm) (F0 : Fz T) (H0 : Hp) (F : Fz T) (H : Hp) (σ : L2.St) (R' : It → Hp → Prop), EnvOk X.K F0 H0 F H σ Γ → (f Γ).post (fun ds => ∀ J F' H', Grow F H F' H' → Items X.K (Grow F' H') J ds → R' J H') (Erp X.mg E F H) → wi σ H R'
section
variable {X : Cx} {E : Ex T} {e tg a b c : PySem.Expr} {es elts : List PySem.Expr} {pos p tpos : Pos} {kk : Nat}
theorem SItF.toC {f : Gm → R (List D)} (h : SItF X E tg e f) : SItC X E tg e f := by
  obtain ⟨wi, p, g⟩ := h
  exact ⟨wi, p, fun Γ F0 H0 F H σ R' I q => g Γ F0 H0 F H σ R' I (R.post_imp q fun ds q J F' H' gr it => q J F' H' gr (it.imp fun F2 H2 g2 => ⟨g2.ff, g2.sub⟩))⟩
theorem SItF.none : SItF X E tg e (fun _ => .stuck) := ⟨fun _ _ _ => False, ⟨fun _ _ _ _ _ _ h => h.elim⟩, fun _ _ _ _ _ _ _ _ h => h⟩
theorem SItC.none : SItC X E tg e (fun _ => .stuck) := ⟨fun _ _ _ => False, ⟨fun _ _ _ _ _ _ h => h.elim⟩, fun _ _ _ _ _ _ _ _ h => h⟩

def iSq (K : PySem.W.Frag) (tl : TE) : TI := fun σ H R' => tl σ H fun x H1 => (∃ a, x = .ref a ∧ (∃ xs, SqL K H1 a xs) ∧ R' (Itl K a) H1) ∨ (∃ a, x = .ref a ∧ (∃ xs, SqT K H1 a xs) ∧ R' (Itt K a) H1) ∨ ∃ z, x = .str z ∧ R' (Its z) H1
theorem pi_sq {l : PySem.Expr} {tl : TE} (hl : PE X l tl) : PI X tg l (iSq X.K tl) := by
  refine ⟨fun pins s σ H R' I h => thn (hl.run pins s σ H _ I h) fun v s1 hv => ?_⟩
  obtain ⟨x, J1, I1, r1, hq⟩ := hv
  have sz := Nat.le_refl s1.heap.objs.size
  rcases hq with ⟨a, rfl, ⟨xs, hx⟩, q⟩ | ⟨a, rfl, ⟨xs, hx⟩, q⟩ | ⟨z, rfl, q⟩
  · cases r1
    obtain ⟨its, rv, pl, hz⟩ := I1.list hx
    exact wpAny_pyIter_list pl.isList
      (pi_one (tk := s1.toks) I1 _ (turn_list a _) ⟨_, Heap.get?_push_size _ rfl, rfl, rfl⟩ q)
  · cases r1
    obtain ⟨its, rv, pl, hz⟩ := I1.tuple hx
    exact wpAny_pyIter_tuple (show s1.heap.IsTuple a its.toArray from pl)
      (pi_one (tk := s1.toks) I1 _ (turn_tuple a _) ⟨_, Heap.get?_push_size _ rfl, rfl, rfl⟩ q)
  · obtain ⟨t, rfl⟩ := r1
    by_cases wide : z.cps.all (· < 128) = true
    · exact wpAny_pyIter_ascii wide
        (pi_one (tk := s1.toks) I1 _ (turn_str _ z t "str_ascii_iterator" (Or.inl rfl))
          ⟨_, Heap.get?_push_size _ rfl, rfl, rfl⟩ q)
    · exact wpAny_pyIter_wide (by simpa using wide)
        (pi_one (tk := s1.toks) I1 _ (turn_str _ z t "str_iterator" (Or.inr rfl))
          ⟨_, Heap.get?_push_size _ rfl, rfl, rfl⟩ q)
def seqD : D → R (List D)
  | .lst ds => .ok ds
  | .tup ds => .ok ds
  | .scr ns => .ok (ns.map D.int)
  | .str z => if z.length ≤ line then .ok (sgnD z) else .stuck
  | _ => .stuck
def iF (f : Gm → R D) : Gm → R (List D) := fun Γ => (f Γ).bind seqD
theorem sitF_sq {f : Gm → R D} (h : SV X E e f) : SItF X E tg e (iF f) := by
  obtain ⟨t, p, g⟩ := h
  refine ⟨_, pi_sq p, fun Γ F0 H0 F H σ R' I q => g Γ F0 H0 F H σ _ I (R.post_imp (R.post_bind q) fun d q v F' H' gr rp => ?_)⟩
  cases d with
  | lst ds =>
    cases rp with
    | lst hF rs l => exact .inl ⟨_, rfl, ⟨_, .of (gr.sub.lst hF)⟩, q _ F' H' gr (items_l rs l fun F2 H2 o => ⟨.of (o.2.lst (o.1 _ _ hF)), o⟩)⟩
  | tup ds =>
    cases rp with
    | tup hF rs l => exact .inr (.inl ⟨_, rfl, ⟨_, .of (gr.sub.tup hF)⟩, q _ F' H' gr (items_t rs l fun F2 H2 o => ⟨.of (o.2.tup (o.1 _ _ hF)), o⟩)⟩)
  | scr ns =>
    cases rp with
    | scr hF l => exact .inl ⟨_, rfl, ⟨_, gr.sub.seq hF⟩, q _ F' H' gr (items_l (.ints ns) (by rw [List.length_map]; exact l) fun F2 H2 o => ⟨o.2.seq (o.1.seq hF), o⟩)⟩
  | str z =>
    cases rp
    have q : (R.post (if z.length ≤ line then R.ok (sgnD z) else R.stuck) _ _) := q
    split at q
    · rename_i hl
      exact .inr (.inr ⟨z, rfl, q _ F' H' gr (items_s hl fun F2 H2 o => o.2)⟩)
    · exact q.elim
  | _ => exact q.elim
theorem sitC_sq {f : Gm → R D} (h : SR X E e f) : SItC X E tg e (iF f) := by
  obtain ⟨t, p, g⟩ := h
  refine ⟨_, pi_sq p, fun Γ F0 H0 F H σ R' I q => g Γ F0 H0 F H σ _ I (R.post_imp (R.post_bind q) fun d q v F' H' gr rp => ?_)⟩
  cases d with
  | lst ds =>
    obtain ⟨a, xs, rfl, hH, rs, l⟩ := rp.lst gr.sub
    exact .inl ⟨_, rfl, ⟨_, .of hH⟩, q _ F' H' gr (items_l rs l fun F2 H2 o => ⟨.of (o.hh _ _ hH (fun _ z => nomatch z)), o.ff, o.sub⟩)⟩
  | tup ds =>
    obtain ⟨a, xs, rfl, hH, rs, l, _⟩ := rp.tup gr.sub
    exact .inr (.inl ⟨_, rfl, ⟨_, .of hH⟩, q _ F' H' gr (items_t rs l fun F2 H2 o => ⟨.of (o.hh _ _ hH (fun _ z => nomatch z)), o.ff, o.sub⟩)⟩)
  | scr ns =>
    obtain ⟨a, rfl, hH, l⟩ := rp.scr gr.sub
    exact .inl ⟨_, rfl, ⟨_, hH⟩, q _ F' H' gr (items_l (.ints ns) (by rw [List.length_map]; exact l) fun F2 H2 o => ⟨Ext.seq o.hh hH, o.ff, o.sub⟩)⟩
  | str z =>
    obtain rfl := rp.str
    have q : (R.post (if z.length ≤ line then R.ok (sgnD z) else R.stuck) _ _) := q
    split at q
    · rename_i hl
      exact .inr (.inr ⟨z, rfl, q _ F' H' gr (items_s hl fun F2 H2 o => o.sub)⟩)
    · exact q.elim
  | _ => exact q.elim
def smallI (i : Int) : Bool := decide (-(2 ^ 62) ≤ i ∧ i < 2 ^ 62)
def rngF1 : List D → R (List D)
  | [.int j] => if smallI j = true ∧ j.toNat ≤ line then .ok (rngD 0 j.toNat) else .stuck
  | _ => .stuck
def rngF2 : List D → R (List D)
  | [.int i, .int j] => if smallI i = true ∧ smallI j = true ∧ (j - i).toNat ≤ line then .ok (rngD i (j - i).toNat) else .stuck
  | _ => .stuck
def stpD (lo c : Int) : Nat → List D
  | 0 => []
  | n + 1 => .int lo :: stpD (lo + c) c n
def rgC (i j c : Int) : Option Nat := if c ≠ 0 ∧ c.natAbs < 1073741824 ∧ Builtin.Range.small i j c = true ∧ Builtin.Range.rangeSize i j c = ((Builtin.Range.rangeSize i j c).toNat : Nat) ∧ (Builtin.Range.rangeSize i j c).toNat ≤ line then some (Builtin.Range.rangeSize i j c).toNat else none
def rngF3 : List D → R (List D)
  | [.int i, .int j, .int c] => match rgC i j c with
    | some n => .ok (stpD i c n)
    | none => .stuck
  | _ => .stuck
def iOf (φ : List D → R (List D)) (f : Gm → R (List D)) : Gm → R (List D) := fun Γ => (f Γ).bind φ
theorem sit_rng1 {f : Gm → R D} (hg : Gl X "range") (hm : X.mg "range" = none) (h : SR X E a f) (hs : isStar a = false) : SItF X E tg (.Call (.Name "range" p) [a] [] pos) (iOf rngF1 (seqR [f])) := by
  obtain ⟨t, pa, g⟩ := sa_of (.cons h hs .nil)
  refine ⟨_, pi_range1 hg hm pa (star_cons hs), fun Γ F0 H0 F H σ R' I q => g Γ F0 H0 F H σ _ I (R.post_imp (R.post_bind q) fun ds q vs F' H' gr cs => ?_)⟩
  unfold rngF1 at q
  split at q
  · rename_i j
    obtain ⟨x, rfl, c⟩ := cs.one
    obtain rfl := c.int
    split at q
    · rename_i hh
      have h1 := of_decide_eq_true hh.1
      exact ⟨j, rfl, h1.1, h1.2, q _ F' H' gr (items_r (by rw [line_eq]; exact hh.2) fun F2 H2 o => o.2)⟩
    · exact q.elim
  · exact q.elim
theorem sit_rng2 {f g : Gm → R D} (hg : Gl X "range") (hm : X.mg "range" = none) (h : SR X E a f) (hs : isStar a = false) (h2 : SR X E b g) (hs2 : isStar b = false) :
    SItF X E tg (.Call (.Name "range" p) [a, b] [] pos) (iOf rngF2 (seqR [f, g])) := by
  obtain ⟨t, pa, g⟩ := sa_of (.cons h hs (.cons h2 hs2 .nil))
  refine ⟨_, pi_range2 hg hm pa (by rw [star_cons hs, star_cons hs2]; rfl) (star_cons hs2), fun Γ F0 H0 F H σ R' I q => g Γ F0 H0 F H σ _ I (R.post_imp (R.post_bind q) fun ds q vs F' H' gr cs => ?_)⟩
  unfold rngF2 at q
  split at q
  · rename_i i j
    obtain ⟨x, y, rfl, c1, c2⟩ := cs.two
    obtain rfl := c1.int
    obtain rfl := c2.int
    split at q
    · rename_i hh
      have h1 := of_decide_eq_true hh.1
      have h2 := of_decide_eq_true hh.2.1
      exact ⟨i, j, rfl, ⟨h1.1, h1.2, h2.1, h2.2⟩, q _ F' H' gr (items_r (by rw [line_eq]; exact hh.2.2) fun F2 H2 o => o.2)⟩
    · exact q.elim
  · exact q.elim
def enumF : List D → R (List D)
  | [.lst ds] => .ok (enumD 0 ds)
  | [.tup ds] => .ok (enumD 0 ds)
  | _ => .stuck
theorem si1 {f : Gm → R D} (h : SV X E a f) (hs : isStar a = false) : SI X E [a] (seqR [f]) := si_of (.cons h hs .nil)
theorem Reps.one {K : PySem.W.Frag} {F : Hp} {xs : List V} {d : D} (h : Reps K F xs [d]) : ∃ x, xs = [x] ∧ Rep K F x d := by
  cases h with
  | cons r t => cases t; exact ⟨_, rfl, r⟩
theorem Reps.two {K : PySem.W.Frag} {F : Hp} {xs : List V} {d e : D} (h : Reps K F xs [d, e]) : ∃ x y, xs = [x, y] ∧ Rep K F x d ∧ Rep K F y e := by
  cases h with
  | cons r t =>
    obtain ⟨y, rfl, r2⟩ := t.one
    exact ⟨_, y, rfl, r, r2⟩
def zipF : List D → R (List D)
  | [.lst ds, .lst es] => .ok (zipD ds es)
  | [.tup ds, .tup es] => .ok (zipD ds es)
  | _ => .stuck
end
end Pd

set_option Elab.async false
set_option linter.all false
set_option maxRecDepth 100000
set_option maxHeartbeats 1000000
namespace Pd
open PySem PySem.Spec L2

theorem wipe_at {σ : L2.St} {j : Nat} : ∀ {vs : List Nat}, j ∈ vs → (wipe σ vs)[j]? = if j < σ.length then some none else none
  | [], h => by simp at h
  | v :: vs, h => by
    unfold wipe
    by_cases e : v = j
    · subst e
      rw [List.getElem?_set, if_pos rfl, wipe_length]
    · rw [List.getElem?_set_ne e]
      exact wipe_at ((List.mem_cons.mp h).resolve_left (fun z => e z.symm))
theorem wipe_set {σ : L2.St} {i : Nat} {x : Option V} {vs : List Nat} (h : i ∈ vs) : wipe (σ.set i x) vs = wipe σ vs := by
  apply List.ext_getElem?
  intro j
  by_cases hj : j ∈ vs
  · rw [wipe_at hj, wipe_at hj, List.length_set]
  · rw [wipe_out hj, wipe_out hj]
    exact List.getElem?_set_ne (fun e => hj (by rw [← e]; exact h))
theorem wipe_wipe {σ : L2.St} {vs : List Nat} : wipe (wipe σ vs) vs = wipe σ vs := by
  apply List.ext_getElem?
  intro j
  by_cases hj : j ∈ vs
  · rw [wipe_at hj, wipe_at hj, wipe_length]
  · rw [wipe_out hj]
inductive Tg where
  | nm (i : Nat) | tp (ts : List Tg)
mutual
def Tg.fn : Tg → D → Gm → R Gm
  | .nm i, d, Γ => .ok (Γ.set i (.val d))
  | .tp ts, .tup ds, Γ => Tg.fns ts ds Γ
  | .tp ts, .lst ds, Γ => Tg.fns ts ds Γ
  | .tp _, _, _ => .stuck
def Tg.fns : List Tg → List D → Gm → R Gm
  | [], [], Γ => .ok Γ
  | t :: ts, d :: ds, Γ => (t.fn d Γ).bind fun Γ' => Tg.fns ts ds Γ'
  | _, _, _ => .stuck
end
mutual
def Tg.ix : Tg → List Nat
  | .nm i => [i]
  | .tp ts => Tg.ixs ts
def Tg.ixs : List Tg → List Nat
  | [] => []
  | t :: ts => t.ix ++ Tg.ixs ts
end
def GG (K : PySem.W.Frag) (t : TG) (f : D → Gm → R Gm) (ns : List Nat) : Prop :=
  ∀ {T : List (Addr × Str)} (Γ : Gm) (F0 : Fz T) (H0 : Hp) (F : Fz T) (H : Hp) (σ : L2.St) (v : V) (d : D) (Q : L2.St → Hp → Prop), EnvOk K F0 H0 F H σ Γ → Rep K F v d →
    (f d Γ).post (fun Γ' => ∀ σ', EnvOk K F0 H0 F H σ' Γ' → (∀ vs : List Nat, (∀ i ∈ ns, i ∈ vs) → wipe σ' vs = wipe σ vs) → Q σ' H) (fun _ => False) → t v σ H Q
def GGs (K : PySem.W.Frag) (t : TGs) (f : List D → Gm → R Gm) (ns : List Nat) : Prop :=
  ∀ {T : List (Addr × Str)} (Γ : Gm) (F0 : Fz T) (H0 : Hp) (F : Fz T) (H : Hp) (σ : L2.St) (v : List V) (d : List D) (Q : L2.St → Hp → Prop), EnvOk K F0 H0 F H σ Γ → Reps K F v d →
    (f d Γ).post (fun Γ' => ∀ σ', EnvOk K F0 H0 F H σ' Γ' → (∀ vs : List Nat, (∀ i ∈ ns, i ∈ vs) → wipe σ' vs = wipe σ vs) → Q σ' H) (fun _ => False) → t v σ H Q
def SG (X : Cx) (e : PySem.Expr) (t : Tg) : Prop := ∃ g, PG X e g ∧ GG X.K g t.fn t.ix
def SGs (X : Cx) (es : List PySem.Expr) (ts : List Tg) : Prop := ∃ g, PGs X es g ∧ GGs X.K g (Tg.fns ts) (Tg.ixs ts)
def isName : PySem.Expr → Bool
  | .Name .. => true
  | _ => false
section
variable {X : Cx} {e : PySem.Expr} {es : List PySem.Expr} {pos : Pos}
theorem sg_name {i : Nat} {x : Str} (hN : X.N.Nodup) (hi : X.N[i]? = some x) (hx : Loc X.env.scope x) (hf : X.fn x = true ∨ X.env.scope.names.lookup x = some .local) : SG X (.Name x pos) (.nm i) :=
  ⟨_, pg_name hN hi hx hf, fun Γ F0 H0 F H σ v d Q I r q => by
    rw [Tg.fn] at q
    exact q _ (I.setVal r) fun vs hv => wipe_set (hv i (by simp [Tg.ix]))⟩
theorem sgs_nil : SGs X [] [] := ⟨_, pgs_nil, fun Γ F0 H0 F H σ v d Q I r q => by
  cases r with
  | nil => exact ⟨rfl, q σ I fun _ _ => rfl⟩
  | cons r t => exact q.elim⟩
theorem assign_cons {env : Env} (h : isStar e = false) : assignEach (e :: es) env = (false, assign e env) :: assignEach es env := by
  cases e <;> first | rfl | cases h
theorem assign_len {env : Env} : ∀ es : List PySem.Expr, (assignEach es env).length = es.length
  | [] => rfl
  | e :: es => by
    cases e <;> exact congrArg (· + 1) (assign_len es)
theorem assign_plain {env : Env} : ∀ {es : List PySem.Expr}, es.all (fun e => !isStar e) = true → (assignEach es env).findIdx? (·.1) = none
  | [], _ => rfl
  | e :: es, h => by
    have h' : isStar e = false ∧ es.all (fun e => !isStar e) = true := by simpa using h
    rw [assign_cons h'.1, List.findIdx?_cons, assign_plain h'.2]
    rfl
theorem sgs_cons {t : Tg} {ts : List Tg} (h : SG X e t) (hs : isStar e = false) (h2 : SGs X es ts) : SGs X (e :: es) (t :: ts) := by
  obtain ⟨g, pg, gg⟩ := h
  obtain ⟨u, pu, gu⟩ := h2
  refine ⟨_, pgs_cons pg pu (by rw [assign_cons hs]; rfl), fun Γ F0 H0 F H σ v d Q I r q => ?_⟩
  cases r with
  | nil => rw [Tg.fns] at q <;> first | exact q.elim | (intro _ _ _ _; intro z; cases z)
  | @cons v d vs ds r rs =>
    rw [Tg.fns] at q
    refine ⟨v, vs, rfl, gg Γ F0 H0 F H σ v d _ I r (R.post_mono (R.post_bind q) (fun Γ' _ q σ' I' hw => ?_) fun n e => e)⟩
    refine gu Γ' F0 H0 F H σ' vs ds Q I' rs (R.post_imp q fun Γ2 q σ2 I2 hw2 => q σ2 I2 fun vs' hv => ?_)
    rw [hw2 vs' fun i hi => hv i (by rw [Tg.ixs]; exact List.mem_append_right _ hi), hw vs' fun i hi => hv i (by rw [Tg.ixs]; exact List.mem_append_left _ hi)]
theorem Tg.fns_len : ∀ {ts : List Tg} {ds : List D} {Γ : Gm} {P : Gm → Prop}, (Tg.fns ts ds Γ).post P (fun _ => False) → ds.length = ts.length
  | [], [], _, _, _ => rfl
  | [], _ :: _, _, _, h => by rw [Tg.fns] at h <;> first | exact h.elim | (intro _ _ _ _; intro z; cases z) | (intro z; cases z)
  | _ :: _, [], _, _, h => by rw [Tg.fns] at h <;> first | exact h.elim | (intro _ _ _ _; intro z; cases z) | (intro z; cases z)
  | t :: ts, d :: ds, Γ, P, h => by
    rw [Tg.fns] at h
    have h' := R.post_bind h
    rw [List.length_cons, List.length_cons]
    cases e : t.fn d Γ with
    | stuck => rw [e] at h'; exact h'.elim
    | err n => rw [e] at h'; exact h'.elim
    | ok Γ' => rw [e] at h'; rw [Tg.fns_len (Γ := Γ') (P := P) h']
theorem SGs.len {ts : List Tg} : ∀ {es : List PySem.Expr}, SGs X es ts → True := fun _ => trivial
theorem sg_tup {ts : List Tg} {k : Nat} (hc : X.calm = true) (h : SGs X es ts) (hl : es.length = ts.length) (hs : es.all (fun e => !isStar e) = true) : SG X (.Tuple es k pos) (.tp ts) := by
  obtain ⟨g, pg, gg⟩ := h
  have p1 := pg_tup hc pg (pos := pos) (k := k) (n := es.length) (assign_len es) (assign_plain hs)
  have p2 := pg_unl hc pg (pos := pos) (k := k) (n := es.length) (assign_len es) (assign_plain hs)
  refine ⟨fun v σ H Q => gTup X.K es.length g v σ H Q ∨ gUnl X.K es.length g v σ H Q, ⟨fun pins s σ H v u Q I r hw => hw.elim (fun w => p1.run pins s σ H v u Q I r w) fun w => p2.run pins s σ H v u Q I r w⟩, fun Γ F0 H0 F H σ v d Q I r q => ?_⟩
  cases d with
  | tup ds =>
    rw [Tg.fn.eq_2 Γ ts ds] at q
    have el := Tg.fns_len q
    cases r with
    | tup hF rs l =>
      refine .inl ⟨_, _, rfl, .of (I.sub.tup hF), by rw [rs.length, el, hl], ?_⟩
      exact gg Γ F0 H0 F H σ _ ds Q I rs (by
        refine R.post_imp q fun Γ' q σ' I' hw => q σ' I' fun vs hv => hw vs fun i hi => hv i ?_
        rw [Tg.ix]; exact hi)
  | lst ds =>
    rw [Tg.fn.eq_3 Γ ts ds] at q
    have el := Tg.fns_len q
    cases r with
    | lst hF rs l =>
      refine .inr ⟨_, _, rfl, .of (I.sub.lst hF), by rw [rs.length, el, hl], ?_⟩
      exact gg Γ F0 H0 F H σ _ ds Q I rs (by
        refine R.post_imp q fun Γ' q σ' I' hw => q σ' I' fun vs hv => hw vs fun i hi => hv i ?_
        rw [Tg.ix]; exact hi)
  | _ => rw [Tg.fn] at q <;> first | exact q.elim | (intro _ z; cases z)

theorem PE.imp {e : PySem.Expr} {t t' : TE} (h : PE X e t) (i : ∀ σ H Q, t' σ H Q → t σ H Q) : PE X e t' := ⟨fun pins s σ H Q I w => h.run pins s σ H Q I (i _ _ _ w)⟩
theorem PT.imp {e : PySem.Expr} {t t' : TT} (h : PT X e t) (i : ∀ σ H Q, t' σ H Q → t σ H Q) : PT X e t' := ⟨fun pins s σ H Q I w => h.run pins s σ H Q I (i _ _ _ w)⟩
def EN_ (T : List (Addr × Str)) : Ex T := ⟨fun _ _ _ => False⟩
def noE {α : Type} : R α → R α
  | .ok a => .ok a
  | _ => .stuck
def tVof (T : List (Addr × Str)) (K : PySem.W.Frag) (f : Gm → R D) : TE := fun σ H Q => ∃ (Γ : Gm) (F0 : Fz T) (H0 : Hp) (F : Fz T), EnvOk K F0 H0 F H σ Γ ∧ (f Γ).post (fun d => ∀ v F' H', Grow F H F' H' → Rep K F' v d → Q v H') (fun _ => False)
def tTof (T : List (Addr × Str)) (K : PySem.W.Frag) (f : Gm → R Bool) : TT := fun σ H Q => ∃ (Γ : Gm) (F0 : Fz T) (H0 : Hp) (F : Fz T), EnvOk K F0 H0 F H σ Γ ∧ (f Γ).post (fun d => ∀ F' H', Grow F H F' H' → Q d H') (fun _ => False)
theorem SV.of (E : Ex T) {f : Gm → R D} (h : SV X E e f) : PE X e (tVof T X.K f) := by
  obtain ⟨t, p, g⟩ := h
  exact PE.imp p fun σ H Q ⟨Γ, F0, H0, F, I, q⟩ => g Γ F0 H0 F H σ Q I (R.post_mono q (fun _ _ x => x) fun _ z => z.elim)
theorem ST.of (E : Ex T) {f : Gm → R Bool} (h : ST X E e f) : PT X e (tTof T X.K f) := by
  obtain ⟨t, p, g⟩ := h
  exact PT.imp p fun σ H Q ⟨Γ, F0, H0, F, I, q⟩ => g Γ F0 H0 F H σ Q I (R.post_mono q (fun _ _ x => x) fun _ z => z.elim)
def tGof (T : List (Addr × Str)) (K : PySem.W.Frag) (t : Tg) : TG := fun v σ H Q => ∃ (Γ : Gm) (F0 : Fz T) (H0 : Hp) (F : Fz T) (d : D), EnvOk K F0 H0 F H σ Γ ∧ Rep K F v d ∧
  (t.fn d Γ).post (fun Γ' => ∀ σ', EnvOk K F0 H0 F H σ' Γ' → (∀ vs : List Nat, (∀ i ∈ t.ix, i ∈ vs) → wipe σ' vs = wipe σ vs) → Q σ' H) (fun _ => False)
theorem SG.of {t : Tg} (h : SG X e t) : PG X e (tGof T X.K t) := by
  obtain ⟨g, p, gg⟩ := h
  exact ⟨fun pins s σ H v u Q I r ⟨Γ, F0, H0, F, d, I', r', q⟩ => p.run pins s σ H v u Q I r (gg Γ F0 H0 F H σ v d Q I' r' q)⟩

def wipeG (Γ : Gm) : List Nat → Gm
  | [] => Γ
  | v :: vs => (wipeG Γ vs).set v .un
theorem EnvOk.wipe {K : PySem.W.Frag} {F0 F : Fz T} {H0 H : Hp} {σ : L2.St} {Γ : Gm} (I : EnvOk K F0 H0 F H σ Γ) : ∀ vs : List Nat, EnvOk K F0 H0 F H (L2.wipe σ vs) (wipeG Γ vs)
  | [] => I
  | v :: vs => (EnvOk.wipe I vs).setUn
def lcGo (t : Tg) (tt : Gm → R Bool) (te : Gm → R D) (Γ : Gm) : List D → R (List D)
  | [] => .ok []
  | d :: r => (noE (t.fn d Γ)).bind fun Γ1 => (noE (tt Γ1)).bind fun b => if b = true then (noE (te Γ1)).bind fun y => (lcGo t tt te Γ r).bind fun ys => .ok (y :: ys) else lcGo t tt te Γ r
def eLc (fi : Gm → R (List D)) (t : Tg) (tt : Gm → R Bool) (te : Gm → R D) (vs : List Nat) : Gm → R O := fun Γ => (fi Γ).bind fun ds => (noE (lcGo t tt te (wipeG Γ vs) ds)).bind fun out => .ok (.o (.lst out))
theorem noE_post {α : Type} {r : R α} {P : α → Prop} {E : Str → Prop} (h : (noE r).post P E) : ∃ a, r = .ok a ∧ P a := by
  cases r with
  | ok a => exact ⟨a, rfl, h⟩
  | stuck => exact h.elim
  | err n => exact h.elim
theorem bind_ok {α β : Type} {r : R α} {f : α → R β} {b : β} (h : r.bind f = .ok b) : ∃ a, r = .ok a ∧ f a = .ok b := by
  cases r with
  | ok a => exact ⟨a, rfl, h⟩
  | stuck => cases h
  | err n => cases h
theorem noE_ok {α : Type} {r : R α} {a : α} (h : noE r = .ok a) : r = .ok a := by
  cases r <;> first | exact h | cases h
theorem ge_lc {K : PySem.W.Frag} {mg : Str → Option Value} {E : Ex T} {wi : TI} {fi : Gm → R (List D)} {t : Tg} {tt : Gm → R Bool} {te : Gm → R D} {vs : List Nat} (hv : ∀ i ∈ t.ix, i ∈ vs)
    (hi : ∀ (Γ : Gm) (F0 : Fz T) (H0 : Hp) (F : Fz T) (H : Hp) (σ : L2.St) (R' : It → Hp → Prop), EnvOk K F0 H0 F H σ Γ → (fi Γ).post (fun ds => ∀ J F' H', Grow F H F' H' → Items K (Grow F' H') J ds → R' J H') (Erp mg E F H) → wi σ H R') :
    GE K mg E (tLc wi (tGof T K t) (tTof T K tt) (tVof T K te) vs) (eLc fi t tt te vs) := fun Γ F0 H0 F H σ Q I q => by
  refine hi Γ F0 H0 F H σ _ I (R.post_imp (R.post_bind q) fun ds q J F1 H1 g1 it D hD => ?_)
  obtain ⟨out, eo, q⟩ := noE_post (R.post_bind q)
  have I1 := (I.grow g1).wipe vs
  have nF1 : F1 D = none := g1.sub.free hD
  refine ⟨fun i m H => m = ds.length - i ∧ i ≤ ds.length ∧ ∃ (F2 : Fz T) (acc : List V) (a b : List Pd.D), Grow F1 H1 F2 H ∧ H D = some (.lst acc) ∧ F2 D = none ∧ Reps K F2 acc a ∧ a.length ≤ i ∧ lcGo t tt te (wipeG Γ vs) (ds.drop i) = .ok b ∧ a ++ b = out,
    ⟨ds.length, rfl, Nat.zero_le _, F1, [], [], out, Grow.newO g1.sub hD, upd_same, nF1, .nil, Nat.le_refl _, eo, rfl⟩, ?_⟩
  rintro i m H2 ⟨rfl, hle, F2, acc, a, b, g2, hD2, nF2, ra, la, eb, eab⟩
  by_cases hlt : i < ds.length
  · refine .inr ⟨it.go i F2 H2 hlt g2, _, fun H' (w : ∃ (F2 : Fz T) (acc : List V) (a b : List Pd.D), Grow F1 H1 F2 H' ∧ H' D = some (.lst acc) ∧ F2 D = none ∧ Reps K F2 acc a ∧ a.length ≤ i + 1 ∧ lcGo t tt te (wipeG Γ vs) (ds.drop (i + 1)) = .ok b ∧ a ++ b = out) => ⟨ds.length - (i + 1), by omega, rfl, hlt, w⟩, fun x H3 y => ?_⟩
    obtain ⟨d, ed⟩ := get_some hlt
    obtain ⟨F3, g3, rx⟩ := it.yld i d F2 H2 x H3 ed g2 y
    have g13 := g2.trans g3
    have nF3 : F3 D = none := (g3.old D _ hD2 fun _ z => nomatch z).trans nF2
    have hD3 : H3 D = some (.lst acc) := g3.hh _ _ hD2 fun _ z => nomatch z
    have e1 : ds.drop i = d :: ds.drop (i + 1) := by
      rw [List.drop_eq_getElem_cons hlt]
      rw [List.getElem?_eq_getElem hlt] at ed
      cases ed
      rfl
    rw [e1, lcGo] at eb
    obtain ⟨Γ1, et, eb⟩ := bind_ok eb
    obtain ⟨k, ek, eb⟩ := bind_ok eb
    have et := noE_ok et
    have ek := noE_ok ek
    refine ⟨wipeG Γ vs, F0, H0, F3, d, I1.grow g13, rx, ?_⟩
    rw [et]
    intro σ' I' hw
    refine ⟨by rw [hw vs hv, wipe_wipe], Γ1, F0, H0, F3, I', ?_⟩
    rw [ek]
    intro F4 H4 g4
    have nF4 : F4 D = none := (g4.old D _ hD3 fun _ z => nomatch z).trans nF3
    have hD4 : H4 D = some (.lst acc) := g4.hh _ _ hD3 fun _ z => nomatch z
    cases k with
    | false =>
      rw [if_neg Bool.false_ne_true] at eb ⊢
      exact ⟨F4, acc, a, b, g13.trans g4, hD4, nF4, (ra.mono g3.ff).mono g4.ff, by omega, eb, eab⟩
    | true =>
      rw [if_pos rfl] at eb ⊢
      obtain ⟨y', ey, eb⟩ := bind_ok eb
      obtain ⟨ys, eys, eb⟩ := bind_ok eb
      cases eb
      have ey := noE_ok ey
      refine ⟨Γ1, F0, H0, F4, I'.grow g4, ?_⟩
      rw [ey]
      intro w F5 H5 g5 rw5
      have nF5 : F5 D = none := (g5.old D _ hD4 fun _ z => nomatch z).trans nF4
      have hD5 : H5 D = some (.lst acc) := g5.hh _ _ hD4 fun _ z => nomatch z
      have g15 := (g13.trans g4).trans g5
      have ll := it.len
      have el := ra.length
      refine ⟨acc, hD5, by omega, F5, acc ++ [w], a ++ [y'], ys, ⟨fun p o z n => ?_, g15.ff, g15.sub.upd hD5 ⟨(fun _ z => nomatch z), fun _ z => nomatch z⟩ nF5, g15.old⟩, upd_same, nF5, (((ra.mono g3.ff).mono g4.ff).mono g5.ff).append (.cons rw5 .nil), by rw [List.length_append]; exact Nat.succ_le_succ la, eys, by rw [List.append_assoc]; exact eab⟩
      rw [upd_ne (fun z' => by rw [z', hD] at z; cases z)]
      exact g15.hh _ _ z n
  · have e : i = ds.length := by omega
    subst e
    rw [List.drop_length] at eb
    cases eb
    rw [List.append_nil] at eab
    subst eab
    have ll := it.len
    have el := ra.length
    exact .inl ⟨it.stop F2 H2 g2, q _ F2 H2 (g1.trans g2) ⟨D, rfl, (Fre.of hD).back g1.hh, nF2, .lst hD2 ra (by omega)⟩⟩
def STf (T : List (Addr × Str)) (X : Cx) (ifs : List PySem.Expr) (f : Gm → R Bool) : Prop := (ifs = [] ∧ f = fun _ => .ok true) ∨ ∃ c, ifs = [c] ∧ ST X (EN_ T) c f
theorem STf.of {ifs : List PySem.Expr} {f : Gm → R Bool} (h : STf T X ifs f) : PTs X ifs (tTof T X.K f) := by
  rcases h with ⟨rfl, rfl⟩ | ⟨c, rfl, h⟩
  · exact ⟨fun pins s σ H Q I w => pts_nil.run pins s σ H Q I (by
      obtain ⟨Γ, F0, H0, F, I', q⟩ := w
      exact q F H (.refl I'.sub))⟩
  · exact pts_one (ST.of (EN_ T) h)
theorem se_lc {E : Ex T} {elt tg iter : PySem.Expr} {ifs : List PySem.Expr} {scope : Scope} {own : List (Str × Nat)} {fi : Gm → R (List D)} {t : Tg} {tt : Gm → R Bool} {te : Gm → R D} (hc : X.calm = true) (hN : X.N.Nodup) (hi : SItC X E tg iter fi) (ok : BlkOk X.N X.env.scope scope own)
    (hg : ∀ (s : Shared) (H : Hp) (C : Addr) (cl : List (Str × Addr)) (fp : List Addr), SG (X.blk s H scope (compEnvC scope cl C X.env) fp) tg t)
    (ht : ∀ (s : Shared) (H : Hp) (C : Addr) (cl : List (Str × Addr)) (fp : List Addr), STf T (X.blk s H scope (compEnvC scope cl C X.env) fp) ifs tt)
    (he : ∀ (s : Shared) (H : Hp) (C : Addr) (cl : List (Str × Addr)) (fp : List Addr), SV (X.blk s H scope (compEnvC scope cl C X.env) fp) (EN_ T) elt te)
    (hs : isSetE iter = false) (hv : ∀ i ∈ t.ix, i ∈ own.map (·.2)) : SE X E (.ListComp elt [⟨tg, iter, ifs, 0⟩] scope pos) (eLc fi t tt te (own.map (·.2))) := by
  obtain ⟨wi, pi, gi⟩ := hi
  exact ⟨_, pe_lc hc hN pi ok (fun s H C cl fp => SG.of (hg s H C cl fp)) (fun s H C cl fp => STf.of (ht s H C cl fp)) (fun s H C cl fp => SV.of (EN_ T) (he s H C cl fp)) (folded_of hs), ge_lc hv gi⟩
end
end Pd

set_option Elab.async false
set_option linter.all false
set_option maxRecDepth 100000
set_option maxHeartbeats 1000000
namespace Pd
open PySem PySem.Spec L2

inductive Out where
  | nx (Γ : Gm) | bk (Γ : Gm) | ct (Γ : Gm) | rt (o : O)
def OutQ (K : PySem.W.Frag) (F0 : Fz T) (H0 : Hp) (D : Ends) : Out → Prop
  | .nx Γ => ∀ σ F H, EnvOk K F0 H0 F H σ Γ → D.nx σ H
  | .bk Γ => ∀ σ F H, EnvOk K F0 H0 F H σ Γ → D.bk σ H
  | .ct Γ => ∀ σ F H, EnvOk K F0 H0 F H σ Γ → D.ct σ H
  | .rt o => ∀ v F H, Grow F0 H0 F H → ORep K H0 F H v o → D.rt v H
def GS (K : PySem.W.Frag) (mg : Str → Option Value) (E : Ex T) (t : TS) (f : Gm → R Out) : Prop :=
  ∀ (Γ : Gm) (F0 : Fz T) (H0 : Hp) (F : Fz T) (H : Hp) (σ : L2.St) (D : Ends), EnvOk K F0 H0 F H σ Γ → (f Γ).post (OutQ K F0 H0 D) (Erp mg E F0 H0) → t D σ H
def SS (X : Cx) (E : Ex T) (st : Stmt) (f : Gm → R Out) : Prop := ∃ t, PS X st t ∧ GS X.K X.mg E t f
def SB (X : Cx) (E : Ex T) (st : List Stmt) (f : Gm → R Out) : Prop := ∃ t, PSs X st t ∧ GS X.K X.mg E t f
section
variable {K : PySem.W.Frag} {mg : Str → Option Value} {E : Ex T} {F0 F F' F1 : Fz T} {H0 H H' : Hp} {σ : L2.St} {Γ : Gm}
theorem Erp.at (I : EnvOk K F0 H0 F H σ Γ) : ∀ n, Erp mg E F0 H0 n → Erp mg E F H n := fun n e => e.on I.all
theorem R.post_err {α : Type} {r : R α} {P : α → Prop} {E E' : Str → Prop} (h : r.post P E) (he : ∀ n, E n → E' n) : r.post P E' := R.post_mono h (fun _ _ x => x) he
theorem EnvOk.rebase (I : EnvOk K F0 H0 F H σ Γ) : EnvOk K F H0 F H σ Γ := ⟨I.hH, Same.refl _, I.sub, fun _ _ _ _ => rfl, I.len, I.slot, I.apart⟩
theorem EnvOk.unbase (I : EnvOk K F1 H0 F H σ Γ) (s : Same F0 F1) (o : ∀ a u, H0 a = some u → noT u → F1 a = F0 a) : EnvOk K F0 H0 F H σ Γ := ⟨I.hH, s.trans I.hF, I.sub, fun a u h n => (I.old a u h n).trans (o a u h n), I.len, I.slot, I.apart⟩
theorem Grow.unbase (g : Grow F1 H0 F H) (s : Same F0 F1) (o : ∀ a u, H0 a = some u → noT u → F1 a = F0 a) : Grow F0 H0 F H := ⟨g.hh, s.trans g.ff, g.sub, fun a u h n => (g.old a u h n).trans (o a u h n)⟩
def isSetD : D → Bool
  | .set _ => true
  | _ => false
def setO (mu : Bool) (i : Nat) (o : O) (Γ : Gm) : Gm := match o with
  | .v d => Γ.set i (.val d)
  | .o d => if mu = true ∨ isSetD d = true then Γ.set i (.own d) else Γ.set i (.val d)
theorem EnvOk.setO {o : O} {v : V} (mu : Bool) (i : Nat) (I : EnvOk K F0 H0 F H σ Γ) (g : Grow F H F' H') (r : ORep K H F' H' v o) : ∃ F'', EnvOk K F0 H0 F'' H' (σ.set i (some v)) (setO mu i o Γ) := by
  cases o with
  | v d => exact ⟨F', (I.grow g).setVal r⟩
  | o d =>
    unfold Pd.setO
    dsimp only
    split
    · obtain ⟨p, rfl, nH, nF, ow⟩ := r
      refine ⟨F', (I.grow g).setOwn (nH.back I.hH) nF ow fun j e ej hj eq => ?_⟩
      obtain ⟨q, eq', _, _, ow'⟩ := I.slot j _ ej
      rw [eq] at eq'
      cases eq'
      exact ow'.fre nH
    · rename_i hn
      have hc : (O.o d).canVal = true := by
        cases d <;> first | rfl | exact absurd (Or.inr rfl) hn
      obtain ⟨F'', g', r'⟩ := r.frozen g hc
      exact ⟨F'', (I.grow g').setVal r'⟩
def frz1 (i : Nat) (Γ : Gm) : Gm := match Γ[i]? with
  | some (.own d) => if isSetD d = true then Γ else Γ.set i (.val d)
  | _ => Γ
def frz : List Nat → Gm → Gm
  | [], Γ => Γ
  | i :: is, Γ => frz is (frz1 i Γ)
theorem EnvOk.frz1 (i : Nat) (I : EnvOk K F0 H0 F H σ Γ) : ∃ F', EnvOk K F0 H0 F' H σ (frz1 i Γ) := by
  unfold Pd.frz1
  split
  · rename_i d e
    split
    · exact ⟨F, I⟩
    · rename_i hn
      obtain ⟨F', _, I'⟩ := I.freeze e fun ns z => by subst z; exact hn rfl
      exact ⟨F', I'⟩
  · exact ⟨F, I⟩
theorem EnvOk.frz : ∀ (is : List Nat) {F : Fz T} {Γ : Gm}, EnvOk K F0 H0 F H σ Γ → ∃ F', EnvOk K F0 H0 F' H σ (frz is Γ)
  | [], F, Γ, I => ⟨F, I⟩
  | i :: is, F, Γ, I => by
    obtain ⟨F', I'⟩ := I.frz1 i
    exact EnvOk.frz is I'
theorem GS.frz {t : TS} {f : Gm → R Out} (h : GS K mg E t f) (is : List Nat) : GS K mg E t (fun Γ => f (frz is Γ)) := fun Γ F0 H0 F H σ D I q => by
  obtain ⟨F', I'⟩ := EnvOk.frz is I
  exact h _ F0 H0 F' H σ D I' q
theorem EnvOk.upd {i : Nat} {p : Addr} {d d' : D} {o : HO} (I : EnvOk K F0 H0 F H σ Γ) (e : Γ[i]? = some (.own d)) (ep : σ.getD i none = some (.ref p)) (n0 : Fre H0 p) (nF : F p = none) (ow : OwnAt K F (L2.upd H p o) p d') :
    EnvOk K F0 H0 F (L2.upd H p o) σ (Γ.set i (.own d')) := by
  have ⟨ou, eu, pu⟩ : ∃ o, H p = some o ∧ plO o := by
    obtain ⟨q, eq, _, _, ow2⟩ := I.slot i _ e
    rw [ep] at eq
    cases eq
    exact ow2.pl
  refine ⟨fun a u z n => ?_, I.hF, I.sub.upd eu pu nF, I.old, by rw [List.length_set]; exact I.len, fun j s ej => ?_, fun j k q d1 d2 e1 e2 q1 q2 => ?_⟩
  · rw [upd_ne (fun z' => by subst z'; exact n0 u z n)]; exact I.hH _ _ z n
  · by_cases hj : i = j
    · subst hj
      rw [List.getElem?_set_self (lt_of_get e)] at ej
      cases ej
      exact ⟨p, ep, n0, nF, ow⟩
    · rw [List.getElem?_set_ne hj] at ej
      have z := I.slot j s ej
      cases s with
      | un => trivial
      | val d => exact z
      | own d2 =>
        obtain ⟨q, eq, m0, mF, ow'⟩ := z
        have hne : q ≠ p := fun z => by
          subst z
          exact hj (I.apart i j q d d2 e ej ep eq)
        exact ⟨q, eq, m0, mF, ow'.mono (Same.refl _) (upd_ne hne)⟩
      | bor d2 => exact z
  · have get : ∀ {j : Nat} {d1 : D}, (Γ.set i (.own d'))[j]? = some (.own d1) → ∃ d2, Γ[j]? = some (.own d2) := fun {j d1} e1 => by
      by_cases hj : i = j
      · subst hj; exact ⟨d, e⟩
      · rw [List.getElem?_set_ne hj] at e1; exact ⟨d1, e1⟩
    obtain ⟨_, e1'⟩ := get e1
    obtain ⟨_, e2'⟩ := get e2
    exact I.apart j k q _ _ e1' e2' q1 q2
end
section
variable {X : Cx} {E : Ex T} {st : Stmt} {e a b c : PySem.Expr} {es : List PySem.Expr} {sts rest : List Stmt} {pos p p2 : Pos}
theorem SS.none : SS X E st (fun _ => .stuck) := ⟨fun _ _ _ => False, ⟨fun _ _ _ _ _ _ h => h.elim⟩, fun _ _ _ _ _ _ _ _ h => h⟩
theorem SS.frz {f : Gm → R Out} (h : SS X E st f) (is : List Nat) : SS X E st (fun Γ => f (frz is Γ)) := let ⟨t, p, g⟩ := h; ⟨t, p, GS.frz g is⟩
def sNext : Gm → R Out := fun Γ => .ok (.nx Γ)
def sSeq (f g : Gm → R Out) : Gm → R Out := fun Γ => (f Γ).bind fun o => match o with
  | .nx Γ' => g Γ'
  | o => .ok o
theorem sb_nil : SB X E [] sNext := ⟨_, pss_nil, fun Γ F0 H0 F H σ D I q => q σ F H I⟩
theorem sb_cons {f g : Gm → R Out} (h : SS X E st f) (h2 : SB X E rest g) : SB X E (st :: rest) (sSeq f g) := by
  obtain ⟨t, p, gt⟩ := h
  obtain ⟨u, pu, gu⟩ := h2
  refine ⟨_, pss_cons p pu, fun Γ F0 H0 F H σ D I q => gt Γ F0 H0 F H σ _ I (R.post_imp (R.post_bind q) fun o q => ?_)⟩
  cases o with
  | nx Γ' => exact fun σ' F' H' I' => gu Γ' F0 H0 F' H' σ' D I' q
  | bk Γ' => exact q
  | ct Γ' => exact q
  | rt o => exact q
def sExpr (f : Gm → R D) : Gm → R Out := fun Γ => (f Γ).bind fun _ => .ok (.nx Γ)
theorem ss_expr {f : Gm → R D} (h : SR X E e f) (hc : isComp e = false) : SS X E (.Expr e pos) (sExpr f) := by
  obtain ⟨t, p, g⟩ := h
  exact ⟨_, ps_expr p (swaps_of hc), fun Γ F0 H0 F H σ D I q => g Γ F0 H0 F H σ _ I (R.post_mono (R.post_bind q) (fun d _ q v F' H' gr _ => q σ F' H' (I.grow gr)) (Erp.at I))⟩
def sRet (f : Gm → R O) : Gm → R Out := fun Γ => (f Γ).bind fun o => .ok (.rt o)
theorem ss_ret {f : Gm → R O} (h : SE X E e f) : SS X E (.Return (some e) pos) (sRet f) := by
  obtain ⟨t, p, g⟩ := h
  exact ⟨_, ps_ret p, fun Γ F0 H0 F H σ D I q => g Γ F0 H0 F H σ _ I (R.post_mono (R.post_bind q) (fun o _ q v F' H' gr r => q v F' H' (I.all.trans gr) (r.back I.hH)) (Erp.at I))⟩
def sRetV (i : Nat) : Gm → R Out := fun Γ => match Γ[i]? with
  | some (.val d) => .ok (.rt (.v d))
  | some (.own d) => .ok (.rt (.o d))
  | _ => .stuck
theorem ss_retV {i : Nat} {x : Str} (hN : X.N[i]? = some x) (hv : Vis X.env.scope x) (hd : (x == ("__debug__" : Str)) = false) (hcd : (x == ("__classdict__" : Str)) = false) : SS X E (.Return (some (.Name x p)) pos) (sRetV i) := by
  refine ⟨_, ps_ret (pe_var hN hv hd hcd), fun Γ F0 H0 F H σ D I q => ?_⟩
  unfold sRetV at q
  cases e : Γ[i]? with
  | none => rw [e] at q; exact q.elim
  | some s =>
    rw [e] at q
    cases s with
    | val d =>
      obtain ⟨v, ev, r⟩ := I.slot i _ e
      exact ⟨v, getD_some ev, q v F H I.all r⟩
    | own d =>
      obtain ⟨p, ev, n0, nF, r⟩ := I.slot i _ e
      exact ⟨_, getD_some ev, q _ F H I.all ⟨p, rfl, n0, nF, r⟩⟩
    | _ => exact q.elim
def sIf (c : Gm → R Bool) (f g : Gm → R Out) : Gm → R Out := fun Γ => (c Γ).bind fun k => if k = true then f Γ else g Γ
theorem ss_if {fc : Gm → R Bool} {f g : Gm → R Out} {s1 s2 : List Stmt} (hc : ST X E c fc) (h1 : SB X E s1 f) (h2 : SB X E s2 g) : SS X E (.If c s1 s2 pos) (sIf fc f g) := by
  obtain ⟨t, p, gt⟩ := hc
  obtain ⟨u, pu, gu⟩ := h1
  obtain ⟨w, pw, gw⟩ := h2
  refine ⟨_, ps_if p pu pw, fun Γ F0 H0 F H σ D I q => gt Γ F0 H0 F H σ _ I (R.post_mono (R.post_bind q) (fun k _ q F' H' gr => ?_) (Erp.at I))⟩
  cases k with
  | true => rw [if_pos rfl] at q ⊢; exact gu Γ F0 H0 F' H' σ D (I.grow gr) q
  | false => rw [if_neg Bool.false_ne_true] at q ⊢; exact gw Γ F0 H0 F' H' σ D (I.grow gr) q
def sSet (mu : Bool) (i : Nat) (f : Gm → R O) : Gm → R Out := fun Γ => (f Γ).bind fun o => .ok (.nx (setO mu i o Γ))
theorem gs_set {te : TE} {f : Gm → R O} (mu : Bool) (i : Nat) (h : GE X.K X.mg E te f) : GS X.K X.mg E (tAsg te (gName i)) (sSet mu i f) := fun Γ F0 H0 F H σ D I q =>
  h Γ F0 H0 F H σ _ I (R.post_mono (R.post_bind q) (fun o _ q v F' H' gr r => by
    obtain ⟨F'', I'⟩ := I.setO mu i gr r
    exact q _ F'' H' I') (Erp.at I))
theorem ss_set {i : Nat} {x : Str} {f : Gm → R O} (mu : Bool) (hN : X.N.Nodup) (hi : X.N[i]? = some x) (hx : Loc X.env.scope x) (hf : X.fn x = true ∨ X.env.scope.names.lookup x = some .local) (h : SE X E e f) (hs : swapsWith e (some (.Name x p)) pos.line X.env = pure false) :
    SS X E (.Assign [.Name x p] e pos) (sSet mu i f) := by
  obtain ⟨t, pe, g⟩ := h
  exact ⟨_, ps_set hN hi hx pe hs hf, gs_set mu i g⟩
def sAsg (t : Tg) (f : Gm → R D) : Gm → R Out := fun Γ => (f Γ).bind fun d => (noE (t.fn d Γ)).bind fun Γ' => .ok (.nx Γ')
theorem ss_asg {tg : PySem.Expr} {t : Tg} {f : Gm → R D} (h : SV X E e f) (hg : SG X tg t) (hs : swapsWithSole [tg] e pos.line X.env = pure false) (hw : swappedStores [tg] e X.env = pure none) (hst : isStar tg = false) :
    SS X E (.Assign [tg] e pos) (sAsg t f) := by
  obtain ⟨te, pe, g⟩ := h
  obtain ⟨u, pg, gg⟩ := hg
  refine ⟨_, ps_asg pe pg hs hw (by rw [assign_cons hst]; rfl), fun Γ F0 H0 F H σ D I q => ?_⟩
  refine g Γ F0 H0 F H σ _ I (R.post_mono (R.post_bind q) (fun d _ q v F' H' gr r => ?_) (Erp.at I))
  refine gg Γ F0 H0 F' H' σ v d _ (I.grow gr) r ?_
  have q := R.post_bind q
  obtain ⟨Γ', e', q⟩ := noE_post q
  rw [e']
  exact fun σ' I' _ => q σ' F' H' I'
def sPar (i j : Nat) (f : Gm → R (List D)) : Gm → R Out := fun Γ => (f Γ).bind fun ds => match ds with
  | [d, e] => .ok (.nx ((Γ.set i (.val d)).set j (.val e)))
  | _ => .stuck
theorem ss_par {i j : Nat} {x y : Str} {px py pt pt2 : Pos} {kt k2 : Nat} {f : Gm → R (List D)} (hc : X.calm = true) (hN : X.N.Nodup) (hi : X.N[i]? = some x) (hj : X.N[j]? = some y) (hij : i ≠ j) (hx : X.env.scope.names.lookup x = some .local) (hy : X.env.scope.names.lookup y = some .local)
    (ha : SI X E [a, b] f) (hw : swappedStores [.Tuple [.Name x px, .Name y py] kt pt] (.Tuple [a, b] k2 pt2) X.env = pure (some [x, y])) :
    SS X E (.Assign [.Tuple [.Name x px, .Name y py] kt pt] (.Tuple [a, b] k2 pt2) pos) (sPar i j f) := by
  obtain ⟨t, p, g⟩ := ha
  refine ⟨_, ps_par hc hN hi hj hij hx hy p hw, fun Γ F0 H0 F H σ D I q => ?_⟩
  refine g Γ F0 H0 F H σ _ I (R.post_mono (R.post_bind q) (fun ds _ q vs F' H' gr r => ?_) (Erp.at I))
  split at q
  · obtain ⟨v, w, rfl, r1, r2⟩ := r.two
    exact ⟨v, w, rfl, q _ F' H' (((I.grow gr).setVal r1).setVal r2)⟩
  · exact q.elim
def whR (c : Gm → R Bool) (b : Gm → R Out) : Nat → Gm → R Out
  | 0, _ => .stuck
  | n + 1, Γ => (c Γ).bind fun k => if k = true then (b Γ).bind fun o => match o with
      | .nx Γ' => whR c b n Γ'
      | .ct Γ' => whR c b n Γ'
      | .bk Γ' => .ok (.nx Γ')
      | .rt o => .ok (.rt o)
    else .ok (.nx Γ)
theorem ss_while {fc : Gm → R Bool} {fb : Gm → R Out} (n : Nat) (hp : PassesOwn (model X.prog X.w) X.A X.env X.xe) (hc : ST X E c fc) (hb : SB X E sts fb) : SS X E (.While c sts [] pos) (whR fc fb n) := by
  obtain ⟨t, pt, gt⟩ := hc
  obtain ⟨u, pu, gu⟩ := hb
  refine ⟨_, ps_while hp pt pu, fun Γ F0 H0 F H σ D I q => ⟨fun m σ H => ∃ Γ F, EnvOk X.K F0 H0 F H σ Γ ∧ (whR fc fb m Γ).post (OutQ X.K F0 H0 D) (Erp X.mg E F0 H0), ⟨n, Γ, F, I, q⟩, ?_⟩⟩
  rintro m σ H ⟨Γ, F, I, q⟩
  cases m with
  | zero => exact q.elim
  | succ m =>
    rw [whR] at q
    refine gt Γ F0 H0 F H σ _ I (R.post_mono (R.post_bind q) (fun k _ q F' H' gr => ?_) (Erp.at I))
    cases k with
    | false => rw [if_neg Bool.false_ne_true] at q ⊢; exact q σ F' H' (I.grow gr)
    | true =>
      rw [if_pos rfl] at q ⊢
      refine ⟨fun σ H => ∃ Γ F, EnvOk X.K F0 H0 F H σ Γ ∧ (whR fc fb m Γ).post (OutQ X.K F0 H0 D) (Erp X.mg E F0 H0), fun σ' H' w => ⟨m, Nat.lt_succ_self m, w⟩, ?_⟩
      refine gu Γ F0 H0 F' H' σ _ (I.grow gr) (R.post_imp (R.post_bind q) fun o q => ?_)
      cases o with
      | nx Γ' => exact fun σ' F2 H2 I2 => ⟨Γ', F2, I2, q⟩
      | ct Γ' => exact fun σ' F2 H2 I2 => ⟨Γ', F2, I2, q⟩
      | bk Γ' => exact q
      | rt o => exact q
def forR (t : Tg) (b : Gm → R Out) : List D → Gm → R Out
  | [], Γ => .ok (.nx Γ)
  | d :: r, Γ => (noE (t.fn d Γ)).bind fun Γ1 => (b Γ1).bind fun o => match o with
      | .nx Γ' => forR t b r Γ'
      | .ct Γ' => forR t b r Γ'
      | .bk Γ' => .ok (.nx Γ')
      | .rt o => .ok (.rt o)
def sFor (fi : Gm → R (List D)) (t : Tg) (b : Gm → R Out) : Gm → R Out := fun Γ => (fi Γ).bind fun ds => forR t b ds Γ
theorem OutQ.unbase {K : PySem.W.Frag} {F0 F1 : Fz T} {H0 : Hp} {D : Ends} (s : Same F0 F1) (o : ∀ a u, H0 a = some u → noT u → F1 a = F0 a) : ∀ {u : Out}, OutQ K F0 H0 D u → OutQ K F1 H0 D u
  | .nx _, q => fun σ F H I => q σ F H (I.unbase s o)
  | .bk _, q => fun σ F H I => q σ F H (I.unbase s o)
  | .ct _, q => fun σ F H I => q σ F H (I.unbase s o)
  | .rt _, q => fun v F H g r => q v F H (g.unbase s o) r
theorem ss_for {tg iter : PySem.Expr} {fi : Gm → R (List D)} {t : Tg} {fb : Gm → R Out} (hp : PassesOwn (model X.prog X.w) X.A X.env X.xe) (hc : X.calm = true) (hi : SItF X E tg iter fi) (hg : SG X tg t) (hb : SB X E sts fb) (hs : isSetE iter = false) :
    SS X E (.For tg iter sts [] pos) (sFor fi t fb) := by
  obtain ⟨wi, pi, gi⟩ := hi
  obtain ⟨g, pg, gg⟩ := hg
  obtain ⟨u, pu, gu⟩ := hb
  refine ⟨_, ps_for hp hc pi pg pu (folded_of hs), fun Γ F0 H0 F H σ D I q => ?_⟩
  refine gi Γ F0 H0 F H σ _ I (R.post_mono (R.post_bind q) (fun ds _ q J F1 H1 g1 it => ?_) (Erp.at I))
  have I1 := (I.grow g1).rebase
  have s1 : Same F0 F1 := I.hF.trans g1.ff
  have o1 : ∀ a u, H0 a = some u → noT u → F1 a = F0 a := (I.grow g1).old
  have q1 : (forR t fb ds Γ).post (OutQ X.K F1 H0 D) (Erp X.mg E F1 H0) := R.post_mono q (fun u _ q => OutQ.unbase s1 o1 q) fun n e => e
  refine ⟨fun i m σ H => m = ds.length - i ∧ i ≤ ds.length ∧ ∃ Γ F, EnvOk X.K F1 H0 F H σ Γ ∧ (forR t fb (ds.drop i) Γ).post (OutQ X.K F1 H0 D) (Erp X.mg E F1 H0), ⟨ds.length, rfl, Nat.zero_le _, Γ, F1, I1, q1⟩, ?_⟩
  rintro i m σ H ⟨rfl, hle, Γ, F, I, q⟩
  by_cases hlt : i < ds.length
  · refine .inr ⟨it.go i F H hlt ⟨I.hF, I.sub⟩, fun σ H => ∃ Γ F, EnvOk X.K F1 H0 F H σ Γ ∧ (forR t fb (ds.drop (i + 1)) Γ).post (OutQ X.K F1 H0 D) (Erp X.mg E F1 H0), fun σ' H' w => ⟨ds.length - (i + 1), by omega, rfl, hlt, w⟩, fun x H2 y => ?_⟩
    obtain ⟨d, ed⟩ := get_some hlt
    obtain ⟨F2, g2, rx⟩ := it.yld i d F H x H2 ed ⟨I.hF, I.sub⟩ y
    have e1 : ds.drop i = d :: ds.drop (i + 1) := by
      rw [List.drop_eq_getElem_cons hlt]
      rw [List.getElem?_eq_getElem hlt] at ed
      cases ed
      rfl
    rw [e1, forR] at q
    obtain ⟨Γ', e', q⟩ := noE_post (R.post_bind q)
    refine gg Γ F1 H0 F2 H2 σ x d _ (I.grow g2) rx ?_
    rw [e']
    intro σ' I' _
    refine gu Γ' F1 H0 F2 H2 σ' _ I' (R.post_imp (R.post_bind q) fun o q => ?_)
    cases o with
    | nx Γ' => exact fun σ' F2 H2 I2 => ⟨Γ', F2, I2, q⟩
    | ct Γ' => exact fun σ' F2 H2 I2 => ⟨Γ', F2, I2, q⟩
    | bk Γ' => exact q
    | rt o => exact q
  · have e : i = ds.length := by omega
    subst e
    rw [List.drop_length] at q
    exact .inl ⟨it.stop F H ⟨I.hF, I.sub⟩, q σ F H I⟩
end
end Pd

set_option Elab.async false
set_option linter.all false
set_option maxRecDepth 100000
set_option maxHeartbeats 1000000
namespace Pd
open PySem PySem.Spec L2
section
variable {X : Cx} {E : Ex T} {st : Stmt} {e a b c : PySem.Expr} {es : List PySem.Expr} {sts rest : List Stmt} {pos p p2 apos cpos : Pos} {i : Nat} {x : Str}
theorem few1 {env : Env} (h : isStar e = false) : ((backTo cpos (starEach [e] env)).all (fun x => !x.1) && (backToKw cpos (keywordEach [] env)).all (fun x => x.1.isSome)
      && decide (([e] : List PySem.Expr).length + ([] : List Keyword).length + (if ([] : List Keyword).isEmpty then 0 else 1) < 30)) = true := by
  rw [star_few (by simpa using h)]
  rfl
theorem post_okE {α : Type} {a : α} {P : α → Prop} {E : Str → Prop} (h : (R.ok a).post P E) : P a := h
def ownL (i : Nat) (Γ : Gm) : R (List D) := match Γ[i]? with
  | some (.own (.lst ds)) => .ok ds
  | _ => .stuck
theorem ownL_post {Γ : Gm} {P : List D → Prop} {E : Str → Prop} (h : (ownL i Γ).post P E) : ∃ ds, Γ[i]? = some (.own (.lst ds)) ∧ P ds := by
  unfold ownL at h
  split at h
  · exact ⟨_, by assumption, h⟩
  · exact h.elim
theorem own_list {K : PySem.W.Frag} {F0 F : Fz T} {H0 H : Hp} {σ : L2.St} {Γ : Gm} {ds : List D} (I : EnvOk K F0 H0 F H σ Γ) (e : Γ[i]? = some (.own (.lst ds))) : ∃ p xs, σ.getD i none = some (.ref p) ∧ Fre H0 p ∧ F p = none ∧ H p = some (.lst xs) ∧ Reps K F xs ds ∧ ds.length ≤ sizeLine := by
  obtain ⟨p, ev, n0, nF, ow⟩ := I.slot i _ e
  cases ow with
  | lst hH rs hl => exact ⟨p, _, ev, n0, nF, hH, rs, hl⟩
theorem own_write {K : PySem.W.Frag} {F0 F F' : Fz T} {H0 H H' : Hp} {σ : L2.St} {Γ : Gm} {ds ds' : List D} {p : Addr} {xs xs' : List V} (I : EnvOk K F0 H0 F H σ Γ) (e : Γ[i]? = some (.own (.lst ds))) (ev : σ.getD i none = some (.ref p)) (n0 : Fre H0 p) (nF : F p = none) (hH : H p = some (.lst xs))
    (gr : Grow F H F' H') (r : Reps K F' xs' ds') (l : ds'.length ≤ sizeLine) : EnvOk K F0 H0 F' (upd H' p (.lst xs')) σ (Γ.set i (.own (.lst ds'))) :=
  (I.grow gr).upd e ev n0 ((gr.old p _ hH fun _ z => nomatch z).trans nF) (.lst upd_same r l)
def sApp (i : Nat) (f : Gm → R D) : Gm → R Out := fun Γ => (ownL i Γ).bind fun ds => (f Γ).bind fun d => if ds.length < line then .ok (.nx (Γ.set i (.own (.lst (ds ++ [d]))))) else .stuck
theorem ss_app {f : Gm → R D} (hN : X.N[i]? = some x) (hv : Vis X.env.scope x) (hd : (x == ("__debug__" : Str)) = false) (hcd : (x == ("__classdict__" : Str)) = false) (h : SV X E e f) (hs : isStar e = false) (hl : (apos.endLine == cpos.line) = true) :
    SS X E (.Expr (.Call (.Attribute (.Name x p) "append" apos) [e] [] cpos) pos) (sApp i f) := by
  obtain ⟨t, pa, g⟩ := si1 h hs
  have pm := pe_bm PySem.F.plainAttrs_list PySem.F.slot_list_append PySem.F.type_list_append (apos := apos) (cpos := cpos) mt_append (pe_var (pos := p) hN hv hd hcd) pa (attr_base rfl) (few1 hs) hl (star_cons hs)
  refine ⟨_, ps_expr pm (swaps_of rfl), fun Γ F0 H0 F H σ D I q => ?_⟩
  obtain ⟨ds, e, q⟩ := ownL_post (R.post_bind q)
  obtain ⟨a, xs, ev, n0, nF, hH, rs, _⟩ := own_list I e
  refine ⟨_, getD_some ev, .inl ⟨rfl, _, .of hH⟩, g Γ F0 H0 F H σ _ I ?_⟩
  have q := R.post_err q (Erp.at (mg := X.mg) (E := E) I)
  show R.post ((f Γ).bind fun d => R.ok [d]) _ _
  cases ef : f Γ with
  | stuck => rw [ef] at q; exact q.elim
  | err n => rw [ef] at q; exact R.post_bind q
  | ok d =>
    rw [ef] at q
    have q := post_okE (R.post_bind q)
    intro vs F' H' gr rv
    obtain ⟨v, rfl, rw1⟩ := rv.one
    split at q
    · rename_i hlt
      exact ⟨a, _, v, rfl, rfl, gr.hh _ _ hH (fun _ z => nomatch z), by rw [rs.length, line_eq]; exact hlt, q σ F' _ (own_write I e ev n0 nF hH gr ((rs.mono gr.ff).append (.cons rw1 .nil)) (by rw [List.length_append, line_eq]; exact hlt))⟩
    · exact q.elim
def sExt (i : Nat) (f : Gm → R D) : Gm → R Out := fun Γ => (ownL i Γ).bind fun ds => (f Γ).bind fun d => match d with
  | .lst es => if ds.length + es.length ≤ line then .ok (.nx (Γ.set i (.own (.lst (ds ++ es))))) else .stuck
  | _ => .stuck
theorem ss_ext {f : Gm → R D} (hN : X.N[i]? = some x) (hv : Vis X.env.scope x) (hd : (x == ("__debug__" : Str)) = false) (hcd : (x == ("__classdict__" : Str)) = false) (h : SR X E e f) (hs : isStar e = false) (hl : (apos.endLine == cpos.line) = true) :
    SS X E (.Expr (.Call (.Attribute (.Name x p) "extend" apos) [e] [] cpos) pos) (sExt i f) := by
  obtain ⟨t, pa, g⟩ := sa_of (.cons h hs .nil)
  have pm := pe_bm PySem.F.plainAttrs_list PySem.F.slot_list_extend PySem.F.type_list_extend (apos := apos) (cpos := cpos) mt_extend (pe_var (pos := p) hN hv hd hcd) pa (attr_base rfl) (few1 hs) hl (star_cons hs)
  refine ⟨_, ps_expr pm (swaps_of rfl), fun Γ F0 H0 F H σ D I q => ?_⟩
  obtain ⟨ds, e, q⟩ := ownL_post (R.post_bind q)
  obtain ⟨a, xs, ev, n0, nF, hH, rs, _⟩ := own_list I e
  refine ⟨_, getD_some ev, .inl ⟨rfl, _, .of hH⟩, g Γ F0 H0 F H σ _ I ?_⟩
  have q := R.post_err q (Erp.at (mg := X.mg) (E := E) I)
  show R.post ((f Γ).bind fun d => R.ok [d]) _ _
  cases ef : f Γ with
  | stuck => rw [ef] at q; exact q.elim
  | err n => rw [ef] at q; exact R.post_bind q
  | ok d =>
    rw [ef] at q
    have q := post_okE (R.post_bind q)
    intro vs F' H' gr rv
    obtain ⟨v, rfl, rw1⟩ := rv.one
    split at q
    · rename_i es
      obtain ⟨b, zs, rfl, hb, rz, _⟩ := rw1.lst gr.sub
      split at q
      · rename_i hle
        exact ⟨a, b, _, zs, rfl, rfl, gr.hh _ _ hH (fun _ z => nomatch z), hb, by rw [rs.length, rz.length, line_eq]; exact hle, q σ F' _ (own_write I e ev n0 nF hH gr ((rs.mono gr.ff).append rz) (by rw [List.length_append, line_eq]; exact hle))⟩
      · exact q.elim
    · exact q.elim
theorem Reps.last {K : PySem.W.Frag} {F : Hp} {xs : List V} {ds : List D} {d : D} (r : Reps K F xs ds) (e : ds.getLast? = some d) : ∃ v, xs[xs.length - 1]? = some v ∧ Rep K F v d := by
  rw [List.getLast?_eq_getElem?] at e
  rw [r.length]
  exact r.get e
theorem Reps.dropLast {K : PySem.W.Frag} {F : Hp} {xs : List V} {ds : List D} (r : Reps K F xs ds) : Reps K F xs.dropLast ds.dropLast := by
  rw [List.dropLast_eq_take, List.dropLast_eq_take, r.length]
  exact r.take _
def sPop (i : Nat) (k : Option Nat) : Gm → R Out := fun Γ => (ownL i Γ).bind fun ds => match ds.getLast? with
  | some d => .ok (.nx (match k with
    | some j => (Γ.set i (.own (.lst ds.dropLast))).set j (.val d)
    | none => Γ.set i (.own (.lst ds.dropLast))))
  | none => .stuck
def stoD : D → D → D → Option D
  | .lst ds, .int j, d => (ixN ds.length j).map fun k => .lst (ds.set k d)
  | .dct kvs, k, d => if isKey k = true ∧ kindK kvs k = true ∧ kvs.length < line then some (.dct (putD kvs k d)) else none
  | _, _, _ => none
def ownD (i : Nat) (Γ : Gm) : R D := match Γ[i]? with
  | some (.own d) => .ok d
  | _ => .stuck
theorem ownD_post {Γ : Gm} {P : D → Prop} {E : Str → Prop} (h : (ownD i Γ).post P E) : ∃ d, Γ[i]? = some (.own d) ∧ P d := by
  unfold ownD at h
  split at h
  · exact ⟨_, by assumption, h⟩
  · exact h.elim
def rSto : TSet := fun o i v H Q => rSetL o i v H Q ∨ rSetD o i v H Q ∨ (∃ a b k, o = .ref a ∧ i = .ref b ∧ H a = some (.dK []) ∧ H b = some (.tup (k.map kV)) ∧ Q (upd H a (.dT [(k, v)]))) ∨ ∃ a k, o = .ref a ∧ i = kV k ∧ H a = some (.dT []) ∧ Q (upd H a (.dK [(k, v)]))
theorem set_all (hu : X.A.units + 1 < cLine) : PSet X rSto := by
  intro pins s σ H o i v ov iv u Q I ro ri rv h
  rcases h with h | h | ⟨a, b, k, rfl, rfl, ha, hb, q⟩ | ⟨a, k, rfl, rfl, ha, q⟩
  · exact set_list pins s σ H o i v ov iv u Q I ro ri rv h
  · exact set_dict hu pins s σ H o i v ov iv u Q I ro ri rv h
  · have hne : b ≠ a := fun z => by subst z; rw [ha] at hb; cases hb
    have I' := inv_toT I ha
    refine set_dict hu pins s σ _ _ _ v ov iv u Q I' ro ri rv ⟨a, _, rfl, DPut.t upd_same (by rw [upd_ne hne]; exact hb) (by decide), ?_⟩
    rw [upd_upd]
    exact q
  · have I' := inv_toK I ha
    refine set_dict hu pins s σ _ _ _ v ov iv u Q I' ro ri rv ⟨a, _, rfl, DPut.k upd_same (by decide), ?_⟩
    rw [upd_upd]
    exact q
theorem putD_len (kvs : List (D × D)) (k v : D) : (putD kvs k v).length ≤ kvs.length + 1 := by
  unfold putD
  split
  · rw [List.length_map]; omega
  · rw [List.length_append]; exact Nat.le_refl _
theorem sto_of {K : PySem.W.Frag} {F : Fz T} {H : Hp} {p : Addr} {c k d c' : D} {y v : V} (s : Sub F H) (ow : OwnAt K F H p c) (ck : Cont K F H y k) (rv : Rep K F v d) (e : stoD c k d = some c') (Q : Hp → Prop) (q : ∀ o, OwnAt K F (upd H p o) p c' → Q (upd H p o)) : rSto (.ref p) y v H Q := by
  cases c with
  | lst ds =>
    cases k with
    | int j =>
      obtain ⟨n, en, rfl⟩ := Option.map_eq_some_iff.mp (show (ixN ds.length j).map _ = _ from e)
      obtain rfl := ck.int
      cases ow with
      | lst hH rs hl => exact .inl ⟨p, _, j, n, rfl, rfl, hH, by rw [rs.length]; exact en, q _ (.lst upd_same (rs.set rv n) (by rw [List.length_set]; exact hl))⟩
    | _ => cases e
  | dct kvs =>
    have e : (if isKey k = true ∧ kindK kvs k = true ∧ kvs.length < line then some (D.dct (putD kvs k d)) else none) = some c' := by
      cases k <;> exact e
    split at e
    · rename_i h
      cases e
      have ln := putD_len kvs k d
      have flat : ∀ kk : Key, k = keyD kk → y = kV kk → rSto (.ref p) y v H Q := fun kk e1 e2 => by
        subst e1 e2
        cases ow with
        | dctK hH rs hl => exact .inr (.inl ⟨p, _, rfl, DPut.k hH (by rw [rs.length, line_eq]; exact h.2.2), q _ (.dctK upd_same (rs.put kk rv) (by rw [line_eq] at hl ⊢; omega))⟩)
        | dctT hH rs hl =>
          cases rs with
          | nil => exact .inr (.inr (.inr ⟨p, kk, rfl, rfl, hH, q _ (.dctK upd_same (RepK.cons rv .nil) (by rw [line_eq]; omega))⟩))
          | @cons k' _ _ _ _ r t => cases kk <;> simp [kindK, keyT, keyD] at h
      cases k with
      | int i => exact flat (.inl i) rfl ck.int
      | str z => exact flat (.inr z) rfl ck.str
      | tup ds =>
        obtain ⟨b, xs, rfl, hb, r1, _, _⟩ := ck.tup s
        obtain ⟨ks, hks⟩ := Option.isSome_iff_exists.mp (show (keysOf? ds).isSome = true from h.1)
        have e1 := keysOf_some hks
        subst e1
        have e2 := r1.keys
        subst e2
        cases ow with
        | dctK hH rs hl =>
          cases rs with
          | nil => exact .inr (.inr (.inl ⟨p, b, ks, rfl, rfl, hH, hb, q _ (.dctT upd_same (RepT.cons rv .nil) (by rw [line_eq]; omega))⟩))
          | @cons k' _ _ _ _ r t => cases k' <;> simp [kindK, keyD] at h
        | dctT hH rs hl => exact .inr (.inl ⟨p, _, rfl, DPut.t hH hb (by rw [rs.length, line_eq]; exact h.2.2), q _ (.dctT upd_same (rs.put ks rv) (by rw [line_eq] at hl ⊢; omega))⟩)
      | _ => exact absurd h.1 (by simp [isKey])
    · cases e
  | _ => cases e
def sSto (i : Nat) (fe fk : Gm → R D) : Gm → R Out := fun Γ => (fe Γ).bind fun d => (ownD i Γ).bind fun c => (fk Γ).bind fun k => (R.of (stoD c k d)).bind fun c' => .ok (.nx (Γ.set i (.own c')))
theorem sub_assign {o i : PySem.Expr} {v : Value} {env : Env} (h : isSlice i = false) : assign (.Subscript o i pos) env v = (do
      let ov ← holding [v] (eval o env)
      let iv ← holding [v, ov] (eval i env)
      standAt pos
      holding [v, ov, iv] (setItem ov iv v)
      release [v, ov, iv] []) := by
  cases i <;> first | rfl | cases h
theorem ss_sto {k : PySem.Expr} {fe fk : Gm → R D} (hu : X.A.units + 1 < cLine) (hN : X.N[i]? = some x) (hv : Vis X.env.scope x) (hd : (x == ("__debug__" : Str)) = false) (hcd : (x == ("__classdict__" : Str)) = false) (he : SV X E e fe) (hk : SR X E k fk) (hs : isSlice k = false) :
    SS X E (.Assign [.Subscript (.Name x p) k p2] e pos) (sSto i fe fk) := by
  obtain ⟨te, pe, ge⟩ := he
  obtain ⟨tk, pk, gk⟩ := hk
  refine ⟨_, ps_asg pe (pg_sub (pe_var (pos := p) hN hv hd hcd) pk (set_all hu) fun v => sub_assign hs) ?_ ?_ rfl, fun Γ F0 H0 F H σ D I q => ?_⟩
  · show swapsWith e (some (.Subscript (.Name x p) k p2)) pos.line X.env = _
    unfold swapsWith
    cases e <;> rfl
  · unfold swappedStores
    rfl
  · refine ge Γ F0 H0 F H σ _ I (R.post_mono (R.post_bind q) (fun d _ q v F1 H1 g1 r1 => ?_) (Erp.at I))
    have I1 := I.grow g1
    obtain ⟨c, e, q⟩ := ownD_post (R.post_bind q)
    obtain ⟨a, ev, n0, nF, ow⟩ := I1.slot i _ e
    refine ⟨_, getD_some ev, gk Γ F0 H0 F1 H1 σ _ I1 (R.post_mono (R.post_bind q) (fun k _ q y F2 H2 g2 ck => ?_) (Erp.at I1))⟩
    have I2 := I1.grow g2
    obtain ⟨c', ec, q⟩ := of_post (R.post_bind q)
    obtain ⟨a', ev', n0', nF', ow'⟩ := I2.slot i _ e
    rw [ev] at ev'
    cases ev'
    exact sto_of g2.sub ow' ck (r1.mono g2.ff) ec _ fun o ow2 => q σ F2 _ (I2.upd e ev n0' nF' ow2)
structure ExcOkN (X : Cx) (n : Str) : Prop where
  ex : ∃ (C : Addr) (B newId initId : String) (bmB : List Value), ExcBaseFacts B newId initId bmB ∧ PySem.W.excIn X.K C bmB newId = true ∧ X.mg n = some (.ref C) ∧ PySem.W.keepIn X.K (.ref C) = true ∧ Raises X (.ref C)
theorem ss_raise {n m : Str} {j : Nat} {p3 : Pos} (hc : X.calm = true) (tk : Takes X (fun cls d _ H => E cls d H)) (hx : ExcOkN X n) (hg : Gl X n) (hdb : (n == ("__debug__" : Str)) = false) :
    SS X E (.Raise (some (.Call (.Name n p) [.Constant (.str m) j p2] [] p3)) none pos) (fun _ => .err n) := by
  obtain ⟨C, B, newId, initId, bmB, F, q, gC, kC, r⟩ := hx.ex
  exact ⟨_, ps_raise hc tk (pmk_own F q gC kC r hg hdb), fun Γ F0 H0 F H σ D I q => q C H gC I.hH I.sub.tb⟩
end
end Pd

set_option Elab.async false
set_option linter.all false
set_option maxRecDepth 100000
set_option maxHeartbeats 1000000
namespace Pd
open PySem PySem.Spec L2

structure Gl5 where
  P : Program
  w : World
  K : PySem.W.Frag
  mg : Str → Option Value
  base : Heap
abbrev gOf (X : Cx) : Gl5 := ⟨X.prog, X.w, X.K, X.mg, X.base⟩
structure DefG (G : Gl5) (k : Nat) (x : Str) (n : Nat) (φ : List Sl → R O) : Prop where
  ex : ∃ (f : Addr) (fd : FuncData) (ps : List Str), FnOk G.P G.w G.K G.mg G.base (L2.CX G.P G.w) k f fd ps (spOf G.K G.mg n φ) ∧ G.mg x = some (.ref f) ∧ PySem.W.keepIn G.K (.ref f) = true ∧ Binds G.K fd ps []
structure ExcG (G : Gl5) (n : Str) : Prop where
  ex : ∃ (C : Addr) (B newId initId : String) (bmB : List Value), ExcBaseFacts B newId initId bmB ∧ PySem.W.excIn G.K C bmB newId = true ∧ G.mg n = some (.ref C) ∧ PySem.W.keepIn G.K (.ref C) = true ∧
    PySem.W.subIn G.K (.ref C) (.type "BaseException") = some true ∧ PySem.W.typeIn G.K (.ref C) = some (.type "type")
structure CstG (G : Gl5) (x : Str) (d : D) : Prop where
  ex : ∃ (u : Value) (v : V), G.mg x = some u ∧ RelV v u ∧ ∀ F, Rep G.K F v d
def BltG (G : Gl5) (x : Str) : Prop := G.mg x = none
structure Cok (X : Cx) (E : Ex T) (G : Gl5) (k : Nat) (N : List Str) (sc : Scope) (fnb : Str → Bool) : Prop where
  g : gOf X = G
  calm : X.calm = true
  hN : X.N = N
  nd : N.Nodup
  sc : X.env.scope = sc
  fn : ∀ x, fnb x = true → X.fn x = true
  hu : X.A.units + 100 < cLine
  room : Room k X.A
  tk : Takes X (fun cls d _ H => E cls d H)
structure Sok (X : Cx) : Prop where
  po : PassesOwn (model X.prog X.w) X.A X.env X.xe
def fnAll : Str → Bool := fun _ => true
def fnBlk (scope : Scope) : Str → Bool := fun x => scope.names.lookup x == some .cell
section
variable {X : Cx} {E : Ex T} {G : Gl5} {k : Nat} {N : List Str} {sc : Scope} {fnb : Str → Bool}
theorem Cok.blk (C : Cok X E G k N sc fnb) (s : Shared) (H : Hp) (scope : Scope) (c : Addr) (cl : List (Str × Addr)) (fp : List Addr) :
    Cok (X.blk s H scope (compEnvC scope cl c X.env) fp) (EN_ T) G k N (relS scope sc) (fnBlk scope) :=
  ⟨C.g, C.calm, C.hN, C.nd, by rw [← C.sc]; rfl, fun x h => h, C.hu, C.room, takes0⟩
def visB (sc : Scope) (x : Str) : Bool := sc.names.lookup x == some .local || sc.names.lookup x == some .cell || sc.names.lookup x == some .free
def varB (N : List Str) (sc : Scope) (i : Nat) (x : Str) : Bool := N[i]? == some x && visB sc x && !(x == ("__debug__" : Str)) && !(x == ("__classdict__" : Str))
def stoB (N : List Str) (sc : Scope) (fnb : Str → Bool) (i : Nat) (x : Str) : Bool := N[i]? == some x && ((sc.names.lookup x == some .local) || (sc.names.lookup x == some .cell && fnb x))
def gloB (sc : Scope) (x : Str) : Bool := sc.names.lookup x == some .globalImplicit && !(x == ("__debug__" : Str))
theorem lk_of {sc : Scope} {x : Str} {k : NameKind} (h : (sc.names.lookup x == some k) = true) : sc.names.lookup x = some k := by
  cases e : sc.names.lookup x with
  | none => rw [e] at h; cases h
  | some k' =>
    rw [e] at h
    cases k <;> cases k' <;> first | rfl | cases h
theorem Cok.var (C : Cok X E G k N sc fnb) {i : Nat} {x : Str} (h : varB N sc i x = true) : X.N[i]? = some x ∧ Vis X.env.scope x ∧ (x == ("__debug__" : Str)) = false ∧ (x == ("__classdict__" : Str)) = false := by
  unfold varB visB at h
  simp only [Bool.and_eq_true, Bool.or_eq_true, Bool.not_eq_true'] at h
  obtain ⟨⟨⟨h1, h2⟩, h3⟩, h4⟩ := h
  refine ⟨by rw [C.hN]; exact eq_of_beq h1, ?_, h3, h4⟩
  rw [C.sc]
  rcases h2 with (h2 | h2) | h2
  · exact .inl (lk_of h2)
  · exact .inr (.inl (lk_of h2))
  · exact .inr (.inr (lk_of h2))
theorem Cok.sto (C : Cok X E G k N sc fnb) {i : Nat} {x : Str} (h : stoB N sc fnb i x = true) : X.N[i]? = some x ∧ Loc X.env.scope x ∧ (X.fn x = true ∨ X.env.scope.names.lookup x = some .local) := by
  unfold stoB at h
  simp only [Bool.and_eq_true, Bool.or_eq_true] at h
  obtain ⟨h1, h2⟩ := h
  refine ⟨by rw [C.hN]; exact eq_of_beq h1, ?_⟩
  rw [C.sc]
  rcases h2 with h2 | ⟨h2, h3⟩
  · exact ⟨.inl (lk_of h2), .inr (lk_of h2)⟩
  · exact ⟨.inr (lk_of h2), .inl (C.fn x h3)⟩
theorem Cok.glo (C : Cok X E G k N sc fnb) {x : Str} (h : gloB sc x = true) : Gl X x ∧ (x == ("__debug__" : Str)) = false := by
  unfold gloB at h
  simp only [Bool.and_eq_true, Bool.not_eq_true'] at h
  refine ⟨?_, h.2⟩
  show X.env.scope.names.lookup x = _
  rw [C.sc]
  exact lk_of h.1
theorem Cok.no (C : Cok X E G k N sc fnb) {x : Str} (h : BltG G x) : X.mg x = none := by
  have e := C.g; subst e; exact h
section
variable {e a b c tg iter elt : PySem.Expr} {es : List PySem.Expr} {pos p p2 p3 apos cpos : Pos} {i j : Nat} {x y : Str} {st : Stmt} {sts rest : List Stmt}
theorem n_e (C : Cok X E G k N sc fnb) (h : varB N sc i x = true) : SE X E (.Name x pos) (eVar i) := let ⟨a, b, c, d⟩ := C.var h; se_var a b c d
theorem n_r (C : Cok X E G k N sc fnb) (h : varB N sc i x = true) : SR X E (.Name x pos) (rVar i) := let ⟨a, b, c, d⟩ := C.var h; sr_var a b c d
theorem n_u (C : Cok X E G k N sc fnb) (h : varB N sc i x = true) : SU X E (.Name x pos) (uVar i) := let ⟨a, b, c, d⟩ := C.var h; su_var a b c d
theorem n_g (C : Cok X E G k N sc fnb) {d : D} (h : gloB sc x = true) (c : CstG G x d) : SE X E (.Name x pos) (eC d) := by
  have e := C.g; subst e
  obtain ⟨u, v, hm, r, hr⟩ := c.ex
  exact se_glob (C.glo h).1 hm r hr (C.glo h).2
def tyOf : List (Str × String) := [("int", "int"), ("bool", "bool"), ("str", "str"), ("tuple", "tuple"), ("list", "list"), ("dict", "dict")]
theorem n_t (C : Cok X E G k N sc fnb) {n : String} (h : gloB sc x = true) (hb : BltG G x) (hv : bootBuiltins x = some (.type n)) (hn : x ≠ "__name__") : SE X E (.Name x pos) (eC (.ty n)) :=
  se_type (C.glo h).1 (C.no hb) hv hn (C.glo h).2
theorem t_name (C : Cok X E G k N sc fnb) (h : stoB N sc fnb i x = true) : SG X (.Name x pos) (.nm i) := let ⟨a, b, c⟩ := C.sto h; sg_name (by rw [C.hN]; exact C.nd) a b c
theorem t_tup (C : Cok X E G k N sc fnb) {ts : List Tg} {m : Nat} (h : SGs X es ts) (hl : es.length = ts.length := by rfl) (hs : es.all (fun e => !isStar e) = true := by rfl) : SG X (.Tuple es m pos) (.tp ts) := sg_tup C.calm h hl hs
theorem c_blt (C : Cok X E G k N sc fnb) {f : List D → Option O} {fs : List (Gm → R D)} (hf : bFn x = some f) (h : gloB sc x = true) (hb : BltG G x) (ha : SRs X E (e :: es) fs) : SE X E (.Call (.Name x p) (e :: es) [] pos) (eCall f (seqR fs)) := by
  obtain ⟨b1, b2, b3⟩ := bFn_ok C.calm hf
  exact se_call b1 b2 b3 (C.glo h).1 (C.no hb) ha
theorem c_def (C : Cok X E G k N sc fnb) {m n : Nat} {φ : List Sl → R O} {fs : List (Gm → R Sl)} (D : DefG G m x n φ) (h : gloB sc x = true) (ha : SUs X E es fs) (hm : m ≤ k := by decide) (hn : fs.length = n := by rfl) : SE X E (.Call (.Name x p) es [] pos) (eUser φ (seqR fs)) := by
  have e := C.g; subst e
  exact se_user ⟨let ⟨f, fd, ps, F, q⟩ := D.ex; ⟨f, fd, ps, F.mono hm, q⟩⟩ C.room C.tk (C.glo h).1 (C.glo h).2 hn ha
theorem s_raise (C : Cok X E G k N sc fnb) {m : Str} {j : Nat} (hx : ExcG G x) (h : gloB sc x = true) : SS X E (.Raise (some (.Call (.Name x p) [.Constant (.str m) j p2] [] p3)) none pos) (fun _ => .err x) := by
  have e := C.g; subst e
  obtain ⟨C', B, newId, initId, bmB, F, q, gC, kC, r1, r2⟩ := hx.ex
  exact ss_raise C.calm C.tk ⟨C', B, newId, initId, bmB, F, q, gC, kC, raises_own r1 r2⟩ (C.glo h).1 (C.glo h).2
variable {scope : Scope} {own : List (Str × Nat)} {ifs : List PySem.Expr}
theorem c_lc (C : Cok X E G k N sc fnb) {fi : Gm → R (List D)} {t : Tg} {tt : Gm → R Bool} {te : Gm → R D} (own : List (Str × Nat)) (hi : SItC X E tg iter fi) (ok : blkC N sc scope own = true)
    (hg : ∀ Y, Cok Y (EN_ T) G k N (relS scope sc) (fnBlk scope) → SG Y tg t) (ht : ∀ Y, Cok Y (EN_ T) G k N (relS scope sc) (fnBlk scope) → STf T Y ifs tt) (he : ∀ Y, Cok Y (EN_ T) G k N (relS scope sc) (fnBlk scope) → SV Y (EN_ T) elt te)
    (hs : isSetE iter = false := by rfl) (hv : ∀ i ∈ t.ix, i ∈ own.map (·.2) := by decide) : SE X E (.ListComp elt [⟨tg, iter, ifs, 0⟩] scope pos) (eLc fi t tt te (own.map (·.2))) :=
  se_lc C.calm (by rw [C.hN]; exact C.nd) hi (by rw [C.hN, C.sc]; exact blkOk_by ok) (fun s H c cl fp => hg _ (C.blk s H scope c cl fp)) (fun s H c cl fp => ht _ (C.blk s H scope c cl fp)) (fun s H c cl fp => he _ (C.blk s H scope c cl fp)) hs hv
def swB (sc scope : Scope) (y : Str) (py pos : Pos) : Bool := sc.kind == .function && sc.names.lookup y == some .local && py.line == pos.line && !(scope.names.any fun (n, k) => n == y && (k == .local || k == .cell))
theorem s_set (C : Cok X E G k N sc fnb) {f : Gm → R O} (mu : Bool) (hy : stoB N sc fnb i y = true) (he : SE X E e f) (hs : isComp e = false := by rfl) : SS X E (.Assign [.Name y p] e pos) (sSet mu i f) :=
  ss_set mu (by rw [C.hN]; exact C.nd) (C.sto hy).1 (C.sto hy).2.1 (C.sto hy).2.2 he (swaps_of hs)
theorem swSole {tg e : PySem.Expr} {l : Nat} {env : Env} (h : isName tg = false) : swapsWithSole [tg] e l env = pure false := by
  show swapsWith e (some tg) l env = _
  unfold swapsWith
  cases tg <;> first | (cases h; done) | (cases e <;> rfl)
def isTupE : PySem.Expr → Bool
  | .Tuple .. => true
  | _ => false
theorem s_asg (C : Cok X E G k N sc fnb) {tg : PySem.Expr} {t : Tg} {f : Gm → R D} (h : SV X E e f) (hg : SG X tg t) (h1 : isName tg = false := by rfl) (h2 : isTupE e = false := by rfl) (h3 : isStar tg = false := by rfl) : SS X E (.Assign [tg] e pos) (sAsg t f) :=
  ss_asg h hg (swSole h1) (by
    unfold swappedStores
    cases e <;> first | (cases h2; done) | (cases tg <;> rfl)) h3
def parB (sc : Scope) (x y : Str) (px py : Pos) (a b : PySem.Expr) : Bool := sc.kind == .function && sc.names.lookup x == some .local && sc.names.lookup y == some .local && px.line == py.line && !(x == y) && !isStar a && !isStar b && !(foldedForSure 8 a && foldedForSure 8 b) && !(constantsAlone 8 a && constantsAlone 8 b)
theorem par_swapped {env : Env} {x y : Str} {px py pt pt2 : Pos} {kt k2 : Nat} (hs : env.scope = sc) (h : parB sc x y px py a b = true) : swappedStores [.Tuple [.Name x px, .Name y py] kt pt] (.Tuple [a, b] k2 pt2) env = pure (some [x, y]) := by
  unfold parB at h
  simp only [Bool.and_eq_true, Bool.not_eq_true'] at h
  obtain ⟨⟨⟨⟨⟨⟨⟨⟨h1, h2⟩, h3⟩, h4⟩, h5⟩, h6⟩, h7⟩, h8⟩, h9⟩ := h
  have e1 : sc.kind = .function := by
    cases e : sc.kind <;> rw [e] at h1 <;> first | rfl | cases h1
  have e2 : env.blockKind = .function := by unfold Env.blockKind; rw [hs, e1]; rfl
  have s1 : (env.kindOf x == some .local) = true := by show (env.scope.names.lookup x == some .local) = true; rw [hs]; exact h2
  have s2 : (env.kindOf y == some .local) = true := by show (env.scope.names.lookup y == some .local) = true; rw [hs]; exact h3
  have st : ([a, b].any fun | .Starred .. => true | _ => false) = false := by
    cases a <;> first | (cases h6; done) | (cases b <;> first | (cases h7; done) | rfl)
  have ln : (py.line == px.line) = true := by rw [beq_iff_eq] at h4 ⊢; exact h4.symm
  have f1 : ([a, b].all (foldedForSure 8)) = false := by simpa using h8
  have f2 : ([a, b].all (constantsAlone 8)) = false := by simpa using h9
  have nb : (x != y) = true := by rw [bne, h5]; rfl
  have nb2 : (y == x) = false := by
    cases q : y == x with
    | false => rfl
    | true =>
      rw [eq_of_beq q] at h5
      simp at h5
  unfold swappedStores
  simp only [e2, st, f1, f2, List.filterMap, s1, s2, ln, Expr.pos, List.head?, Option.map, Option.getD, beq_self_eq_true, Bool.and_self]
  simp only [List.any_cons, List.any_nil, Bool.or_false, Bool.or_eq_false_iff] at st
  simp [List.eraseDups, List.eraseDupsBy, List.eraseDupsBy.loop, nb2]
  intro q
  rcases q with q | q
  · exact absurd (q.symm.trans st.1) (by decide)
  · exact absurd (q.symm.trans st.2) (by decide)
end
end
end Pd

set_option Elab.async false
set_option linter.all false
set_option maxRecDepth 100000
set_option maxHeartbeats 1000000
namespace Pd
open PySem PySem.Spec L2
section
variable {X : Cx} {E : Ex T} {G : Gl5} {k : Nat} {N : List Str} {sc : Scope} {fnb : Str → Bool}
variable {e a b c tg iter elt : PySem.Expr} {es : List PySem.Expr} {pos p p2 p3 apos cpos : Pos} {i j : Nat} {x y : Str} {st : Stmt} {sts rest : List Stmt}
theorem s_par (C : Cok X E G k N sc fnb) {px py pt pt2 : Pos} {kt k2 : Nat} {f : Gm → R (List D)} (hi : stoB N sc fnb i x = true) (hj : stoB N sc fnb j y = true) (hp : parB sc x y px py a b = true) (ha : SI X E [a, b] f) (hij : i ≠ j := by decide) :
    SS X E (.Assign [.Tuple [.Name x px, .Name y py] kt pt] (.Tuple [a, b] k2 pt2) pos) (sPar i j f) := by
  have h := hp
  unfold parB at h
  simp only [Bool.and_eq_true, Bool.not_eq_true'] at h
  exact ss_par C.calm (by rw [C.hN]; exact C.nd) (C.sto hi).1 (C.sto hj).1 hij (by rw [C.sc]; exact lk_of h.1.1.1.1.1.1.1.2) (by rw [C.sc]; exact lk_of h.1.1.1.1.1.1.2) ha (par_swapped C.sc hp)
theorem s_app (C : Cok X E G k N sc fnb) {f : Gm → R D} (h : varB N sc i x = true) (he : SV X E e f) (hs : isStar e = false := by rfl) (hl : (apos.endLine == cpos.line) = true := by rfl) :
    SS X E (.Expr (.Call (.Attribute (.Name x p) "append" apos) [e] [] cpos) pos) (sApp i f) := let ⟨a, b, c, d⟩ := C.var h; ss_app a b c d he hs hl
theorem s_ext (C : Cok X E G k N sc fnb) {f : Gm → R D} (h : varB N sc i x = true) (he : SR X E e f) (hs : isStar e = false := by rfl) (hl : (apos.endLine == cpos.line) = true := by rfl) :
    SS X E (.Expr (.Call (.Attribute (.Name x p) "extend" apos) [e] [] cpos) pos) (sExt i f) := let ⟨a, b, c, d⟩ := C.var h; ss_ext a b c d he hs hl
theorem s_sto (C : Cok X E G k N sc fnb) {f : PySem.Expr} {fe fk : Gm → R D} (h : varB N sc i x = true) (he : SV X E e fe) (hk : SR X E f fk) (hs : isSlice f = false := by rfl) : SS X E (.Assign [.Subscript (.Name x p) f p2] e pos) (sSto i fe fk) :=
  let ⟨a, b, c, d⟩ := C.var h; ss_sto (by have := C.hu; omega) a b c d he hk hs
theorem s_retV (C : Cok X E G k N sc fnb) (h : varB N sc i x = true) : SS X E (.Return (some (.Name x p)) pos) (sRetV i) := let ⟨a, b, c, d⟩ := C.var h; ss_retV a b c d
theorem s_expr {f : Gm → R D} (h : SR X E e f) (hc : isComp e = false := by rfl) : SS X E (.Expr e pos) (sExpr f) := ss_expr h hc
theorem s_while (S : Sok X) {fc : Gm → R Bool} {fb : Gm → R Out} (n : Nat) (hc : ST X E c fc) (hb : SB X E sts fb) : SS X E (.While c sts [] pos) (whR fc fb n) := ss_while n S.po hc hb
theorem s_for (C : Cok X E G k N sc fnb) (S : Sok X) {fi : Gm → R (List D)} {t : Tg} {fb : Gm → R Out} (hi : SItF X E tg iter fi) (hg : SG X tg t) (hb : SB X E sts fb) (hs : isSetE iter = false := by rfl) : SS X E (.For tg iter sts [] pos) (sFor fi t fb) := ss_for S.po C.calm hi hg hb hs
theorem i_rng1 (C : Cok X E G k N sc fnb) {f : Gm → R D} (hg : gloB sc "range" = true) (hm : BltG G "range") (h : SR X E a f) (hs : isStar a = false := by rfl) : SItF X E tg (.Call (.Name "range" p) [a] [] pos) (iOf rngF1 (seqR [f])) := sit_rng1 (C.glo hg).1 (C.no hm) h hs
theorem i_rng2 (C : Cok X E G k N sc fnb) {f g : Gm → R D} (hg : gloB sc "range" = true) (hm : BltG G "range") (h : SR X E a f) (h2 : SR X E b g) (hs : isStar a = false := by rfl) (hs2 : isStar b = false := by rfl) :
    SItF X E tg (.Call (.Name "range" p) [a, b] [] pos) (iOf rngF2 (seqR [f, g])) := sit_rng2 (C.glo hg).1 (C.no hm) h hs h2 hs2
variable {elts : List PySem.Expr} {kk : Nat} {tpos : Pos}
theorem e_cmp (C : Cok X E G k N sc fnb) {op : CmpOp} {fa fb : Gm → R D} (ha : SR X E a fa) (hb : SR X E b fb) (hs : isSetE b = false := by rfl) : SE X E (.Compare a [op] [b] pos) (e2 (dCmp op) fa fb) := se_cmp C.hu ha hb hs
theorem t_cmp (C : Cok X E G k N sc fnb) {op : CmpOp} {fa fb : Gm → R D} (ha : SR X E a fa) (hb : SR X E b fb) (hs : isSetE b = false := by rfl) : ST X E (.Compare a [op] [b] pos) (isB (e2 (dCmp op) fa fb)) := st_cmp C.hu ha hb hs
theorem e_chain (C : Cok X E G k N sc fnb) {op op' : CmpOp} {fa fb fc : Gm → R D} (ha : SR X E a fa) (hb : SR X E b fb) (hc : SR X E c fc) (hs : isSetE c = false := by rfl) : SE X E (.Compare a [op, op'] [b, c] pos) (e3 (dCmp op) (dCmp op') fa fb fc) := se_chain C.hu ha hb hc hs
theorem t_chain (C : Cok X E G k N sc fnb) {op op' : CmpOp} {fa fb fc : Gm → R D} (ha : SR X E a fa) (hb : SR X E b fb) (hc : SR X E c fc) (hs : isSetE c = false := by rfl) : ST X E (.Compare a [op, op'] [b, c] pos) (isB (e3 (dCmp op) (dCmp op') fa fb fc)) := st_chain C.hu ha hb hc hs
theorem t_tru {f : Gm → R D} (h : SR X E e f) (hl : isLogic e = false := by rfl) : ST X E e (tTru f) := st_truth h hl
theorem e_ix (C : Cok X E G k N sc fnb) {fa fb : Gm → R D} (ha : SR X E a fa) (hb : SR X E b fb) (hs : isSlice b = false := by rfl) : SE X E (.Subscript a b pos) (e2 dIx fa fb) := se_ix (by have := C.hu; omega) ha hb hs
theorem a_cons {f : Gm → R D} {fs : List (Gm → R D)} (h : SR X E e f) (t : SRs X E es fs) (hs : isStar e = false := by rfl) : SRs X E (e :: es) (f :: fs) := .cons h hs t
theorem v_cons {f : Gm → R D} {fs : List (Gm → R D)} (h : SV X E e f) (t : SVs X E es fs) (hs : isStar e = false := by rfl) : SVs X E (e :: es) (f :: fs) := .cons h hs t
theorem u_cons {f : Gm → R Sl} {fs : List (Gm → R Sl)} (h : SU X E e f) (t : SUs X E es fs) (hs : isStar e = false := by rfl) : SUs X E (e :: es) (f :: fs) := .cons h hs t
theorem g_cons {t : Tg} {ts : List Tg} (h : SG X e t) (h2 : SGs X es ts) (hs : isStar e = false := by rfl) : SGs X (e :: es) (t :: ts) := sgs_cons h hs h2
theorem f_none : STf T X [] (fun _ => .ok true) := .inl ⟨rfl, rfl⟩
end
def retO : Out → R O
  | .rt o => .ok o
  | .nx _ => .ok (.v .non)
  | _ => .stuck
def defF (m : Nat) (f : Gm → R Out) : List Sl → R O := fun ss => (f (ss ++ List.replicate m .un)).bind retO
section
variable {P : Program} {w : World} {K : PySem.W.Frag} {mg : Str → Option Value} {base : Heap}
theorem start_ok {F : Fz T} {H : Hp} {vs : List V} {ss : List Sl} {N : List Str} {m : Nat} (s : Sub F H) (r : SlVs K F H vs ss) (hm : N.length = vs.length + m) : EnvOk K F H F H (L2.start N vs) (ss ++ List.replicate m .un) := by
  have e : N.length - vs.length = m := by omega
  unfold L2.start
  rw [e]
  have ll := r.length
  refine ⟨Ext.refl _, Same.refl _, s, fun _ _ _ _ => rfl, by simp [ll], fun i sl ei => ?_, fun i j p d1 d2 e1 _ _ _ => ?_⟩
  · by_cases hi : i < ss.length
    · rw [List.getElem?_append_left hi] at ei
      have get : ∀ {vs : List V} {ss : List Sl}, SlVs K F H vs ss → ∀ (i : Nat) (sl : Sl), ss[i]? = some sl → ∃ v, vs[i]? = some v ∧ SlV K F H v sl := by
        intro vs ss r
        induction r with
        | nil => intro i sl h; simp at h
        | cons a t ih =>
          intro i sl h
          cases i with
          | zero => simp at h; subst h; exact ⟨_, rfl, a⟩
          | succ i => simp at h; obtain ⟨v, h1, h2⟩ := ih i sl h; exact ⟨v, by simpa using h1, h2⟩
      obtain ⟨v, hv, rv⟩ := get r i sl ei
      have eg : (List.map some vs ++ List.replicate m none).getD i none = some v := by
        rw [List.getD_eq_getElem?_getD, List.getElem?_append_left (by rw [List.length_map]; omega), List.getElem?_map, hv]
        rfl
      rw [eg]
      cases sl with
      | un => trivial
      | val d => exact ⟨v, rfl, rv⟩
      | bor d => obtain ⟨p, rfl, o⟩ := rv; exact ⟨p, rfl, o⟩
      | own d => exact rv.elim
    · rw [List.getElem?_append_right (by omega), List.getElem?_replicate] at ei
      split at ei
      · cases ei; trivial
      · cases ei
  · have no : ∀ {vs : List V} {ss : List Sl}, SlVs K F H vs ss → ∀ (i : Nat) (d : D), ss[i]? ≠ some (.own d) := by
      intro vs ss r
      induction r with
      | nil => intro i d h; simp at h
      | cons a t ih =>
        intro i d h
        cases i with
        | zero => simp at h; subst h; exact a
        | succ i => simp at h; exact ih i d h
    by_cases hi : i < ss.length
    · rw [List.getElem?_append_left hi] at e1
      exact absurd e1 (no r i d1)
    · rw [List.getElem?_append_right (by omega), List.getElem?_replicate] at e1
      split at e1 <;> cases e1
theorem room100 {k : Nat} {A : Around} (hr : Room k A) : A.units + 100 < cLine := by have := hr.un; omega
theorem def_ok {x qual : Str} {st : Stmt} {f : Addr} {fd : FuncData} {N ps : List Str} {k n m : Nat} {fn : Gm → R Out} (F : L2.Fun K x qual st f fd) (S : FnScope N ps (L2.defScope st)) (hn : ps.length = n) (hm : N.length = n + m)
    (hb : ∀ (X : Cx) (T : List (Addr × Str)) (E : Ex T), Cok X E ⟨P, w, K, mg, base⟩ k N (L2.defScope st) fnAll → Sok X → SB X E (L2.defBody st) fn) : FnOk P w K mg base (L2.CX P w) (k + 1) f fd ps (spOf K mg n (defF m fn)) := by
  refine F.okX S (fun vs H Q E h => by rw [hn]; exact h.1) (fun cdv A outer s H vs Q E hr h => ?_)
  obtain ⟨hl, T, F0, ss, sb, sv, q⟩ := h
  have tk : Takes (cxOf (L2.CX P w) P w K mg base N qual (L2.defScope st) f cdv A outer s H E) (fun cls d _ H => E cls d H) := takes_of rfl rfl rfl rfl
  have C : Cok (cxOf (L2.CX P w) P w K mg base N qual (L2.defScope st) f cdv A outer s H E) (⟨E⟩ : Ex T) ⟨P, w, K, mg, base⟩ k N (L2.defScope st) fnAll :=
    ⟨rfl, rfl, rfl, S.nd, rfl, fun _ _ => rfl, room100 hr, hr, tk⟩
  obtain ⟨t, p, g⟩ := hb _ T ⟨E⟩ C ⟨passes_of rfl⟩
  refine ⟨t, p, g _ F0 H F0 H _ _ (start_ok sb sv (by omega)) (R.post_mono (R.post_bind q) (fun o _ q => ?_) fun n e => e)⟩
  cases o with
  | nx Γ => exact fun σ F' H' I => q .non F' H' I.all .non
  | bk Γ => exact q.elim
  | ct Γ => exact q.elim
  | rt o => exact q
theorem def_g {x : Str} {st : Stmt} {f : Addr} {fd : FuncData} {N ps : List Str} {k n m : Nat} {fn : Gm → R Out} (F : L2.Fun K x x st f fd) (hf : mg x = some (.ref f)) (B : Binds K fd ps []) (S : FnScope N ps (L2.defScope st)) (hn : ps.length = n) (hm : N.length = n + m)
    (hb : ∀ (X : Cx) (T : List (Addr × Str)) (E : Ex T), Cok X E ⟨P, w, K, mg, base⟩ k N (L2.defScope st) fnAll → Sok X → SB X E (L2.defBody st) fn) : DefG ⟨P, w, K, mg, base⟩ (k + 1) x n (defF m fn) :=
  ⟨f, fd, ps, def_ok F S hn hm hb, hf, F.kp, B⟩
def hidT (H : Hp) : Hp := fun b => match H b with
  | some (.tbl _) => none
  | o => o
theorem hidT_some {H : Hp} {b : Addr} {o : HO} (e : hidT H b = some o) : H b = some o ∧ noT o := by
  unfold hidT at e
  split at e
  · cases e
  · rename_i h
    exact ⟨e, fun ps z => h ps (by rw [e, z])⟩
theorem hidT_of {H : Hp} {b : Addr} {o : HO} (e : H b = some o) (n : noT o) : hidT H b = some o := by
  unfold hidT
  split
  · rename_i ps h
    rw [e] at h
    exact absurd (Option.some.inj h) (n ps)
  · exact e
theorem hid_sub {T : List (Addr × Str)} {H : Hp} (h : LamX.Tabs T H) : Sub (⟨hidT H⟩ : Fz T) H := ⟨fun a o e => .inl (hidT_some e).1, fun a ps e => (hidT_some e).2 ps rfl, h⟩
theorem hid_seq {H : Hp} {a : Addr} {xs : List V} (h : SqL K H a xs) : SqL K (hidT H) a xs := by
  rcases h with (h | ⟨o, h⟩) | h
  · exact .inl (.inl (hidT_of h fun _ z => nomatch z))
  · exact .inl (.inr ⟨o, hidT_of h fun _ z => nomatch z⟩)
  · exact .inr h
def spAll (K : PySem.W.Frag) (n : Nat) (φ : List Sl → R O) : Sp := fun vs H Q E => ∀ mg, spOf K mg n φ vs H Q E
end
end Pd

set_option Elab.async false
set_option linter.all false
set_option maxRecDepth 100000
set_option maxHeartbeats 4000000
namespace Pd
open PySem PySem.Spec L2 PyProof.Rows

abbrev fso (w : World) : Obj := { cls := .type "set", dict := none, data := .set #[] 0 (.fresh 0 0 (!w.params.followText "set-order")) }
section
variable {P : Program} {w : World} {A : Around} {E : Value → Shared → Prop} {s : Shared}
def SetMade (w : World) (s : Shared) (ns : List Int) (h' : Heap) (c : Nat) : Prop :=
  SetR w h' s.heap.objs.size (fun j => decide (j ∈ ns)) c ∧ c ≤ ns.length ∧ ∀ b o, s.heap.get? b = some o → h'.get? b = some o
theorem fill_list {l : Addr} {items : Array Value} (ns : List Int) (no : A.handled = none) (il : s.heap.IsList l items) (ia : IntsAre items.toList ns) (small : ns.length + 1 < scanBound)
    {R : Result → Shared → Prop} (k : ∀ (h' : Heap) (tk c : Nat), SetMade w s ns h' c → R (.ok (.ret .none)) { s with heap := h', toks := tk }) :
    codeAny (model P w) A (.builtin "set.update.loop" ⟨[.ref s.heap.objs.size, .ref (s.heap.objs.size + 1)], []⟩) R
      { s with heap := (s.heap.push (fso w)).push { cls := .type "list_iterator", data := .fields #[.ref l, .int 0 0] } } := by
  have len : items.size = ns.length := by
    have := IntsAre.length ia
    rwa [Array.length_toList] at this
  have below : l < s.heap.objs.size := let ⟨_, e, _⟩ := il; Heap.lt_size e
  have apart : l ≠ s.heap.objs.size + 1 := Nat.ne_of_lt (Nat.lt_succ_of_lt below)
  have sz : (s.heap.push (fso w)).objs.size = s.heap.objs.size + 1 := Heap.size_push ..
  have off : s.heap.objs.size ∉ [s.heap.objs.size + 1, l] := by
    simp only [List.mem_cons, List.not_mem_nil, or_false, not_or]
    exact ⟨Nat.ne_of_lt (Nat.lt_succ_self _), Nat.ne_of_gt below⟩
  have each : ∀ (i : Nat) (v : Value), items[i]? = some v → ∃ k t, ns[i]? = some k ∧ v = .int k t := fun i v e => by
    have lt : i < ns.length := by
      rw [← len]
      exact (Array.getElem?_eq_some_iff.mp e).1
    obtain ⟨t, q⟩ := IntsAre.int_at ia i v (by rw [Array.getElem?_toList]; exact e)
    exact ⟨ns[i], t, List.getElem?_eq_getElem lt, by
      rw [q, List.getD_eq_getElem?_getD, List.getElem?_eq_getElem lt]
      rfl⟩
  have atS : ((s.heap.push (fso w)).push { cls := .type "list_iterator", data := .fields #[.ref l, .int 0 0] }).get? s.heap.objs.size = some (fso w) :=
    Heap.get?_push_of_some _ (Heap.get?_push_size _ rfl)
  have atI : ((s.heap.push (fso w)).push { cls := .type "list_iterator", data := .fields #[.ref l, .int 0 0] }).get? (s.heap.objs.size + 1) = some { cls := .type "list_iterator", data := .fields #[.ref l, .int 0 0] } := by
    rw [← sz]
    exact Heap.get?_push_size _ rfl
  have hin : A.in1.handled = none := by simpa using no
  refine set_update_ints (Walks.list hin _ l apart items).toS s.heap.objs.size off ns len small each (items.size - 0) 0 _ rfl (Nat.zero_le _) ?_ ⟨0, Nat.le_refl 0, setR_new_at atS⟩ fun s' c mv cl R' => ?_
  · exact ⟨⟨_, atI, rfl, rfl⟩, (il.push _).push _⟩
  · obtain ⟨hp, gs, dr, tk, os⟩ := s'
    have e1 : gs = s.gens := mv.gens
    have e2 : dr = s.drawn := mv.drawn
    have e3 : os = s.os := mv.os
    subst e1 e2 e3
    refine k hp tk c ⟨R', by omega, fun b o e => mv.heap b o ?_ (Heap.get?_push_of_some _ (Heap.get?_push_of_some _ e))⟩
    have q := Heap.lt_size e
    simp only [List.mem_cons, List.not_mem_nil, or_false, not_or]
    exact ⟨Nat.ne_of_lt q, Nat.ne_of_lt (Nat.lt_succ_of_lt q)⟩
theorem set_of_list {l : Addr} {items : Array Value} (ns : List Int) {Q : Value → Shared → Prop} (no : A.handled = none) (il : s.heap.IsList l items) (ia : IntsAre items.toList ns) (small : ns.length + 1 < scanBound)
    (k : ∀ (h' : Heap) (tk c : Nat), SetMade w s ns h' c → Q (.ref s.heap.objs.size) { s with heap := h', toks := tk }) : wpAny (model P w) A (call (.type "set") [.ref l]) Q E s := by
  obtain ⟨c0, tl, mro⟩ := F.called_set.mro
  have made := F.called_set.made
  have sub := F.called_set.sub
  refine wpAny_call (codeAny_of_tree ?_)
  show wpAny _ _ (callAny (.type "set") _) _ _ _
  refine wpAny_pure ⟨Code.quiet_builtin _ (by decide +kernel),
    codeAny_builtin F.entry_type_call ?_⟩
  rw [Around.under_plain
    (weight_type_call_type "set" [.ref l] []) rfl]
  have f1 := F.called_set.notType
  have f2 := F.called_set.canCreate
  have f3 := F.typeCall_set_1 (.ref l)
  repeat (any_goals (first | assumption | wp_step))
  refine codeAny_mono (code_set_led1 (.ref l) (E := E) (Q₁ := fun z t => z = .ref s.heap.objs.size ∧ t = { s with heap := s.heap.push (fso w) }) ⟨rfl, rfl⟩) fun r t hr => ?_
  cases r with
  | error e => exact hr
  | ok fl =>
    cases fl with
    | ret z =>
      obtain ⟨rfl, rfl⟩ := hr
      have here : (s.heap.push (fso w)).get? s.heap.objs.size = some (fso w) := Heap.get?_push_size _ rfl
      have ty : Shared.TypeIs { s with heap := s.heap.push (fso w) } (.ref s.heap.objs.size) "set" := ⟨_, here, rfl⟩
      have g1 := F.called_set.init.lookup
      have g2 := F.called_set.init.bind (.ref s.heap.objs.size)
      repeat (any_goals (first | assumption | wp_step))
      refine codeAny_mono (codeAny_call_builtin
        (R := wants (fun r t => r = .none ∧ ∃ h' tk c, t = { s with heap := h', toks := tk } ∧ SetMade w s ns h' c) E)
        F.called_set.init.plain F.entry_set_init (check_set_init_1 ty ?_)) fun r t hr => ?_
      · obtain ⟨⟨ocls, odict, odata, oslots⟩, ol, oc, nl, od⟩ := il
        simp only at oc od
        subst oc od
        have ol1 : (s.heap.push (fso w)).get? l = some { cls := .type "list", dict := odict, data := .seq items nl, slots := oslots } := Heap.get?_push_of_some _ ol
        have k1 := F.sub_list_set
        have k2 := F.sub_list_frozenset
        have k3 : (Value.type "list" == Value.type "dict") = false := by decide
        have il1 : (s.heap.push (fso w)).IsList l items := ⟨_, ol1, rfl, nl, rfl⟩
        unfold Builtin.«set.__init__» noKeywords Builtin.Frozenset.updateFrom
        generalize hit : pyIter = it
        wp_walk
        subst hit
        refine wpAny_pyIter_list il1 ?_
        refine wpAny_bind (wpAny_runValue ?_)
        have sz : (s.heap.push (fso w)).objs.size = s.heap.objs.size + 1 := Heap.size_push ..
        rw [sz]
        have no3 : A.in1.in1.handled = none := by simp [no]
        refine fill_list (A := A.in1.in1) ns no3 ⟨_, ol, rfl, nl, rfl⟩ ia small fun h' tk c R => ?_
        show wpAny _ _ _ _ _ _
        refine wpAny_pure ?_
        show wpAny _ _ (ret Value.none) _ _ _
        exact wpAny_pure ⟨rfl, h', tk, c, rfl, R⟩
      · cases r with
        | error e => exact hr
        | ok fl =>
          cases fl with
          | ret z =>
            obtain ⟨rfl, h', tk, c, rfl, R⟩ := hr
            repeat (any_goals (first | assumption | wp_step))
            exact k _ _ _ R
          | _ => exact hr.elim
    | _ => exact hr.elim
end
end Pd

set_option Elab.async false
set_option linter.all false
set_option maxRecDepth 100000
set_option maxHeartbeats 1000000
namespace Pd
open PySem PySem.Spec L2

def insU (x : Int) : List Int → List Int
  | [] => [x]
  | y :: r => if x < y then x :: y :: r else if x = y then y :: r else y :: insU x r
def setL : List Int → List Int
  | [] => []
  | x :: r => insU x (setL r)
theorem mem_insU {x z : Int} : ∀ {l : List Int}, z ∈ insU x l ↔ z = x ∨ z ∈ l
  | [] => by simp [insU]
  | y :: r => by
    unfold insU
    split
    · simp
    · split
      · rename_i h; subst h; simp
      · rw [List.mem_cons, List.mem_cons, mem_insU (l := r)]
        constructor
        · rintro (h | h | h)
          · exact .inr (.inl h)
          · exact .inl h
          · exact .inr (.inr h)
        · rintro (h | h | h)
          · exact .inr (.inl h)
          · exact .inl h
          · exact .inr (.inr h)
theorem mem_setL {z : Int} : ∀ {l : List Int}, z ∈ setL l ↔ z ∈ l
  | [] => by simp [setL]
  | x :: r => by rw [setL, mem_insU, mem_setL (l := r), List.mem_cons]
theorem insU_ris (x : Int) : ∀ {l : List Int}, l.Pairwise (· < ·) → (insU x l).Pairwise (· < ·)
  | [], _ => List.pairwise_singleton _ _
  | y :: r, h => by
    have h' := List.pairwise_cons.mp h
    unfold insU
    split
    · rename_i hxy
      refine List.pairwise_cons.mpr ⟨fun z hz => ?_, h⟩
      rcases List.mem_cons.mp hz with rfl | hz
      · exact hxy
      · exact Int.lt_trans hxy (h'.1 z hz)
    · split
      · exact h
      · rename_i h1 h2
        refine List.pairwise_cons.mpr ⟨fun z hz => ?_, insU_ris x h'.2⟩
        rcases mem_insU.mp hz with rfl | hz
        · omega
        · exact h'.1 z hz
theorem setL_ris : ∀ l : List Int, (setL l).Pairwise (· < ·)
  | [] => .nil
  | x :: r => insU_ris x (setL_ris r)
theorem ris_unique : ∀ {a b : List Int}, a.Pairwise (· < ·) → b.Pairwise (· < ·) → (∀ z, z ∈ a ↔ z ∈ b) → a = b
  | [], [], _, _, _ => rfl
  | [], y :: b, _, _, h => absurd ((h y).mpr List.mem_cons_self) (by simp)
  | x :: a, [], _, _, h => absurd ((h x).mp List.mem_cons_self) (by simp)
  | x :: a, y :: b, ha, hb, h => by
    have ha' := List.pairwise_cons.mp ha
    have hb' := List.pairwise_cons.mp hb
    have e : x = y := by
      rcases List.mem_cons.mp ((h x).mp List.mem_cons_self) with e | m
      · exact e
      · rcases List.mem_cons.mp ((h y).mpr List.mem_cons_self) with e | m2
        · exact e.symm
        · have := hb'.1 x m
          have := ha'.1 y m2
          omega
    subst e
    rw [ris_unique ha'.2 hb'.2 fun z => ?_]
    constructor
    · intro m
      rcases List.mem_cons.mp ((h z).mp (List.mem_cons_of_mem _ m)) with e | m2
      · have := ha'.1 z m
        omega
      · exact m2
    · intro m
      rcases List.mem_cons.mp ((h z).mpr (List.mem_cons_of_mem _ m)) with e | m2
      · have := hb'.1 z m
        omega
      · exact m2
theorem setL_len : ∀ l : List Int, (setL l).length ≤ l.length
  | [] => Nat.le_refl _
  | x :: r => by
    have ih := setL_len r
    have h : ∀ l : List Int, (insU x l).length ≤ l.length + 1 := by
      intro l
      induction l with
      | nil => exact Nat.le_refl _
      | cons y r ih =>
        unfold insU
        split
        · exact Nat.le_refl _
        · split
          · exact Nat.le_succ _
          · rw [List.length_cons, List.length_cons]; omega
    rw [setL, List.length_cons]
    have := h (setL r)
    omega
def tSetI (K : PySem.W.Frag) (ta : TE) (r : List Int → Hp → VK → Prop) : TE := fun σ H Q => ta σ H fun x H1 => ∃ (l : Addr) (ns : List Int), x = .ref l ∧ (SqL K H1 l (ns.map V.int) ∨ SqT K H1 l (ns.map V.int)) ∧ ns.length < 64 ∧ r (setL ns) H1 Q
def rNewL (ns : List Int) : Hp → VK → Prop := fun H Q => ∀ p, H p = none → Q (.ref p) (upd H p (.lst (ns.map V.int)))
def rNum (ns : List Int) : Hp → VK → Prop := fun H Q => Q (.int (ns.length : Nat)) H
section
variable {X : Cx} {E : Ex T} {e a b c tg : PySem.Expr} {es : List PySem.Expr} {pos p p2 p3 q0 : Pos}
theorem vals_is : ∀ {ns : List Int} {us : List Value}, Vals (ns.map V.int) us → PyProof.Rows.IntsAre us ns
  | [], _, .nil => .nil
  | n :: ns, _, .cons r t => by
    obtain ⟨k, rfl⟩ := r
    exact .cons n k (vals_is t)
theorem set_run {ta : TE} {Q : Value → Shared → Prop} {σ : L2.St} {H : Hp} {s : Shared} {pins : List (Addr × Obj)} {r : List Int → Hp → VK → Prop} {QK : VK} (hc : X.calm = true) (hg : Gl X "set") (hm : X.mg "set" = none) (ha : PE X a ta) (hs : isStar a = false) (I : Inv X pins σ H s) (h : tSetI X.K ta r σ H QK)
    (k : ∀ (l : Addr) (ns : List Int) (H1 : Hp) (n : Nat) (s1 : Shared), Inv X pins σ H1 s1 → L2.SetR X.w s1.heap l (fun j => decide (j ∈ ns)) n → n < 64 → r (setL ns) H1 QK → Q (.ref l) s1) :
    wpAny (model X.prog X.w) X.A (eval (.Call (.Name "set" p2) [a] [] q0) X.env) Q X.xe s := by
  have na := star_cons (es := []) (env := X.env) hs
  refine PyProof.Rows.Call_ (ld_blt I hg hm PyProof.Rows.boot_set ?_)
  refine PyProof.Rows.callWith_type1 (PyProof.Rows.args_cons (thn (ha.run pins s σ H _ I h) fun v s1 hv => PyProof.Rows.args_nil ?_) na) na rfl
  obtain ⟨x, H1, I1, r1, l, ns, rfl, hq, hl, q⟩ := hv
  cases r1
  have sc : ns.length + 1 < scanBound := by unfold scanBound; omega
  rcases hq with hq | hq
  · obtain ⟨its, rv, pl, hz⟩ := I1.list hq
    refine set_of_list ns (I1.ok.hd hc) pl.isList (by simpa using vals_is rv) sc fun h' tk c R => ?_
    have hn : c < 64 := Nat.lt_of_le_of_lt R.2.1 hl
    exact k _ ns H1 c _ (I1.kept R.2.2) R.1 hn q
  · obtain ⟨its, rv, pl, hz⟩ := I1.tuple hq
    refine L2.call_set_tupI ns (I1.ok.hd hc) (show s1.heap.IsTuple l its.toArray from pl) (by simpa using vals_is rv) sc fun h' tk c R hcn kp => ?_
    have hn : c < 64 := Nat.lt_of_le_of_lt hcn hl
    exact k _ ns H1 c _ (I1.kept kp) R hn q
theorem setR_mem {w : World} {h : Heap} {l : Addr} {ns xs : List Int} {n : Nat} (h1 : xs.Pairwise (· < ·)) (h2 : ∀ k, k ∈ xs ↔ decide (k ∈ ns) = true) : xs = setL ns :=
  ris_unique h1 (setL_ris ns) fun z => by rw [h2, mem_setL]; simp
theorem pe_sortSet {ta : TE} (hc : X.calm = true) (hg : Gl X "sorted") (hm : X.mg "sorted" = none) (hg2 : Gl X "set") (hm2 : X.mg "set" = none) (ha : PE X a ta) (hs : isStar a = false) :
    PE X (.Call (.Name "sorted" p) [.Call (.Name "set" p2) [a] [] q0] [] pos) (tSetI X.K ta fun ns => rNewL ns) := by
  refine ⟨fun pins s σ H Q I h => PyProof.Rows.Call_ (ld_blt (u := .builtin "sorted") I hg hm (by decide +kernel) (PyProof.Rows.callWith_builtin1 (PyProof.Rows.args_cons ?_ rfl) rfl rfl))⟩
  refine set_run hc hg2 hm2 ha hs I h fun l ns H1 n s1 I1 R h64 q => PyProof.Rows.args_nil ?_
  refine L2.sorted_set R (I1.ok.hd hc) h64 fun s' t out c ms kp eg eo hp hat hi hris hmem hlen => ?_
  have e := setR_mem (w := X.w) (h := s1.heap) (l := l) (n := n) hris hmem
  subst e
  have nH : H1 t = none := I1.hok.fresh hp
  have hz : ((setL ns).map V.int).length ≤ sizeLine := by rw [List.length_map, hlen, line_eq]; unfold line; omega
  obtain ⟨hp', gs, dr, tk, os⟩ := s'
  have eo : os = s1.os := eo
  have eg : gs = s1.gens := eg
  subst eo eg
  have new : ObjOk X.prog X.w (upd H1 t (.lst ((setL ns).map V.int))) hp' t (.lst ((setL ns).map V.int)) := ⟨hz, out.toList, c, vals_of_ints hi, hat⟩
  exact ⟨.ref t, _, I1.call (ch := []) (Un.laid kp hp nH) (I1.hok.laid kp hp new) I1.bare (fun _ z => nomatch z), rfl, q t nH⟩
def setF : D → R (List Int)
  | .lst ds => (R.of (intsOf ds)).bind fun ns => if ns.length < 64 then .ok (setL ns) else .stuck
  | .tup ds => (R.of (intsOf ds)).bind fun ns => if ns.length < 64 then .ok (setL ns) else .stuck
  | _ => .stuck
def eSortSet (f : Gm → R D) : Gm → R O := fun Γ => (f Γ).bind fun d => (setF d).bind fun ns => .ok (.o (.lst (ns.map D.int)))
def eLenSet (f : Gm → R D) : Gm → R O := fun Γ => (f Γ).bind fun d => (setF d).bind fun ns => .ok (.v (.int (ns.length : Nat)))
theorem setF_ok {K : PySem.W.Frag} {F : Fz T} {H : Hp} {v : V} {d : D} {P : List Int → Prop} {E : Str → Prop} (s : Sub F H) (cv : Cont K F H v d) (h : (setF d).post P E) : ∃ (l : Addr) (ns : List Int), v = .ref l ∧ (SqL K H l (ns.map V.int) ∨ SqT K H l (ns.map V.int)) ∧ ns.length < 64 ∧ P (setL ns) := by
  cases d with
  | lst ds =>
    obtain ⟨ns, e, h'⟩ := of_post (R.post_bind (show ((R.of (intsOf ds)).bind _).post P E from h))
    split at h'
    · rename_i hl
      obtain rfl := intsOf_some e
      obtain ⟨a, ys, rfl, hH, r, _⟩ := cv.lst s
      obtain rfl := r.ints_of
      exact ⟨a, ns, rfl, .inl (.of hH), hl, h'⟩
    · exact h'.elim
  | tup ds =>
    obtain ⟨ns, e, h'⟩ := of_post (R.post_bind (show ((R.of (intsOf ds)).bind _).post P E from h))
    split at h'
    · rename_i hl
      obtain rfl := intsOf_some e
      obtain ⟨a, ys, rfl, hH, r, _⟩ := cv.tup s
      obtain rfl := r.ints_of
      exact ⟨a, ns, rfl, .inr (.of hH), hl, h'⟩
    · exact h'.elim
  | _ => exact h.elim
theorem se_sortSet {f : Gm → R D} (hc : X.calm = true) (hg : Gl X "sorted") (hm : X.mg "sorted" = none) (hg2 : Gl X "set") (hm2 : X.mg "set" = none) (h : SR X E a f) (hs : isStar a = false) :
    SE X E (.Call (.Name "sorted" p) [.Call (.Name "set" p2) [a] [] q0] [] pos) (eSortSet f) := by
  obtain ⟨t, pa, g⟩ := h
  refine ⟨_, pe_sortSet hc hg hm hg2 hm2 pa hs, fun Γ F0 H0 F H σ Q I q => g Γ F0 H0 F H σ _ I (R.post_imp (R.post_bind q) fun d q v F' H' gr cv => ?_)⟩
  obtain ⟨l, ns, rfl, hq, hl, q⟩ := setF_ok gr.sub cv (R.post_bind q)
  refine ⟨l, ns, rfl, hq, hl, fun z hz => ?_⟩
  have hz2 : ((setL ns).map D.int).length ≤ sizeLine := by
    have := setL_len ns
    rw [List.length_map, line_eq]
    unfold line
    omega
  obtain ⟨g', r'⟩ := new_lst gr.sub hz (Reps.ints (setL ns)) hz2
  exact q _ _ _ (gr.trans g') (r'.back gr.hh)
end
end Pd

set_option Elab.async false
set_option linter.all false
set_option maxRecDepth 100000
set_option maxHeartbeats 1000000
namespace Pd
open PySem PySem.Spec L2

def pairD (p : Int × Int) : D := .tup [.int p.1, .int p.2]
def pairsOf : List D → Option (List (Int × Int))
  | [] => some []
  | .tup [.int a, .int b] :: r => (pairsOf r).map fun l => (a, b) :: l
  | _ => none
theorem pairsOf_some : ∀ {ds : List D} {ps : List (Int × Int)}, pairsOf ds = some ps → ds = ps.map pairD
  | [], ps, h => by cases h; rfl
  | d :: r, ps, h => by
    unfold pairsOf at h
    split at h
    · rename_i e; cases e
    · rename_i a b r' e
      cases e
      obtain ⟨l, hl, rfl⟩ := Option.map_eq_some_iff.mp h
      rw [pairsOf_some hl]; rfl
    · cases h
@[simp] theorem pairsOf_map (ps : List (Int × Int)) : pairsOf (ps.map pairD) = some ps := by
  induction ps with
  | nil => rfl
  | cons p r ih =>
    show (pairsOf (r.map pairD)).map _ = _
    rw [ih]; rfl
def insP (x : Int × Int) : List (Int × Int) → List (Int × Int)
  | [] => [x]
  | y :: r => if SrtO.lexB y x = false then x :: y :: r else y :: insP x r
def sortP : List (Int × Int) → List (Int × Int)
  | [] => []
  | x :: r => insP x (sortP r)
theorem lexB_not {a b : Int × Int} : SrtO.lexB a b = false ↔ b.1 < a.1 ∨ (b.1 = a.1 ∧ b.2 ≤ a.2) := by
  rw [SrtO.lexB_no]
  omega
theorem insP_perm (x : Int × Int) : ∀ l, (insP x l).Perm (x :: l)
  | [] => .refl _
  | y :: r => by
    unfold insP
    split
    · exact .refl _
    · exact ((insP_perm x r).cons y).trans (.swap x y r)
theorem sortP_perm : ∀ l, (sortP l).Perm l
  | [] => .refl _
  | x :: r => (insP_perm x _).trans ((sortP_perm r).cons x)
abbrev RisP (l : List (Int × Int)) : Prop := l.Pairwise fun x y => SrtO.lexB y x = false
theorem insP_ris (x : Int × Int) : ∀ {l}, RisP l → RisP (insP x l)
  | [], _ => List.pairwise_singleton _ _
  | y :: r, h => by
    have h' := List.pairwise_cons.mp h
    unfold insP
    split
    · rename_i hxy
      refine List.pairwise_cons.mpr ⟨fun z hz => ?_, h⟩
      rcases List.mem_cons.mp hz with rfl | hz
      · exact hxy
      · have a := lexB_not.mp hxy
        have b := lexB_not.mp (h'.1 z hz)
        refine lexB_not.mpr ?_
        omega
    · rename_i hxy
      refine List.pairwise_cons.mpr ⟨fun z hz => ?_, insP_ris x h'.2⟩
      rcases List.mem_cons.mp ((insP_perm x r).mem_iff.mp hz) with rfl | hz
      · have a := mt lexB_not.mpr hxy
        refine lexB_not.mpr ?_
        omega
      · exact h'.1 z hz
theorem sortP_ris : ∀ l, RisP (sortP l)
  | [] => .nil
  | x :: r => insP_ris x (sortP_ris r)
theorem risP_unique : ∀ {a b : List (Int × Int)}, a.Perm b → RisP a → RisP b → a = b
  | [], b, p, _, _ => by
    have := p.length_eq
    cases b with
    | nil => rfl
    | cons => simp at this
  | x :: a, [], p, _, _ => by have := p.length_eq; simp at this
  | x :: a, y :: b, p, ha, hb => by
    have ha' := List.pairwise_cons.mp ha
    have hb' := List.pairwise_cons.mp hb
    have e : x = y := by
      have h1 : x ∈ y :: b := p.mem_iff.mp List.mem_cons_self
      have h2 : y ∈ x :: a := p.mem_iff.mpr List.mem_cons_self
      rcases List.mem_cons.mp h1 with h | h
      · exact h
      · rcases List.mem_cons.mp h2 with h2 | h2
        · exact h2.symm
        · have u := lexB_not.mp (ha'.1 y h2)
          have v := lexB_not.mp (hb'.1 x h)
          exact Prod.ext (by omega) (by omega)
    subst e
    rw [risP_unique (List.Perm.cons_inv p) ha'.2 hb'.2]
def ikeys : List (D × D) → Option (List Int)
  | [] => some []
  | (.int k, _) :: r => (ikeys r).map fun l => k :: l
  | _ => none
def fSorted : List D → Option O
  | [.lst ds] => match intsOf ds with
    | some ns => some (.o (.lst ((sortL ns).map D.int)))
    | none => (pairsOf ds).map fun ps => .o (.lst ((sortP ps).map pairD))
  | [.dct kvs] => (ikeys kvs).bind fun ks => if 0 < ks.length ∧ ks.length < 64 then some (.o (.lst ((sortL ks).map D.int))) else none
  | _ => none
def rSortedDI : List V → Hp → VK → Prop := fun xs H Q => ∃ (a : Addr) (kvs : List (Key × V)) (ks : List Int), xs = [.ref a] ∧ Rd H a (.dK kvs) ∧ kvs.map (·.1) = ks.map Sum.inl ∧ ks.length < 64 ∧
    ∀ (ys : List Int) (p : Addr), ys.Perm ks → ys.Pairwise (· ≤ ·) → H p = none → Q (.ref p) (upd H p (.lst (ys.map V.int)))
def rSorted (K : PySem.W.Frag) : List V → Hp → VK → Prop := fun xs H Q => rSortedI K xs H Q ∨ rSortedPO K xs H Q ∨ rSortedDI xs H Q
theorem cr_sorted {X : Cx} (hc : X.calm = true) : CallR X (.builtin "sorted") (rSorted X.K) := cr_sortedI.or (cr_sortedPO.or (call_sortedDI hc))
section
variable {K : PySem.W.Frag} {F F' : Fz T} {H H' : Hp} {v : V}
theorem ikeys_rep : ∀ {kvs : List (Key × V)} {ds : List (D × D)} {ks : List Int}, RepK K F kvs ds → ikeys ds = some ks → kvs.map (·.1) = ks.map Sum.inl
  | _, _, ks, .nil, h => by cases h; rfl
  | _, _, ks, .cons (k := k) r t, h => by
    cases k with
    | inl i =>
      obtain ⟨l, hl, rfl⟩ := Option.map_eq_some_iff.mp (show (ikeys _).map _ = some ks from h)
      rw [List.map_cons, ikeys_rep t hl]; rfl
    | inr x => exact absurd h (by simp [ikeys, keyD])
def prV (H : Hp) : V → Int × Int
  | .ref t => match H t with
    | some (.tup [.int a, .int b]) => (a, b)
    | _ => (0, 0)
  | _ => (0, 0)
theorem pair_at {x : V} {p : Int × Int} (s : Sub F H) (r : Rep K F x (pairD p)) : (∃ t, x = .ref t ∧ H t = some (.tup [.int p.1, .int p.2])) ∧ prV H x = p := by
  cases r with
  | tup hF rs _ =>
    obtain ⟨y, z, rfl, r1, r2⟩ := rs.two
    cases r1
    cases r2
    have hH := s.tup hF
    exact ⟨⟨_, rfl, hH⟩, by simp [prV, hH]⟩
theorem pairs_at (s : Sub F H) : ∀ {xs : List V} {ps : List (Int × Int)}, Reps K F xs (ps.map pairD) → (∀ x ∈ xs, Rep K F x (pairD (prV H x))) ∧ xs.map (prV H) = ps
  | _, [], .nil => ⟨fun x h => absurd h (by simp), rfl⟩
  | _, p :: ps, .cons r t => by
    have q := pair_at s r
    have ih := pairs_at s (ps := ps) t
    refine ⟨fun x h => ?_, by rw [List.map_cons, q.2, ih.2]⟩
    rcases List.mem_cons.mp h with rfl | h
    · rw [q.2]; exact r
    · exact ih.1 x h
theorem reps_each {k : V → Int × Int} : ∀ {ys : List V}, (∀ y ∈ ys, Rep K F y (pairD (k y))) → Reps K F ys ((ys.map k).map pairD)
  | [], _ => .nil
  | y :: ys, h => .cons (h y List.mem_cons_self) (reps_each fun z hz => h z (List.mem_cons_of_mem _ hz))
theorem cd_sorted : CallD K (rSorted K) fSorted := fun xs ds o F H Q s cs eo q => by
  unfold fSorted at eo
  split at eo
  · rename_i ds
    obtain ⟨x, rfl, c⟩ := cs.one
    obtain ⟨a, ys, rfl, hH, r, l⟩ := c.lst s
    split at eo
    · rename_i ns e
      cases eo
      obtain rfl := intsOf_some e
      obtain rfl := r.ints_of
      refine .inl ⟨a, ns, rfl, .of hH, fun ms p pm so hp => ?_⟩
      rw [sortL_eq pm so]
      obtain ⟨g, r'⟩ := new_lst s hp (Reps.ints (sortL ns)) (by rw [List.length_map] at l ⊢; rw [(sortL_perm ns).length_eq]; exact l)
      exact q _ _ _ g r'
    · obtain ⟨ps, e, rfl⟩ := Option.map_eq_some_iff.mp eo
      obtain rfl := pairsOf_some e
      obtain ⟨each, em⟩ := pairs_at s r
      refine .inr (.inl ⟨a, ys, prV H, rfl, .of hH, fun x hx => (pair_at s (each x hx)).1, fun zs p so st hp => ?_⟩)
      have e1 : zs.map (prV H) = sortP ps := by
        refine risP_unique (((st.perm.map (prV H)).trans (by rw [em])).trans (sortP_perm ps).symm) (List.pairwise_map.mpr so) (sortP_ris ps)
      have rz := reps_each (k := prV H) fun y hy => each y (st.perm.mem_iff.mp hy)
      rw [e1] at rz
      obtain ⟨g, r'⟩ := new_lst s hp rz (by rw [List.length_map] at l ⊢; rw [(sortP_perm ps).length_eq]; exact l)
      exact q _ _ _ g r'
  · rename_i kvs
    obtain ⟨x, rfl, c⟩ := cs.one
    cases e : ikeys kvs with
    | none => rw [e] at eo; cases eo
    | some ks =>
      rw [e, Option.bind_some] at eo
      split at eo
      · rename_i hl
        cases eo
        obtain ⟨_, a, rfl, hd⟩ := c.dct s
        rcases hd with ⟨w, hw, r⟩ | ⟨w, hw, r⟩
        · refine .inr (.inr ⟨a, w, ks, rfl, hw, ikeys_rep r e, hl.2, fun ms p pm so hp => ?_⟩)
          rw [sortL_eq pm so]
          obtain ⟨g, r'⟩ := new_lst s hp (Reps.ints (sortL ks)) (by rw [List.length_map, (sortL_perm ks).length_eq, line_eq]; unfold line; omega)
          exact q _ _ _ g r'
        · cases r with
          | nil => cases e; exact absurd hl.1 (by simp)
          | cons r t => exact absurd e (by simp [ikeys, keyT])
      · cases eo
  · cases eo
end
section
variable {X : Cx} {E : Ex T} {e a b c d tg : PySem.Expr} {es : List PySem.Expr} {pos p p2 p3 q0 : Pos}
theorem sorted_ok (hc : X.calm = true) : BuiltinOk X "sorted" fSorted := .inl ⟨_, _, by decide +kernel, cr_sorted hc, cd_sorted⟩
def eRevL (f : Gm → R D) : Gm → R O := fun Γ => (f Γ).bind fun d => match d with
  | .lst ds => .ok (.o (.lst ds.reverse))
  | _ => .stuck
theorem Reps.reverse {K : PySem.W.Frag} {F : Hp} : ∀ {vs : List V} {ds : List D}, Reps K F vs ds → Reps K F vs.reverse ds.reverse
  | _, _, .nil => .nil
  | _, _, .cons r t => by
    rw [List.reverse_cons, List.reverse_cons]
    exact (Reps.reverse t).append (.cons r .nil)
def e4 (o1 o2 o3 : D → D → Option O) (fa fb fc fd : Gm → R D) : Gm → R O := fun Γ => (fa Γ).bind fun a => (fb Γ).bind fun b => match o1 a b with
  | some (.v (.bl true)) => (fc Γ).bind fun c => match o2 b c with
    | some (.v (.bl true)) => (fd Γ).bind fun d => R.of (o3 c d)
    | some (.v (.bl false)) => .ok (.v (.bl false))
    | _ => .stuck
  | some (.v (.bl false)) => .ok (.v (.bl false))
  | _ => .stuck
def rgArgs : List D → Option (Int × Int × Int)
  | [.int j] => some (0, j, 1)
  | [.int i, .int j] => some (i, j, 1)
  | [.int i, .int j, .int c] => some (i, j, c)
  | _ => none
def rgAll (ds : List D) : Option (List D) := (rgArgs ds).bind fun (i, j, c) => (rgC i j c).map fun n => stpD i c n
def eTupRg (f : Gm → R (List D)) : Gm → R O := fun Γ => (f Γ).bind fun ds => R.of ((rgAll ds).map fun xs => .v (.tup xs))
def eLstRg (f : Gm → R (List D)) : Gm → R O := fun Γ => (f Γ).bind fun ds => R.of ((rgAll ds).map fun xs => .o (.lst xs))
def stpV (lo c : Int) : Nat → List V
  | 0 => []
  | n + 1 => .int lo :: stpV (lo + c) c n
def tRgN (ta : TA) (mk : List V → HO) : TE := fun σ H Q => ta σ H fun vs H1 => ∃ i j c n, (vs = [.int j] ∧ i = 0 ∧ c = 1 ∨ vs = [.int i, .int j] ∧ c = 1 ∨ vs = [.int i, .int j, .int c]) ∧ RgC i j c n ∧ n ≤ line ∧ ∀ p, H1 p = none → Q (.ref p) (upd H1 p (mk (stpV i c n)))
end
end Pd

set_option Elab.async false
set_option linter.all false
set_option maxRecDepth 100000
set_option maxHeartbeats 1000000
namespace Pd
open PySem PySem.Spec L2
def whN : Nat := 1000000000
section
variable {X : Cx} {E : Ex T} {G : Gl5} {k : Nat} {N : List Str} {sc : Scope} {fnb : Str → Bool}
variable {e a b c d tg iter elt : PySem.Expr} {es : List PySem.Expr} {pos p p2 p3 q0 apos cpos : Pos} {i j : Nat} {x y : Str} {st : Stmt} {sts rest : List Stmt}
theorem k_int {i : Int} {j : Nat} : SE X E (.Constant (.int i) j pos) (eC (.int i)) := se_const
theorem k_bl {i : Bool} {j : Nat} : SE X E (.Constant (.bool i) j pos) (eC (.bl i)) := se_const
theorem c_sorted (C : Cok X E G k N sc fnb) {fs : List (Gm → R D)} (h : gloB sc "sorted" = true) (hb : BltG G "sorted") (ha : SRs X E (e :: es) fs) : SE X E (.Call (.Name "sorted" p) (e :: es) [] pos) (eCall fSorted (seqR fs)) :=
  se_call (sorted_ok C.calm) (by decide) (by decide) (C.glo h).1 (C.no hb) ha
theorem c_sortSet (C : Cok X E G k N sc fnb) {f : Gm → R D} (h : gloB sc "sorted" = true) (hb : BltG G "sorted") (h2 : gloB sc "set" = true) (hb2 : BltG G "set") (ha : SR X E a f) (hs : isStar a = false := by rfl) :
    SE X E (.Call (.Name "sorted" p) [.Call (.Name "set" p2) [a] [] q0] [] pos) (eSortSet f) := se_sortSet C.calm (C.glo h).1 (C.no hb) (C.glo h2).1 (C.no hb2) ha hs
end
end Pd

set_option Elab.async false
set_option linter.all false
set_option maxRecDepth 100000
set_option maxHeartbeats 1000000
namespace Pd
open PySem PySem.Spec L2

def rCountD (K : PySem.W.Frag) : V → List V → Hp → VK → Prop := fun x xs H Q => ∃ (a : Addr) (y : V) (d : PyData) (ds : List PyData), x = V.ref a ∧ xs = [y] ∧ Dp K H (V.ref a) (.list ds) ∧ Dp K H y d ∧
  SeqAt.shaped (.list ds) = true ∧ SeqAt.shaped d = true ∧ Q (.int (ds.countP (fun z => PyData.eqv z d) : Nat)) H
def MtD (K : PySem.W.Frag) (r : V → List V → Hp → VK → Prop) (φ : List D → D → Option O) : Prop :=
  ∀ {T : List (Addr × Str)} (x y : V) (ds : List D) (d : D) (o : O) (F : Fz T) (H : Hp) (Q : VK), Sub F H → Cont K F H x (.lst ds) → Cont K F H y d → φ ds d = some o → (∀ v F' H', Grow F H F' H' → ORep K H F' H' v o → Q v H') → r x [y] H Q
def eMt (φ : List D → D → Option O) (fo fa : Gm → R D) : Gm → R O := fun Γ => (fo Γ).bind fun o => match o with
  | .lst ds => (fa Γ).bind fun a => R.of (φ ds a)
  | _ => .stuck
def cntD (ds : List D) (d : D) : Option O := if shp (.lst ds) = true ∧ shp d = true then some (.v (.int ((pyDs ds).countP (fun z => PyData.eqv z (pyD d)) : Nat))) else none
def idxD (ds : List D) (d : D) : Option O := if shp (.lst ds) = true ∧ shp d = true then ((pyDs ds).findIdx? fun z => PyData.eqv z (pyD d)).map fun j => .v (.int (j : Nat)) else none
section
variable {K : PySem.W.Frag}
end
section
variable {X : Cx} {E : Ex T} {e a b o : PySem.Expr} {pos p apos cpos : Pos}
end
end Pd

set_option Elab.async false
set_option linter.all false
set_option maxRecDepth 100000
set_option maxHeartbeats 1000000
namespace Pd
open PySem PySem.Spec L2

structure Hok (X : Cx) (G : Gl5) (N : List Str) (sc : Scope) (a D : Addr) : Prop where
  g : gOf X = G
  hN : X.N = N
  nd : N.Nodup
  sc : X.env.scope = sc
  fn : ∀ x, X.fn x = true
  hu : X.A.units + 100 < cLine
  pin : ∃ oe, (a, oe) ∈ X.pn ∧ Zc (.ref D) none oe ∧ ∃ vs, oe.data = .fields vs
  ex : ExcC X.K D
def fIsE (a : Addr) (c : D) (b : Bool) : List D → Option O
  | [.ref a', .ref C'] => match c with
    | .ref C => if a' = a ∧ C' = C then some (bO b) else none
    | _ => none
  | [.ref a', .ty n'] => match c with
    | .ty n => if a' = a ∧ n' = n then some (bO b) else none
    | _ => none
  | _ => none
def kitD (K : PySem.W.Frag) (D : Addr) : Pd.D → Option Bool
  | .ref C => PySem.W.kitOne K (.ref D) (.ref C)
  | .ty n => PySem.W.kitOne K (.ref D) (.type n)
  | _ => none
section
variable {X : Cx} {E : Ex T} {G : Gl5} {N : List Str} {sc : Scope} {a D : Addr}
theorem Hok.isE (C : Hok X G N sc a D) : CallR X (.builtin "isinstance") (rIsE X.K D a) := by
  intro pins s σ H xs us Q I r h
  obtain ⟨c, cv, b, rfl, hcv, e, q⟩ := h
  obtain ⟨u1, u2, rfl, r1, r2⟩ := vals2 r
  obtain rfl := hcv _ r2
  cases r1
  obtain ⟨oe, hp, hz, vs, hv⟩ := C.pin
  have at_ := (I.pin (a, oe) (List.mem_append_left _ hp)).1
  have J : PySem.W.InstAt s.heap a oe D none := by
    cases oe with
    | mk oc od oda osl =>
      obtain ⟨h1, h2⟩ := hz
      cases h1
      cases h2
      cases hv
      exact ⟨at_, rfl, rfl, trivial⟩
  have K1 := PySem.W.handS_kitx_exc C.ex.hg C.ex.hk C.ex.hs C.ex.hd C.ex.ha C.ex.hn C.ex.ht C.ex.hm (x := a) (ox := oe)
  exact PySem.W.kia_one K1 I.kIn J e (fun z => nomatch z) fun tk => ⟨.bl b, H, I.tok tk, rfl, q⟩
theorem Hok.cd (C : Hok X G N sc a D) {c : Pd.D} {b : Bool} (h : kitD X.K D c = some b) : BuiltinOk X "isinstance" (fIsE a c b) := by
  refine .inl ⟨_, _, by decide +kernel, C.isE, fun xs ds o F H Q s cs eo q => ?_⟩
  unfold fIsE at eo
  split at eo
  · obtain ⟨x, y, rfl, c1, c2⟩ := cs.two
    obtain rfl := c1.ref
    obtain rfl := c2.ref
    cases c with
    | ref C =>
      dsimp only at eo
      split at eo
      · rename_i hh
        obtain ⟨rfl, rfl⟩ := hh
        cases eo
        exact ⟨_, _, b, rfl, (fun u r => r), h, q _ F H (.refl s) (.bl _)⟩
      · cases eo
    | _ => cases eo
  · obtain ⟨x, y, rfl, c1, c2⟩ := cs.two
    obtain rfl := c1.ref
    obtain rfl := c2.ty
    cases c with
    | ty n =>
      dsimp only at eo
      split at eo
      · rename_i hh
        obtain ⟨rfl, rfl⟩ := hh
        cases eo
        exact ⟨_, _, b, rfl, (fun u r => r), h, q _ F H (.refl s) (.bl _)⟩
      · cases eo
    | _ => cases eo
  · cases eo
variable {e b c o : PySem.Expr} {pos p p2 apos cpos : Pos} {i : Nat} {x y : Str}
theorem Hok.glo (C : Hok X G N sc a D) {x : Str} (h : gloB sc x = true) : Gl X x ∧ (x == ("__debug__" : Str)) = false := by
  unfold gloB at h
  simp only [Bool.and_eq_true, Bool.not_eq_true'] at h
  refine ⟨?_, h.2⟩
  show X.env.scope.names.lookup x = _
  rw [C.sc]
  exact lk_of h.1
end
def HotP (P : Program) (w : World) (K : PySem.W.Frag) (mg : Str → Option Value) (base : Heap) (k : Nat) (f : Addr) (fd : FuncData) (ps : List Str) (D : Addr) (ans : Pd.D) : Prop :=
  ps.length = 1 ∧ ∀ (A : Around) (outer : List Env) (s : Shared) (H : Hp) (args : Args) (us : List Value) (a : Addr) (oe : Obj) (T : List (Addr × Str)) (F : Fz T) (Q : VK), L2H.RoomH k A → L2H.PinOk outer H s (a, oe) → Zc (.ref D) none oe → (∃ vs, oe.data = .fields vs) →
    Env0 P w K mg base A outer s H → BindsTo s fd args (ps.zip us) → Vals [V.ref a] us → Sub F H → (∀ v F' H', Grow F H F' H' → ORep K H F' H' v (.v ans) → Q v H') →
    codeAny (model P w) A (.call (.ref f) args) (CR (L2.CX P w) outer P w H s Q (fun _ _ _ => False)) s
end Pd

set_option Elab.async false
set_option linter.all false
set_option maxRecDepth 100000
set_option maxHeartbeats 1000000
namespace Pd
open PySem PySem.Spec L2

theorem Sub.ext {F : Fz T} {H H' : Hp} (s : Sub F H) (e : Ext H H') (t : LamX.Tabs T H') : Sub F H' :=
  ⟨fun a o q => (s.at_ a o q).imp (fun z => e _ _ z fun ps y => s.nt a ps (by rw [q, y])) fun ⟨h, x, z⟩ => ⟨h, x, e _ _ z fun _ y => nomatch y⟩, s.nt, t⟩
theorem Grow.tab {F : Fz T} {H H' : Hp} (s : Sub F H) (e : Ext H H') (t : LamX.Tabs T H') : Grow F H F H' := ⟨e, Same.refl _, s.ext e t, fun _ _ _ _ => rfl⟩
def tHot (K : PySem.W.Frag) (run : Addr → Pd.D → Prop) (i : Nat) (a : Addr) (cls : Value) (d : Option Addr) : TE := fun σ H Q =>
  σ[i]? = some (some (.ref a)) ∧ d = none ∧ ∃ (D : Addr) (ans : Pd.D) (T : List (Addr × Str)) (F : Fz T), cls = .ref D ∧ run D ans ∧ Sub F H ∧ ∀ v F' H', Grow F H F' H' → ORep K H F' H' v (.v ans) → Q v H'
def wRef (K : PySem.W.Frag) (run : Addr → Pd.D → Prop) (CL : Addr) (Q : VK) : XK := fun cls d H' =>
  d = none ∧ ∃ (D : Addr) (w : Str) (T : List (Addr × Str)) (F : Fz T), cls = .ref D ∧ run D (.str w) ∧ PySem.W.exmOne K (.ref D) (.ref CL) = some true ∧ Sub F H' ∧ ∀ F' H'', Grow F H' F' H'' → Q (.str w) H''
def TRef (K : PySem.W.Frag) (run : Addr → Pd.D → Prop) (CL : Addr) : (XK → Hp → VK → Prop) → Hp → VK → Prop := fun tl H Q => tl (wRef K run CL Q) H fun _ H1 => Q (.str "told") H1
end Pd

set_option Elab.async false
set_option linter.all false
set_option maxRecDepth 100000
set_option maxHeartbeats 1000000
namespace Pd
open PySem PySem.Spec L2

def tEof (T : List (Addr × Str)) (K : PySem.W.Frag) (mg : Str → Option Value) (f : Gm → R O) (E : XK) : TE := fun σ H Q => ∃ (Γ : Gm) (F0 : Fz T) (H0 : Hp) (F : Fz T), EnvOk K F0 H0 F H σ Γ ∧
  (f Γ).post (fun o => ∀ v F' H', Grow F H F' H' → ORep K H F' H' v o → Q v H') (Erp mg (⟨E⟩ : Ex T) F H)
theorem SE.all {X : Cx} {e : PySem.Expr} {E : XK} {f : Gm → R O} (h : SE X (⟨E⟩ : Ex T) e f) : PE X e (tEof T X.K X.mg f E) := by
  obtain ⟨t, p, g⟩ := h
  exact PE.imp p fun σ H Q ⟨Γ, F0, H0, F, I, q⟩ => g Γ F0 H0 F H σ Q I q
def eRef (word : Str → Option Str) (f : Gm → R O) : Gm → R O := fun Γ => match f Γ with
  | .ok _ => .ok (.v (.str "told"))
  | .err n => match word n with
    | some w => .ok (.v (.str w))
    | none => .stuck
  | .stuck => .stuck
structure RefG (G : Gl5) (k : Nat) (x a w e lp cl : Str) (st : Stmt) (word : Str → Option Str) : Prop where
  ex : ∃ (g CL fc : Addr) (fd fdc : FuncData) (psc : List Str), L2.Fun G.K x x st g fd ∧ Binds G.K fd [a] [] ∧ FnScope [a, w, e] [a] (L2.defScope st) ∧ G.mg x = some (.ref g) ∧ G.mg lp = some (.ref CL) ∧ G.mg cl = some (.ref fc) ∧ PySem.W.keepIn G.K (.ref fc) = true ∧ Binds G.K fdc psc [] ∧
    ∀ n wd, word n = some wd → ∃ D, G.mg n = some (.ref D) ∧ HotP G.P G.w G.K G.mg G.base k fc fdc psc D (.str wd) ∧ PySem.W.exmOne G.K (.ref D) (.ref CL) = some true
  body : ∃ (j : Nat) (p1 p2 p3 p4 p5 p6 p7 p8 p9 p10 p11 p12 p13 p14 p15 p16 : Pos), L2.defBody st = [.Assign [.Name w p1] (.Constant (.str "told") j p2) p3,
      .Try [.Expr (.Call (.Name a p4) [] [] p5) p6] [.ExceptHandler (some (.Name lp p7)) (some e) [.Assign [.Name w p8] (.Call (.Name cl p9) [.Name e p10] [] p11) p12] p13] [] [] p14, .Return (some (.Name w p15)) p16]
  ok : ((L2.defScope st).names.lookup w == some .local && (L2.defScope st).names.lookup e == some .local && (L2.defScope st).names.lookup lp == some .globalImplicit && (L2.defScope st).names.lookup cl == some .globalImplicit && (L2.defScope st).names.lookup a == some .local &&
    [lp, cl, w, e, a, x].all (fun y => !(y == ("__debug__" : Str)) && !(y == ("__classdict__" : Str)))) = true
structure Lok (X : Cx) (T : List (Addr × Str)) (c P : Addr) : Prop where
  code : X.env.code = .ref c
  tb : LamX.TabB X.base X.mg c P
  tm : (P, X.env.qual ++ "<lambda>") ∈ T
  tu : ∀ p ∈ T, p.1 = P → p.2 = X.env.qual ++ "<lambda>"
def fnNo : Str → Bool := fun _ => false
end Pd

set_option Elab.async false
set_option linter.all false
set_option maxRecDepth 100000
set_option maxHeartbeats 1000000
namespace Pd
open PySem PySem.Spec L2

def lamQ (x : Str) : Str := (x ++ ".<locals>.") ++ "<lambda>"
def spT (K : PySem.W.Frag) (T : List (Addr × Str)) (n : Nat) (φ : List Sl → R O) : Sp := fun vs H Q E => vs.length = n ∧ ∀ mg, ∃ (F : Fz T) (ss : List Sl), Sub F H ∧ SlVs K F H vs ss ∧
  (φ ss).post (fun o => ∀ v F' H', Grow F H F' H' → ORep K H F' H' v o → Q v H') (Erp mg (⟨E⟩ : Ex T) F H)
section
variable {P : Program} {w : World} {K : PySem.W.Frag} {mg : Str → Option Value} {base : Heap}
end
section
variable {X : Cx} {E : Ex T} {G : Gl5} {k : Nat} {N : List Str} {sc : Scope} {fnb : Str → Bool} {b o : PySem.Expr} {apos cpos : Pos}
end
@[simp] theorem R.bind_ok {α β : Type} (a : α) (f : α → R β) : (R.ok a).bind f = f a := rfl
@[simp] theorem R.bind_err {α β : Type} (n : Str) (f : α → R β) : (R.err n).bind f = .err n := rfl
@[simp] theorem R.bind_stuck {α β : Type} (f : α → R β) : (R.stuck : R α).bind f = .stuck := rfl
@[simp] theorem R.of_some {α : Type} (a : α) : R.of (some a) = .ok a := rfl
@[simp] theorem noE_ok' {α : Type} (a : α) : noE (R.ok a) = .ok a := rfl
end Pd

set_option Elab.async false
set_option linter.all false
set_option maxRecDepth 100000
set_option maxHeartbeats 1000000
namespace Pd
open PySem PySem.Spec L2

theorem mul_r {i j : Int} (h1 : -18446744073709551616 < j) (h2 : j < 18446744073709551616) : dMul (.int i) (.int j) = some (.v (.int (i * j))) := by
  unfold dMul
  exact if_pos (.inr ⟨by omega, by omega⟩)
theorem div_i {i j : Int} (h1 : 0 < j) (h2 : j < 1073741824) : dDiv (.int i) (.int j) = some (.v (.int (i / j))) := if_pos ⟨h1, Nat.lt_of_lt_of_le ((Nat.log2_lt (by omega)).mpr (show j.natAbs < 2 ^ 30 by omega)) (by decide)⟩
theorem div_w {i j : Int} (h1 : 0 < j) (h2 : j.natAbs.log2 < 9000) : dDiv (.int i) (.int j) = some (.v (.int (i / j))) := if_pos ⟨h1, h2⟩
theorem mod_i {i j : Int} (h1 : 0 < j) : dMod (.int i) (.int j) = some (.v (.int (i % j))) := if_pos h1
theorem add_i {i j : Int} : dAdd (.int i) (.int j) = some (.v (.int (i + j))) := rfl
theorem sub_i {i j : Int} : dSub (.int i) (.int j) = some (.v (.int (i - j))) := rfl
theorem lt_i {i j : Int} : dLt (.int i) (.int j) = some (.v (.bl (decide (i < j)))) := rfl
theorem le_i {i j : Int} : dLe (.int i) (.int j) = some (.v (.bl (decide (i ≤ j)))) := rfl
theorem gt_i {i j : Int} : dGt (.int i) (.int j) = some (.v (.bl (decide (j < i)))) := rfl
theorem ge_i {i j : Int} : dGe (.int i) (.int j) = some (.v (.bl (decide (j ≤ i)))) := rfl
theorem eq_i {i j : Int} : dEq (.int i) (.int j) = some (.v (.bl (i == j))) := rfl
theorem ne_i {i j : Int} : dNe (.int i) (.int j) = some (.v (.bl (!(i == j)))) := rfl
theorem pow18 : dPow (.int 10) (.int 18) = some (.v (.int 1000000000000000000)) := rfl
def gTail : Gm → R Out := (sSeq (sSet false 3 (e2 (dBin .Mod) (rd (e2 (dBin .Mult) (rd (e2 (dBin .Add) (rd (e2 (dBin .Add) (rd (e2 (dBin .Mod) (rVar 0) (rd (eC (.int 1000000007))))) (rd (e2 (dBin .Mult) (rd (eC (.int 1009))) (rVar 1))))) (rd (eC (.int 17))))) (rd (eC (.int 69621))))) (rd (eC (.int 2147483647)))))
  (sSeq (sSet false 3 (e2 (dBin .Mod) (rd (e2 (dBin .Add) (rd (e2 (dBin .Add) (rd (e2 (dBin .Mult) (rVar 3) (rVar 3))) (rd (e2 (dBin .Mult) (rd (eC (.int 40503))) (rVar 1))))) (rd (eC (.int 5))))) (rd (eC (.int 2147483629)))))
  (sSeq (sRet (e2 (dBin .Mod) (rd (e2 (dBin .FloorDiv) (rd (e2 (dBin .Mod) (rd (e2 (dBin .Mult) (rVar 3) (rd (eC (.int 48271))))) (rd (eC (.int 2147483647))))) (rd (eC (.int 32))))) (rVar 2)))
  (sNext))))
def gHead : Gm → R Out := (sIf (isB (e2 (dCmp .GtE) (rVar 0) (rd (e2 (dBin .Pow) (rd (eC (.int 10))) (rd (eC (.int 18))))))) (sSeq (sSet false 4 (eVar 0))
  (sSeq (sFor (iOf rngF1 (seqR [rVar 1])) (.nm 5) (sSeq (sSet false 4 (e2 (dBin .FloorDiv) (rVar 4) (rVar 2)))
  (sNext)))
  (sSeq (sIf (isB (e2 (dCmp .Gt) (rVar 4) (rd (eC (.int 0))))) (sSeq (sRet (e2 (dBin .Mod) (rVar 4) (rVar 2)))
  (sNext)) (sNext))
  (sNext)))) (sNext))
theorem tail_ok (c k b : Int) (s3 s4 s5 : Sl) (hk : 0 ≤ k) (hk2 : k < 1000000) (hb : 0 < b) : ∃ r, 0 ≤ r ∧ r < b ∧ gTail [.val (.int c), .val (.int k), .val (.int b), s3, s4, s5] = .ok (.rt (.v (.int r))) := by
  have e : gTail [.val (.int c), .val (.int k), .val (.int b), s3, s4, s5] = .ok (.rt (.v (.int (((c % 1000000007 + 1009 * k + 17) * 69621 % 2147483647 * ((c % 1000000007 + 1009 * k + 17) * 69621 % 2147483647) + 40503 * k + 5) % 2147483629 * 48271 % 2147483647 / 32 % b)))) := by
    unfold gTail
    simp (implicitDefEqProofs := false) (disch := omega) only [defF, retO, sSeq, sNext, sIf, sSet, setO, isSetD, sRet, sRetV, sExpr, sAsg, sPar, sFor, tOrF, tAndF, tNotF, tTru, isB, vAndF, vOrF, eIf, eNot, eNeg, eCall, eUser, seqR, rVar, eVar, uVar, uVal, rd, vl, eC, eLst, eTup, Pd.e2, Pd.e3, dBin, dCmp, iOf, iF, rngF1, rngF2, O.d, O.val, O.canVal, bO, truD, R.bind_ok, R.bind_err, R.bind_stuck, R.of_some, noE_ok', Tg.fn, mul_r, div_i, mod_i, add_i, sub_i, lt_i, le_i, gt_i, ge_i, eq_i, ne_i, pow18, List.cons_append, List.nil_append, List.getElem?_cons_zero, List.getElem?_cons_succ, List.replicate_succ, List.replicate_zero, List.set_cons_zero, List.set_cons_succ, List.length_cons, List.length_nil, if_true, if_false, Bool.not_true, Bool.not_false, Bool.false_eq_true, reduceIte, Nat.reduceAdd, Nat.reduceLeDiff, Nat.zero_add, false_or, or_false, decide_eq_true_eq]
  exact ⟨_, Int.emod_nonneg _ (by omega), Int.emod_lt_of_pos _ hb, e⟩
theorem for_inv (t : Nat) (f : Gm → R Out) (P : Gm → Prop) (h : ∀ Γ d, P Γ → ∃ Γ', f (Γ.set t (.val d)) = .ok (.nx Γ') ∧ P Γ') : ∀ (ds : List D) (Γ : Gm), P Γ → ∃ Γ', forR (.nm t) f ds Γ = .ok (.nx Γ') ∧ P Γ' := by
  intro ds
  induction ds with
  | nil => intro Γ p; exact ⟨Γ, by rw [forR], p⟩
  | cons d r ih =>
    intro Γ p
    obtain ⟨Γ1, e1, p1⟩ := h Γ d p
    obtain ⟨Γ2, e2, p2⟩ := ih Γ1 p1
    refine ⟨Γ2, ?_, p2⟩
    rw [forR, Tg.fn, noE_ok', R.bind_ok, e1, R.bind_ok]
    exact e2
theorem loop_ok (c k b : Int) (hb : 0 < b) (hb2 : b.natAbs.log2 < 9000) (s3 : Sl) (ds : List D) (L : Int) (s5 : Sl) : ∃ L' s5', forR (.nm 5) (sSeq (sSet false 4 (e2 (dBin .FloorDiv) (rVar 4) (rVar 2))) (sNext)) ds [.val (.int c), .val (.int k), .val (.int b), s3, .val (.int L), s5] = .ok (.nx [.val (.int c), .val (.int k), .val (.int b), s3, .val (.int L'), s5']) := by
  obtain ⟨Γ', e, L', s5', p⟩ := for_inv 5 (sSeq (sSet false 4 (e2 (dBin .FloorDiv) (rVar 4) (rVar 2))) (sNext)) (fun Γ => ∃ L' s5', Γ = [.val (.int c), .val (.int k), .val (.int b), s3, .val (.int L'), s5']) (by
    rintro Γ d ⟨L', s5', rfl⟩
    refine ⟨[.val (.int c), .val (.int k), .val (.int b), s3, .val (.int (L' / b)), .val d], ?_, _, _, rfl⟩
    have dv : dDiv (.int L') (.int b) = some (.v (.int (L' / b))) := div_w hb hb2
    simp (implicitDefEqProofs := false) (disch := omega) only [defF, retO, sSeq, sNext, sIf, sSet, setO, isSetD, sRet, sRetV, sExpr, sAsg, sPar, sFor, tOrF, tAndF, tNotF, tTru, isB, vAndF, vOrF, eIf, eNot, eNeg, eCall, eUser, seqR, rVar, eVar, uVar, uVal, rd, vl, eC, eLst, eTup, Pd.e2, Pd.e3, dBin, dCmp, iOf, iF, rngF1, rngF2, O.d, O.val, O.canVal, bO, truD, R.bind_ok, R.bind_err, R.bind_stuck, R.of_some, noE_ok', Tg.fn, mul_r, div_i, mod_i, add_i, sub_i, lt_i, le_i, gt_i, ge_i, eq_i, ne_i, pow18, List.cons_append, List.nil_append, List.getElem?_cons_zero, List.getElem?_cons_succ, List.replicate_succ, List.replicate_zero, List.set_cons_zero, List.set_cons_succ, List.length_cons, List.length_nil, if_true, if_false, Bool.not_true, Bool.not_false, Bool.false_eq_true, reduceIte, Nat.reduceAdd, Nat.reduceLeDiff, Nat.zero_add, false_or, or_false, decide_eq_true_eq, dv]) ds _ ⟨L, s5, rfl⟩
  exact ⟨L', s5', p ▸ e⟩
theorem head_no (c k b : Int) (h : ¬ (1000000000000000000 : Int) ≤ c) : gHead [.val (.int c), .val (.int k), .val (.int b), .un, .un, .un] = .ok (.nx [.val (.int c), .val (.int k), .val (.int b), .un, .un, .un]) := by
  unfold gHead
  simp (implicitDefEqProofs := false) (disch := omega) only [defF, retO, sSeq, sNext, sIf, sSet, setO, isSetD, sRet, sRetV, sExpr, sAsg, sPar, sFor, tOrF, tAndF, tNotF, tTru, isB, vAndF, vOrF, eIf, eNot, eNeg, eCall, eUser, seqR, rVar, eVar, uVar, uVal, rd, vl, eC, eLst, eTup, Pd.e2, Pd.e3, dBin, dCmp, iOf, iF, rngF1, rngF2, O.d, O.val, O.canVal, bO, truD, R.bind_ok, R.bind_err, R.bind_stuck, R.of_some, noE_ok', Tg.fn, mul_r, div_i, mod_i, add_i, sub_i, lt_i, le_i, gt_i, ge_i, eq_i, ne_i, pow18, List.cons_append, List.nil_append, List.getElem?_cons_zero, List.getElem?_cons_succ, List.replicate_succ, List.replicate_zero, List.set_cons_zero, List.set_cons_succ, List.length_cons, List.length_nil, if_true, if_false, Bool.not_true, Bool.not_false, Bool.false_eq_true, reduceIte, Nat.reduceAdd, Nat.reduceLeDiff, Nat.zero_add, false_or, or_false, decide_eq_true_eq, h]
theorem cond_yes (c k b : Int) (h : (1000000000000000000 : Int) ≤ c) : (isB (e2 (dCmp .GtE) (rVar 0) (rd (e2 (dBin .Pow) (rd (eC (.int 10))) (rd (eC (.int 18))))))) [.val (.int c), .val (.int k), .val (.int b), .un, .un, .un] = .ok true := by
  simp (implicitDefEqProofs := false) (disch := omega) only [defF, retO, sSeq, sNext, sIf, sSet, setO, isSetD, sRet, sRetV, sExpr, sAsg, sPar, sFor, tOrF, tAndF, tNotF, tTru, isB, vAndF, vOrF, eIf, eNot, eNeg, eCall, eUser, seqR, rVar, eVar, uVar, uVal, rd, vl, eC, eLst, eTup, Pd.e2, Pd.e3, dBin, dCmp, iOf, iF, rngF1, rngF2, O.d, O.val, O.canVal, bO, truD, R.bind_ok, R.bind_err, R.bind_stuck, R.of_some, noE_ok', Tg.fn, mul_r, div_i, mod_i, add_i, sub_i, lt_i, le_i, gt_i, ge_i, eq_i, ne_i, pow18, List.cons_append, List.nil_append, List.getElem?_cons_zero, List.getElem?_cons_succ, List.replicate_succ, List.replicate_zero, List.set_cons_zero, List.set_cons_succ, List.length_cons, List.length_nil, if_true, if_false, Bool.not_true, Bool.not_false, Bool.false_eq_true, reduceIte, Nat.reduceAdd, Nat.reduceLeDiff, Nat.zero_add, false_or, or_false, decide_eq_true_eq, h, decide_true]
theorem rng_yes (c k b : Int) (sm : smallI k = true) (kl : k.toNat ≤ line) (s4 : Sl) : iOf rngF1 (seqR [rVar 1]) [.val (.int c), .val (.int k), .val (.int b), .un, s4, .un] = .ok (rngD 0 k.toNat) := by
  simp (implicitDefEqProofs := false) (disch := omega) only [defF, retO, sSeq, sNext, sIf, sSet, setO, isSetD, sRet, sRetV, sExpr, sAsg, sPar, sFor, tOrF, tAndF, tNotF, tTru, isB, vAndF, vOrF, eIf, eNot, eNeg, eCall, eUser, seqR, rVar, eVar, uVar, uVal, rd, vl, eC, eLst, eTup, Pd.e2, Pd.e3, dBin, dCmp, iOf, iF, rngF1, rngF2, O.d, O.val, O.canVal, bO, truD, R.bind_ok, R.bind_err, R.bind_stuck, R.of_some, noE_ok', Tg.fn, mul_r, div_i, mod_i, add_i, sub_i, lt_i, le_i, gt_i, ge_i, eq_i, ne_i, pow18, List.cons_append, List.nil_append, List.getElem?_cons_zero, List.getElem?_cons_succ, List.replicate_succ, List.replicate_zero, List.set_cons_zero, List.set_cons_succ, List.length_cons, List.length_nil, if_true, if_false, Bool.not_true, Bool.not_false, Bool.false_eq_true, reduceIte, Nat.reduceAdd, Nat.reduceLeDiff, Nat.zero_add, false_or, or_false, decide_eq_true_eq, sm, kl, true_and, and_true, and_self]
theorem sSeq_nx {f g : Gm → R Out} {Γ Γ' : Gm} (e : f Γ = .ok (.nx Γ')) : sSeq f g Γ = g Γ' := by unfold sSeq; rw [e]; rfl
theorem sSeq_rt {f g : Gm → R Out} {Γ : Gm} {o : O} (e : f Γ = .ok (.rt o)) : sSeq f g Γ = .ok (.rt o) := by unfold sSeq; rw [e]; rfl
theorem sIf_t {c : Gm → R Bool} {f g : Gm → R Out} {Γ : Gm} (e : c Γ = .ok true) : sIf c f g Γ = f Γ := by unfold sIf; rw [e]; rfl
theorem sIf_f {c : Gm → R Bool} {f g : Gm → R Out} {Γ : Gm} (e : c Γ = .ok false) : sIf c f g Γ = g Γ := by unfold sIf; rw [e]; rfl
theorem sFor_eq {fi : Gm → R (List D)} {t : Tg} {b : Gm → R Out} {Γ : Gm} {ds : List D} (e : fi Γ = .ok ds) : sFor fi t b Γ = forR t b ds Γ := by unfold sFor; rw [e]; rfl
theorem head_yes (c k b : Int) (hb : 0 < b) (hb2 : b.natAbs.log2 < 9000) (sm : smallI k = true) (kl : k.toNat ≤ line) (h : (1000000000000000000 : Int) ≤ c) :
    (∃ L, 0 < L ∧ gHead [.val (.int c), .val (.int k), .val (.int b), .un, .un, .un] = .ok (.rt (.v (.int (L % b))))) ∨ (∃ s4 s5, gHead [.val (.int c), .val (.int k), .val (.int b), .un, .un, .un] = .ok (.nx [.val (.int c), .val (.int k), .val (.int b), .un, s4, s5])) := by
  have e1 : sSet false 4 (eVar 0) [.val (.int c), .val (.int k), .val (.int b), .un, .un, .un] = .ok (.nx [.val (.int c), .val (.int k), .val (.int b), .un, .val (.int c), .un]) := by simp (implicitDefEqProofs := false) (disch := omega) only [defF, retO, sSeq, sNext, sIf, sSet, setO, isSetD, sRet, sRetV, sExpr, sAsg, sPar, sFor, tOrF, tAndF, tNotF, tTru, isB, vAndF, vOrF, eIf, eNot, eNeg, eCall, eUser, seqR, rVar, eVar, uVar, uVal, rd, vl, eC, eLst, eTup, Pd.e2, Pd.e3, dBin, dCmp, iOf, iF, rngF1, rngF2, O.d, O.val, O.canVal, bO, truD, R.bind_ok, R.bind_err, R.bind_stuck, R.of_some, noE_ok', Tg.fn, mul_r, div_i, mod_i, add_i, sub_i, lt_i, le_i, gt_i, ge_i, eq_i, ne_i, pow18, List.cons_append, List.nil_append, List.getElem?_cons_zero, List.getElem?_cons_succ, List.replicate_succ, List.replicate_zero, List.set_cons_zero, List.set_cons_succ, List.length_cons, List.length_nil, if_true, if_false, Bool.not_true, Bool.not_false, Bool.false_eq_true, reduceIte, Nat.reduceAdd, Nat.reduceLeDiff, Nat.zero_add, false_or, or_false, decide_eq_true_eq]
  obtain ⟨L', s5', e2⟩ := loop_ok c k b hb hb2 .un (rngD 0 k.toNat) c .un
  by_cases h2 : 0 < L'
  · refine .inl ⟨L', h2, ?_⟩
    unfold gHead
    rw [sIf_t (cond_yes c k b h), sSeq_nx e1, sSeq_nx ((sFor_eq (rng_yes c k b sm kl _)).trans e2)]
    simp (implicitDefEqProofs := false) (disch := omega) only [defF, retO, sSeq, sNext, sIf, sSet, setO, isSetD, sRet, sRetV, sExpr, sAsg, sPar, sFor, tOrF, tAndF, tNotF, tTru, isB, vAndF, vOrF, eIf, eNot, eNeg, eCall, eUser, seqR, rVar, eVar, uVar, uVal, rd, vl, eC, eLst, eTup, Pd.e2, Pd.e3, dBin, dCmp, iOf, iF, rngF1, rngF2, O.d, O.val, O.canVal, bO, truD, R.bind_ok, R.bind_err, R.bind_stuck, R.of_some, noE_ok', Tg.fn, mul_r, div_i, mod_i, add_i, sub_i, lt_i, le_i, gt_i, ge_i, eq_i, ne_i, pow18, List.cons_append, List.nil_append, List.getElem?_cons_zero, List.getElem?_cons_succ, List.replicate_succ, List.replicate_zero, List.set_cons_zero, List.set_cons_succ, List.length_cons, List.length_nil, if_true, if_false, Bool.not_true, Bool.not_false, Bool.false_eq_true, reduceIte, Nat.reduceAdd, Nat.reduceLeDiff, Nat.zero_add, false_or, or_false, decide_eq_true_eq, h2, decide_true]
  · refine .inr ⟨.val (.int L'), s5', ?_⟩
    unfold gHead
    rw [sIf_t (cond_yes c k b h), sSeq_nx e1, sSeq_nx ((sFor_eq (rng_yes c k b sm kl _)).trans e2)]
    simp (implicitDefEqProofs := false) (disch := omega) only [defF, retO, sSeq, sNext, sIf, sSet, setO, isSetD, sRet, sRetV, sExpr, sAsg, sPar, sFor, tOrF, tAndF, tNotF, tTru, isB, vAndF, vOrF, eIf, eNot, eNeg, eCall, eUser, seqR, rVar, eVar, uVar, uVal, rd, vl, eC, eLst, eTup, Pd.e2, Pd.e3, dBin, dCmp, iOf, iF, rngF1, rngF2, O.d, O.val, O.canVal, bO, truD, R.bind_ok, R.bind_err, R.bind_stuck, R.of_some, noE_ok', Tg.fn, mul_r, div_i, mod_i, add_i, sub_i, lt_i, le_i, gt_i, ge_i, eq_i, ne_i, pow18, List.cons_append, List.nil_append, List.getElem?_cons_zero, List.getElem?_cons_succ, List.replicate_succ, List.replicate_zero, List.set_cons_zero, List.set_cons_succ, List.length_cons, List.length_nil, if_true, if_false, Bool.not_true, Bool.not_false, Bool.false_eq_true, reduceIte, Nat.reduceAdd, Nat.reduceLeDiff, Nat.zero_add, false_or, or_false, decide_eq_true_eq, h2, decide_false]
theorem def_rt {m : Nat} {f : Gm → R Out} {as : List Sl} {o : O} (e : f (as ++ List.replicate m .un) = .ok (.rt o)) : defF m f as = .ok o := by unfold defF; rw [e]; rfl
theorem draw_w (c : Int) (k b : Nat) (hk : k < 1000000) (hb : 0 < b) (hb2 : b.log2 < 9000) : ∃ r : Nat, r < b ∧ defF 3 (sSeq gHead gTail) [.val (.int c), .val (.int k), .val (.int b)] = .ok (.v (.int r)) := by
  have sm : smallI (k : Int) = true := decide_eq_true ⟨by omega, by omega⟩
  have kl : ((k : Int)).toNat ≤ line := by unfold line; omega
  have fin : ∀ (s3 s4 s5 : Sl), gHead [.val (.int c), .val (.int k), .val (.int b), .un, .un, .un] = .ok (.nx [.val (.int c), .val (.int k), .val (.int b), s3, s4, s5]) → ∃ r : Nat, r < b ∧ defF 3 (sSeq gHead gTail) [.val (.int c), .val (.int k), .val (.int b)] = .ok (.v (.int r)) := fun s3 s4 s5 e1 => by
    obtain ⟨r, h1, h2, e⟩ := tail_ok c k b s3 s4 s5 (by omega) (by omega) (by omega)
    refine ⟨r.toNat, by omega, def_rt ?_⟩
    rw [show ((r.toNat : Nat) : Int) = r by omega]
    exact (sSeq_nx e1).trans e
  by_cases h : (1000000000000000000 : Int) ≤ c
  · rcases head_yes c k b (by omega) (by rw [Int.natAbs_natCast]; exact hb2) sm kl h with ⟨L, hL, e⟩ | ⟨s4, s5, e⟩
    · refine ⟨(L % b).toNat, ?_, def_rt ?_⟩
      · have := Int.emod_lt_of_pos L (show (0 : Int) < b by omega)
        have := Int.emod_nonneg L (show (b : Int) ≠ 0 by omega)
        omega
      · have := Int.emod_nonneg L (show (b : Int) ≠ 0 by omega)
        rw [show (((L % b).toNat : Nat) : Int) = L % b by omega]
        exact sSeq_rt e
    · exact fin _ _ _ e
  · exact fin _ _ _ (head_no c k b h)
theorem draw_ok (c : Int) (k b : Nat) (hk : k < 1000000) (hb : 0 < b) (hb2 : b < 1073741824) : ∃ r : Nat, r < b ∧ defF 3 (sSeq gHead gTail) [.val (.int c), .val (.int k), .val (.int b)] = .ok (.v (.int r)) :=
  draw_w c k b hk hb (Nat.lt_of_lt_of_le ((Nat.log2_lt (by omega)).mpr (show b < 2 ^ 30 by omega)) (by decide))
end Pd

set_option Elab.async false
set_option linter.all false
set_option maxRecDepth 100000
set_option maxHeartbeats 1000000
namespace Pd
open PySem PySem.Spec L2
section
variable {α β : Type} {f g h : Gm → R O} {c c' : Gm → R Bool} {s s' : Gm → R Out} {d : D} {ds : List D} {Γ : Gm} {i j : Nat} {mu : Bool}
def seqK (g : Gm → R Out) : Out → R Out
  | .nx Γ => g Γ
  | .bk Γ => .ok (.bk Γ)
  | .ct Γ => .ok (.ct Γ)
  | .rt o => .ok (.rt o)
theorem r_seq {f g : Gm → R Out} : sSeq f g Γ = (f Γ).bind (seqK g) := by
  unfold sSeq
  congr 1
  funext o
  cases o <;> rfl
theorem r_seqNx {g : Gm → R Out} : seqK g (.nx Γ) = g Γ := rfl
theorem r_seqRt {g : Gm → R Out} {o : O} : seqK g (.rt o) = .ok (.rt o) := rfl
theorem r_seqBk {g : Gm → R Out} : seqK g (.bk Γ) = .ok (.bk Γ) := rfl
theorem r_seqCt {g : Gm → R Out} : seqK g (.ct Γ) = .ok (.ct Γ) := rfl
theorem r_next : sNext Γ = .ok (.nx Γ) := rfl
def ifK (f g : Gm → R α) (Γ : Gm) : Bool → R α
  | true => f Γ
  | false => g Γ
theorem r_if : sIf c s s' Γ = (c Γ).bind (ifK s s' Γ) := by
  unfold sIf
  congr 1
  funext b
  cases b <;> rfl
theorem r_ifT {f g : Gm → R α} : ifK f g Γ true = f Γ := rfl
theorem r_ifF {f g : Gm → R α} : ifK f g Γ false = g Γ := rfl
theorem r_eif : eIf c f g Γ = (c Γ).bind (ifK f g Γ) := by
  unfold eIf
  congr 1
  funext b
  cases b <;> rfl
def setK (mu : Bool) (i : Nat) (Γ : Gm) (o : O) : R Out := .ok (.nx (setO mu i o Γ))
theorem r_set : sSet mu i f Γ = (f Γ).bind (setK mu i Γ) := rfl
theorem r_setV : setK mu i Γ (.v d) = .ok (.nx (Γ.set i (.val d))) := rfl
theorem r_setOt : setK true i Γ (.o d) = .ok (.nx (Γ.set i (.own d))) := by simp [setK, setO]
theorem r_setOl : setK false i Γ (.o (.lst ds)) = .ok (.nx (Γ.set i (.val (.lst ds)))) := by simp [setK, setO, isSetD]
theorem r_setOd {kvs : List (D × D)} : setK false i Γ (.o (.dct kvs)) = .ok (.nx (Γ.set i (.val (.dct kvs)))) := by simp [setK, setO, isSetD]
theorem r_setOs {ns : List Int} : setK mu i Γ (.o (.set ns)) = .ok (.nx (Γ.set i (.own (.set ns)))) := by simp [setK, setO, isSetD]
def retK (o : O) : R Out := .ok (.rt o)
theorem r_ret : sRet f Γ = (f Γ).bind retK := rfl
theorem r_retK {o : O} : retK o = .ok (.rt o) := rfl
def retVK : Option Sl → R Out
  | some (.val d) => .ok (.rt (.v d))
  | some (.own d) => .ok (.rt (.o d))
  | _ => .stuck
theorem r_retV : sRetV i Γ = retVK Γ[i]? := by
  unfold sRetV retVK
  rfl
theorem r_retVv : retVK (some (.val d)) = .ok (.rt (.v d)) := rfl
theorem r_retVo : retVK (some (.own d)) = .ok (.rt (.o d)) := rfl
theorem r_expr {f : Gm → R D} : sExpr f Γ = (f Γ).bind fun _ => .ok (.nx Γ) := rfl
def asgK (t : Tg) (Γ : Gm) (d : D) : R Out := (noE (t.fn d Γ)).bind fun Γ' => .ok (.nx Γ')
theorem r_asg {t : Tg} {f : Gm → R D} : sAsg t f Γ = (f Γ).bind (asgK t Γ) := rfl
theorem r_asgK {t : Tg} : asgK t Γ d = (noE (t.fn d Γ)).bind fun Γ' => .ok (.nx Γ') := rfl
theorem r_tgN : (Tg.nm i).fn d Γ = .ok (Γ.set i (.val d)) := rfl
theorem r_tgT {ts : List Tg} : (Tg.tp ts).fn (.tup ds) Γ = Tg.fns ts ds Γ := rfl
theorem r_tgL {ts : List Tg} : (Tg.tp ts).fn (.lst ds) Γ = Tg.fns ts ds Γ := rfl
theorem r_tgs0 : Tg.fns [] [] Γ = .ok Γ := rfl
theorem r_tgs {t : Tg} {ts : List Tg} : Tg.fns (t :: ts) (d :: ds) Γ = (t.fn d Γ).bind fun Γ' => Tg.fns ts ds Γ' := rfl
def parK (i j : Nat) (Γ : Gm) : List D → R Out
  | [d, e] => .ok (.nx ((Γ.set i (.val d)).set j (.val e)))
  | _ => .stuck
theorem r_par {f : Gm → R (List D)} : sPar i j f Γ = (f Γ).bind (parK i j Γ) := rfl
theorem r_parK {e : D} : parK i j Γ [d, e] = .ok (.nx ((Γ.set i (.val d)).set j (.val e))) := rfl
def ownLK : Option Sl → R (List D)
  | some (.own (.lst ds)) => .ok ds
  | _ => .stuck
theorem r_ownL : ownL i Γ = ownLK Γ[i]? := by unfold ownL ownLK; rfl
theorem r_ownLo : ownLK (some (.own (.lst ds))) = .ok ds := rfl
def ownDK : Option Sl → R D
  | some (.own d) => .ok d
  | _ => .stuck
theorem r_ownD : ownD i Γ = ownDK Γ[i]? := by unfold ownD ownDK; rfl
theorem r_ownDo : ownDK (some (.own d)) = .ok d := rfl
def appJ (i : Nat) (Γ : Gm) (ds : List D) (d : D) : R Out := if ds.length < line then .ok (.nx (Γ.set i (.own (.lst (ds ++ [d]))))) else .stuck
def appK (i : Nat) (f : Gm → R D) (Γ : Gm) (ds : List D) : R Out := (f Γ).bind (appJ i Γ ds)
theorem r_app {f : Gm → R D} : sApp i f Γ = (ownL i Γ).bind (appK i f Γ) := rfl
theorem r_appK {f : Gm → R D} : appK i f Γ ds = (f Γ).bind (appJ i Γ ds) := rfl
theorem r_appJ (h : ds.length < 16777216) : appJ i Γ ds d = .ok (.nx (Γ.set i (.own (.lst (ds ++ [d]))))) := if_pos h
def extJ (i : Nat) (Γ : Gm) (ds : List D) : D → R Out
  | .lst es => if ds.length + es.length ≤ line then .ok (.nx (Γ.set i (.own (.lst (ds ++ es))))) else .stuck
  | _ => .stuck
def extK (i : Nat) (f : Gm → R D) (Γ : Gm) (ds : List D) : R Out := (f Γ).bind (extJ i Γ ds)
theorem r_ext {f : Gm → R D} : sExt i f Γ = (ownL i Γ).bind (extK i f Γ) := rfl
theorem r_extK {f : Gm → R D} : extK i f Γ ds = (f Γ).bind (extJ i Γ ds) := rfl
theorem r_extJ {es : List D} (h : ds.length + es.length ≤ 16777216) : extJ i Γ ds (.lst es) = .ok (.nx (Γ.set i (.own (.lst (ds ++ es))))) := if_pos h
def stoL (i : Nat) (Γ : Gm) (c : D) : R Out := .ok (.nx (Γ.set i (.own c)))
def stoJ (i : Nat) (Γ : Gm) (d c k : D) : R Out := (R.of (stoD c k d)).bind (stoL i Γ)
def stoI (i : Nat) (fk : Gm → R D) (Γ : Gm) (d c : D) : R Out := (fk Γ).bind (stoJ i Γ d c)
def stoK (i : Nat) (fk : Gm → R D) (Γ : Gm) (d : D) : R Out := (ownD i Γ).bind (stoI i fk Γ d)
theorem r_sto {fe fk : Gm → R D} : sSto i fe fk Γ = (fe Γ).bind (stoK i fk Γ) := rfl
theorem r_stoK {fk : Gm → R D} : stoK i fk Γ d = (ownD i Γ).bind (stoI i fk Γ d) := rfl
theorem r_stoI {fk : Gm → R D} {c : D} : stoI i fk Γ d c = (fk Γ).bind (stoJ i Γ d c) := rfl
theorem r_stoJ {c k : D} : stoJ i Γ d c k = (R.of (stoD c k d)).bind (stoL i Γ) := rfl
theorem r_stoL {c : D} : stoL i Γ c = .ok (.nx (Γ.set i (.own c))) := rfl
def orK (r : List (Gm → R Bool)) (Γ : Gm) : Bool → R Bool
  | true => .ok true
  | false => tOrF r Γ
theorem r_or1 : tOrF [c] Γ = c Γ := rfl
theorem r_or {r : List (Gm → R Bool)} : tOrF (c :: c' :: r) Γ = (c Γ).bind (orK (c' :: r) Γ) := by
  rw [tOrF]
  · show (c Γ).bind _ = _
    congr 1
    funext b
    cases b <;> rfl
  · simp
theorem r_orT {r : List (Gm → R Bool)} : orK r Γ true = .ok true := rfl
theorem r_orF {r : List (Gm → R Bool)} : orK r Γ false = tOrF r Γ := rfl
def andK (r : List (Gm → R Bool)) (Γ : Gm) : Bool → R Bool
  | true => tAndF r Γ
  | false => .ok false
theorem r_and1 : tAndF [c] Γ = c Γ := rfl
theorem r_and {r : List (Gm → R Bool)} : tAndF (c :: c' :: r) Γ = (c Γ).bind (andK (c' :: r) Γ) := by
  rw [tAndF]
  · show (c Γ).bind _ = _
    congr 1
    funext b
    cases b <;> rfl
  · simp
theorem r_andT {r : List (Gm → R Bool)} : andK r Γ true = tAndF r Γ := rfl
theorem r_andF {r : List (Gm → R Bool)} : andK r Γ false = .ok false := rfl
def vOrJ (r : List (Gm → R O)) (Γ : Gm) (o : O) : Bool → R O
  | true => .ok o
  | false => vOrF r Γ
def vOrK (r : List (Gm → R O)) (Γ : Gm) (o : O) : R O := (R.of (truD o.d)).bind (vOrJ r Γ o)
theorem r_vor1 : vOrF [f] Γ = f Γ := rfl
theorem r_vor {r : List (Gm → R O)} : vOrF (f :: g :: r) Γ = (f Γ).bind (vOrK (g :: r) Γ) := by
  rw [vOrF]
  · show (f Γ).bind _ = _
    congr 1
    funext o
    unfold vOrK
    congr 1
    funext b
    cases b <;> rfl
  · simp
theorem r_vorK {r : List (Gm → R O)} {o : O} : vOrK r Γ o = (R.of (truD o.d)).bind (vOrJ r Γ o) := rfl
theorem r_vorT {r : List (Gm → R O)} {o : O} : vOrJ r Γ o true = .ok o := rfl
theorem r_vorF {r : List (Gm → R O)} {o : O} : vOrJ r Γ o false = vOrF r Γ := rfl
def vAndJ (r : List (Gm → R O)) (Γ : Gm) (o : O) : Bool → R O
  | true => vAndF r Γ
  | false => .ok o
def vAndK (r : List (Gm → R O)) (Γ : Gm) (o : O) : R O := (R.of (truD o.d)).bind (vAndJ r Γ o)
theorem r_vand1 : vAndF [f] Γ = f Γ := rfl
theorem r_vand {r : List (Gm → R O)} : vAndF (f :: g :: r) Γ = (f Γ).bind (vAndK (g :: r) Γ) := by
  rw [vAndF]
  · show (f Γ).bind _ = _
    congr 1
    funext o
    unfold vAndK
    congr 1
    funext b
    cases b <;> rfl
  · simp
theorem r_vandK {r : List (Gm → R O)} {o : O} : vAndK r Γ o = (R.of (truD o.d)).bind (vAndJ r Γ o) := rfl
theorem r_vandT {r : List (Gm → R O)} {o : O} : vAndJ r Γ o true = vAndF r Γ := rfl
theorem r_vandF {r : List (Gm → R O)} {o : O} : vAndJ r Γ o false = .ok o := rfl
def notK (b : Bool) : R Bool := .ok (!b)
theorem r_not : tNotF c Γ = (c Γ).bind notK := rfl
theorem r_notK {b : Bool} : notK b = .ok (!b) := rfl
def truK (d : D) : R Bool := R.of (truD d)
theorem r_tru {f : Gm → R D} : tTru f Γ = (f Γ).bind truK := rfl
theorem r_truK : truK d = R.of (truD d) := rfl
theorem r_truB {b : Bool} : truD (.bl b) = some b := rfl
theorem r_truI {i : Int} : truD (.int i) = some (i != 0) := rfl
theorem r_truL : truD (.lst ds) = some (!ds.isEmpty) := rfl
theorem r_truT : truD (.tup ds) = some (!ds.isEmpty) := rfl
theorem r_truN : truD .non = some false := rfl
def isBK : O → R Bool
  | .v (.bl b) => .ok b
  | _ => .stuck
theorem r_isB : isB f Γ = (f Γ).bind isBK := rfl
theorem r_isBK {b : Bool} : isBK (.v (.bl b)) = .ok b := rfl
theorem r_eC : eC d Γ = .ok (.v d) := rfl
def rdK (o : O) : R D := .ok o.d
theorem r_rd : rd f Γ = (f Γ).bind rdK := rfl
theorem r_rdV : rdK (.v d) = .ok d := rfl
theorem r_rdO : rdK (.o d) = .ok d := rfl
theorem r_dV : O.d (.v d) = d := rfl
theorem r_dO : O.d (.o d) = d := rfl
theorem r_vl : vl f Γ = (f Γ).bind O.val := rfl
theorem r_valV : O.val (.v d) = .ok d := rfl
theorem r_valL : O.val (.o (.lst ds)) = .ok (.lst ds) := rfl
theorem r_valD {kvs : List (D × D)} : O.val (.o (.dct kvs)) = .ok (.dct kvs) := rfl
def rVK : Option Sl → R D
  | some (.val d) => .ok d
  | some (.own d) => .ok d
  | some (.bor d) => .ok d
  | _ => .stuck
theorem r_rV : rVar i Γ = rVK Γ[i]? := by unfold rVar rVK; rfl
theorem r_rVv : rVK (some (.val d)) = .ok d := rfl
theorem r_rVo : rVK (some (.own d)) = .ok d := rfl
theorem r_rVb : rVK (some (.bor d)) = .ok d := rfl
def eVK : Option Sl → R O
  | some (.val d) => .ok (.v d)
  | _ => .stuck
theorem r_eV : eVar i Γ = eVK Γ[i]? := by unfold eVar eVK; rfl
theorem r_eVv : eVK (some (.val d)) = .ok (.v d) := rfl
def uVK : Option Sl → R Sl
  | some (.val d) => .ok (.val d)
  | some (.own d) => .ok (.bor d)
  | some (.bor d) => .ok (.bor d)
  | _ => .stuck
theorem r_uV : uVar i Γ = uVK Γ[i]? := by unfold uVar uVK; rfl
theorem r_uVv : uVK (some (.val d)) = .ok (.val d) := rfl
theorem r_uVo : uVK (some (.own d)) = .ok (.bor d) := rfl
theorem r_uVb : uVK (some (.bor d)) = .ok (.bor d) := rfl
def uVlK (d : D) : R Sl := .ok (.val d)
theorem r_uVl {f : Gm → R D} : uVal f Γ = (f Γ).bind uVlK := rfl
theorem r_uVlK : uVlK d = .ok (.val d) := rfl
def consK (a : α) (as : List α) : R (List α) := .ok (a :: as)
def sqK (r : List (Gm → R α)) (Γ : Gm) (a : α) : R (List α) := (seqR r Γ).bind (consK a)
theorem r_sq0 : seqR ([] : List (Gm → R α)) Γ = .ok [] := rfl
theorem r_sq {f : Gm → R α} {r : List (Gm → R α)} : seqR (f :: r) Γ = (f Γ).bind (sqK r Γ) := rfl
theorem r_sqK {r : List (Gm → R α)} {a : α} : sqK r Γ a = (seqR r Γ).bind (consK a) := rfl
theorem r_consK {a : α} {as : List α} : consK a as = .ok (a :: as) := rfl
def opJ (op : D → D → Option O) (a b : D) : R O := R.of (op a b)
def opK (op : D → D → Option O) (fb : Gm → R D) (Γ : Gm) (a : D) : R O := (fb Γ).bind (opJ op a)
theorem r_e2 {op : D → D → Option O} {fa fb : Gm → R D} : e2 op fa fb Γ = (fa Γ).bind (opK op fb Γ) := rfl
theorem r_opK {op : D → D → Option O} {fb : Gm → R D} {a : D} : opK op fb Γ a = (fb Γ).bind (opJ op a) := rfl
theorem r_opJ {op : D → D → Option O} {a b : D} : opJ op a b = R.of (op a b) := rfl
def chM (op' : D → D → Option O) (fc : Gm → R D) (Γ : Gm) (b : D) : Option O → R O
  | some (.v (.bl true)) => (fc Γ).bind (opJ op' b)
  | some (.v (.bl false)) => .ok (.v (.bl false))
  | _ => .stuck
def chJ (op op' : D → D → Option O) (fc : Gm → R D) (Γ : Gm) (a b : D) : R O := chM op' fc Γ b (op a b)
def chK (op op' : D → D → Option O) (fb fc : Gm → R D) (Γ : Gm) (a : D) : R O := (fb Γ).bind (chJ op op' fc Γ a)
theorem r_e3 {op op' : D → D → Option O} {fa fb fc : Gm → R D} : e3 op op' fa fb fc Γ = (fa Γ).bind (chK op op' fb fc Γ) := by
  unfold e3
  congr 1
theorem r_chK {op op' : D → D → Option O} {fb fc : Gm → R D} {a : D} : chK op op' fb fc Γ a = (fb Γ).bind (chJ op op' fc Γ a) := rfl
theorem r_chJ {op op' : D → D → Option O} {fc : Gm → R D} {a b : D} : chJ op op' fc Γ a b = chM op' fc Γ b (op a b) := rfl
theorem r_chT {op' : D → D → Option O} {fc : Gm → R D} {b : D} : chM op' fc Γ b (some (.v (.bl true))) = (fc Γ).bind (opJ op' b) := rfl
theorem r_chF {op' : D → D → Option O} {fc : Gm → R D} {b : D} : chM op' fc Γ b (some (.v (.bl false))) = .ok (.v (.bl false)) := rfl
def clK (f : List D → Option O) (ds : List D) : R O := R.of (f ds)
theorem r_call {f : List D → Option O} {fa : Gm → R (List D)} : eCall f fa Γ = (fa Γ).bind (clK f) := rfl
theorem r_clK {f : List D → Option O} : clK f ds = R.of (f ds) := rfl
theorem r_user {φ : List Sl → R O} {fa : Gm → R (List Sl)} : eUser φ fa Γ = (fa Γ).bind φ := rfl
def ntK (d : D) : R O := (R.of (truD d)).bind fun k => .ok (.v (.bl (!k)))
theorem r_enot {f : Gm → R D} : eNot f Γ = (f Γ).bind ntK := rfl
theorem r_ntK : ntK d = (R.of (truD d)).bind fun k => .ok (.v (.bl (!k))) := rfl
def ngK : D → R O
  | .int i => .ok (.v (.int (-i)))
  | _ => .stuck
theorem r_eneg {f : Gm → R D} : eNeg f Γ = (f Γ).bind ngK := rfl
theorem r_ngK {i : Int} : ngK (.int i) = .ok (.v (.int (-i))) := rfl
def tpK (ds : List D) : R O := if ds.length ≤ line then .ok (.v (.tup ds)) else .stuck
theorem r_tup {f : Gm → R (List D)} : eTup f Γ = (f Γ).bind tpK := rfl
theorem r_tpK : tpK ds = if ds.length ≤ 16777216 then .ok (.v (.tup ds)) else .stuck := rfl
def lsK (ds : List D) : R O := if ds.length ≤ line then .ok (.o (.lst ds)) else .stuck
theorem r_lst {f : Gm → R (List D)} : eLst f Γ = (f Γ).bind lsK := rfl
theorem r_lsK : lsK ds = if ds.length ≤ 16777216 then .ok (.o (.lst ds)) else .stuck := rfl
def slI (a : D) (lo hi : Option Int) : R O := R.of (dSl a lo hi)
def slJ (fh : Gm → R (Option Int)) (Γ : Gm) (a : D) (lo : Option Int) : R O := (fh Γ).bind (slI a lo)
def slK (fl fh : Gm → R (Option Int)) (Γ : Gm) (a : D) : R O := (fl Γ).bind (slJ fh Γ a)
theorem r_sl {fa : Gm → R D} {fl fh : Gm → R (Option Int)} : eSl fa fl fh Γ = (fa Γ).bind (slK fl fh Γ) := rfl
theorem r_slK {fl fh : Gm → R (Option Int)} {a : D} : slK fl fh Γ a = (fl Γ).bind (slJ fh Γ a) := rfl
theorem r_slJ {fh : Gm → R (Option Int)} {a : D} {lo : Option Int} : slJ fh Γ a lo = (fh Γ).bind (slI a lo) := rfl
theorem r_slI {a : D} {lo hi : Option Int} : slI a lo hi = R.of (dSl a lo hi) := rfl
theorem r_slL {lo hi : Option Int} : dSl (.lst ds) lo hi = some (.o (.lst (cutG ds lo hi))) := rfl
theorem r_slT {lo hi : Option Int} : dSl (.tup ds) lo hi = some (.v (.tup (cutG ds lo hi))) := rfl
theorem r_noP : noPart Γ = .ok none := rfl
def aPK : D → R (Option Int)
  | .int i => .ok (some i)
  | _ => .stuck
theorem r_aP {f : Gm → R D} : aPart f Γ = (f Γ).bind aPK := rfl
theorem r_aPK {i : Int} : aPK (.int i) = .ok (some i) := rfl
theorem r_iOf {φ : List D → R (List D)} {f : Gm → R (List D)} : iOf φ f Γ = (f Γ).bind φ := rfl
theorem r_iF {f : Gm → R D} : iF f Γ = (f Γ).bind seqD := rfl
theorem r_sqL : seqD (.lst ds) = .ok ds := rfl
theorem r_sqT : seqD (.tup ds) = .ok ds := rfl
theorem r_sqS {ns : List Int} : seqD (.scr ns) = .ok (ns.map D.int) := rfl
def backK : D → R O
  | .lst ds => .ok (.o (.lst ds.reverse))
  | .tup ds => .ok (.v (.tup ds.reverse))
  | _ => .stuck
theorem r_def {m : Nat} {as : List Sl} : defF m s as = (s (as ++ List.replicate m .un)).bind retO := rfl
theorem r_rtR {o : O} : retO (.rt o) = .ok o := rfl
theorem r_rtN : retO (.nx Γ) = .ok (.v .non) := rfl
def rfK (word : Str → Option Str) : R O → R O
  | .ok _ => .ok (.v (.str "told"))
  | .err n => match word n with
    | some w => .ok (.v (.str w))
    | none => .stuck
  | .stuck => .stuck
theorem r_ref {word : Str → Option Str} : eRef word f Γ = rfK word (f Γ) := by unfold eRef rfK; rfl
theorem r_refO {word : Str → Option Str} {o : O} : rfK word (.ok o) = .ok (.v (.str "told")) := rfl
def wdK : Option Str → R O
  | some w => .ok (.v (.str w))
  | none => .stuck
theorem r_refE {word : Str → Option Str} {n : Str} : rfK word (.err n) = wdK (word n) := by
  show (match word n with
    | some w => R.ok (O.v (D.str w))
    | none => R.stuck) = _
  cases word n <;> rfl
theorem r_wdK {w : Str} : wdK (some w) = .ok (.v (.str w)) := rfl
theorem r_bAdd {a b : D} : dBin .Add a b = dAdd a b := rfl
theorem r_bSub {a b : D} : dBin .Sub a b = dSub a b := rfl
theorem r_bMul {a b : D} : dBin .Mult a b = dMul a b := rfl
theorem r_bDiv {a b : D} : dBin .FloorDiv a b = dDiv a b := rfl
theorem r_bMod {a b : D} : dBin .Mod a b = dMod a b := rfl
theorem r_bPow {a b : D} : dBin .Pow a b = dPow a b := rfl
theorem r_cLt {a b : D} : dCmp .Lt a b = dLt a b := rfl
theorem r_cLe {a b : D} : dCmp .LtE a b = dLe a b := rfl
theorem r_cGt {a b : D} : dCmp .Gt a b = dGt a b := rfl
theorem r_cGe {a b : D} : dCmp .GtE a b = dGe a b := rfl
theorem r_cEq {a b : D} : dCmp .Eq a b = dEq a b := rfl
theorem r_cNe {a b : D} : dCmp .NotEq a b = dNe a b := rfl
theorem r_ixL {i : Int} : dIx (.lst ds) (.int i) = (atI ds i).map .v := rfl
theorem r_ixT {i : Int} : dIx (.tup ds) (.int i) = (atI ds i).map .v := rfl
theorem r_of {a : α} : R.of (some a) = .ok a := rfl
theorem r_lenL : fLen [.lst ds] = some (.v (.int ds.length)) := rfl
theorem r_lenT : fLen [.tup ds] = some (.v (.int ds.length)) := rfl
theorem r_lenS {ns : List Int} : fLen [.scr ns] = some (.v (.int ns.length)) := rfl
end
end Pd

set_option Elab.async false
set_option linter.all false
set_option maxRecDepth 100000
set_option maxHeartbeats 1000000
namespace Pd
open PySem PySem.Spec L2

def isInt (r : R O) (n : Int) : Bool := match r with
  | .ok (.v (.int i)) => i == n
  | _ => false
def isErr (r : R O) (n : Str) : Bool := match r with
  | .err m => m == n
  | _ => false
def nD (l : List Nat) : List D := l.map fun n : Nat => D.int (n : Int)
def iD (l : List Int) : List D := l.map D.int
theorem intsOf_iD : ∀ l : List Int, intsOf (iD l) = some l
  | [] => rfl
  | n :: l => by
    show (intsOf (iD l)).map (fun ns => n :: ns) = _
    rw [intsOf_iD l]
    rfl
theorem rngD_map : ∀ (n : Nat) (lo : Int), rngD lo n = (List.range n).map fun i => .int (lo + i)
  | 0, _ => rfl
  | n + 1, lo => by
    rw [rngD, rngD_map n, List.range_succ_eq_map, List.map_cons, List.map_map]
    refine congr (congrArg _ ?_) (List.map_congr_left fun i _ => ?_)
    · show D.int lo = .int (lo + 0)
      rw [Int.add_zero]
    · show D.int (lo + 1 + i) = .int (lo + ((i + 1 : Nat) : Int))
      rw [Int.natCast_add]
      congr 1
      omega
theorem rngD_0 (n : Nat) : rngD 0 n = nD (List.range n) := by
  rw [rngD_map]
  exact List.map_congr_left fun i _ => by rw [Int.zero_add]
theorem mem_nD {l : List Nat} {d : D} : d ∈ nD l ↔ ∃ n ∈ l, d = .int n := by
  unfold nD
  rw [List.mem_map]
  exact ⟨fun ⟨n, a, b⟩ => ⟨n, a, b.symm⟩, fun ⟨n, a, b⟩ => ⟨n, a, b.symm⟩⟩
theorem for_mem (t : Nat) (f : Gm → R Out) (P : Gm → Prop) : ∀ (ds : List D) (h : ∀ Γ d, d ∈ ds → P Γ → ∃ Γ', f (Γ.set t (.val d)) = .ok (.nx Γ') ∧ P Γ') (Γ : Gm), P Γ → ∃ Γ', forR (.nm t) f ds Γ = .ok (.nx Γ') ∧ P Γ' := by
  intro ds
  induction ds with
  | nil => intro _ Γ p; exact ⟨Γ, by rw [forR], p⟩
  | cons d r ih =>
    intro h Γ p
    obtain ⟨Γ1, e1, p1⟩ := h Γ d (List.mem_cons_self ..) p
    obtain ⟨Γ2, e2, p2⟩ := ih (fun Γ d m => h Γ d (List.mem_cons_of_mem _ m)) Γ1 p1
    refine ⟨Γ2, ?_, p2⟩
    rw [forR, Tg.fn, noE_ok', R.bind_ok, e1, R.bind_ok]
    exact e2
theorem atI_get' {α : Type} {xs : List α} {k : Nat} (h : k < xs.length) : atI xs (k : Int) = some xs[k] := L2.atI_nat (List.getElem?_eq_getElem h)
theorem lc_of {α : Type} {fi : Gm → R (List D)} {i : Nat} {te : Gm → R D} {vs : List Nat} {Γ : Gm} {l : List α} {φ : α → D} (g : α → D) (e : fi Γ = .ok (l.map φ)) (h : ∀ a ∈ l, te ((wipeG Γ vs).set i (.val (φ a))) = .ok (g a)) : eLc fi (.nm i) (fun _ => .ok true) te vs Γ = .ok (.o (.lst (l.map g))) := by
  have : ∀ (r : List α), (∀ a ∈ r, te ((wipeG Γ vs).set i (.val (φ a))) = .ok (g a)) → lcGo (.nm i) (fun _ => .ok true) te (wipeG Γ vs) (r.map φ) = .ok (r.map g) := by
    intro r
    induction r with
    | nil => intro _; rfl
    | cons d r ih =>
      intro h
      rw [List.map_cons, lcGo, Tg.fn, noE_ok', R.bind_ok, noE_ok', R.bind_ok, if_pos rfl, h d (List.mem_cons_self ..), noE_ok', R.bind_ok, ih fun d m => h d (List.mem_cons_of_mem _ m), R.bind_ok]
      rfl
  unfold eLc
  rw [e, R.bind_ok, this l h, noE_ok', R.bind_ok]
def p_number : Gm → R Out := sSeq (sRet (vAndF [eCall fIsi (seqR [rVar 0, rd (eC (.ty "int"))]), eNot (rd (eCall fIsi (seqR [rVar 0, rd (eC (.ty "bool"))]))), e3 (dCmp .LtE) (dCmp .LtE) (rVar 1) (rVar 0) (rVar 2)]))
  (sNext)
def numberD : List Sl → R O := defF 0 p_number
def p_need : Gm → R Out := sSeq (sIf (tNotF (tTru (rd (eUser numberD (seqR [uVar 0, uVar 1, uVar 2]))))) (sSeq ((fun _ => .err "NoNumber"))
  (sNext)) (sNext))
  (sNext)
def needD : List Sl → R O := defF 0 p_need
def isNum : D → Int → Int → Bool
  | .int x, a, b => decide (a ≤ x) && decide (x ≤ b)
  | _, _, _ => false
def plainD : D → Bool
  | .set _ => false
  | .ref _ => false
  | .ty _ => false
  | _ => true
theorem isi_int_int (n : Int) : fIsi [.int n, .ty "int"] = some (.v (.bl true)) := rfl
theorem isi_int_bool (n : Int) : fIsi [.int n, .ty "bool"] = some (.v (.bl false)) := rfl
theorem isi_bl_int (n : Bool) : fIsi [.bl n, .ty "int"] = some (.v (.bl true)) := rfl
theorem isi_bl_bool (n : Bool) : fIsi [.bl n, .ty "bool"] = some (.v (.bl true)) := rfl
def isIB : D → Bool
  | .int _ => true
  | .bl _ => true
  | _ => false
theorem isi_int_of {d : D} (h : plainD d = true) : fIsi [d, .ty "int"] = some (.v (.bl (isIB d))) := by
  cases d <;> first | rfl | cases h
theorem number_v {d : D} (a b : Int) (hp : plainD d = true) : numberD [.val d, .val (.int a), .val (.int b)] = .ok (.v (.bl (isNum d a b))) := by
  unfold numberD p_number
  cases d with
  | int x =>
    by_cases h : a ≤ x
    · simp (implicitDefEqProofs := false) (disch := omega) only [↓r_seq, ↓r_next, ↓r_if, ↓r_eif, ↓r_set, ↓r_ret, ↓r_retV, ↓r_expr, ↓r_asg, ↓r_par, ↓r_app, ↓r_ext, ↓r_sto, ↓r_or1, ↓r_or, ↓r_and1, ↓r_and, ↓r_vor1, ↓r_vor, ↓r_vand1, ↓r_vand, ↓r_not, ↓r_tru, ↓r_isB, ↓r_eC, ↓r_rd, ↓r_vl, ↓r_rV, ↓r_eV, ↓r_uV, ↓r_uVl, ↓r_sq0, ↓r_sq, ↓r_e2, ↓r_e3, ↓r_call, ↓r_user, ↓r_enot, ↓r_eneg, ↓r_tup, ↓r_lst, ↓r_sl, ↓r_noP, ↓r_aP, ↓r_iOf, ↓r_iF, ↓r_def, ↓r_ref, r_seqNx, r_seqRt, r_seqBk, r_seqCt, r_ifT, r_ifF, r_setV, r_setOt, r_setOl, r_setOd, r_setOs, r_retK, r_retVv, r_retVo, r_asgK, r_tgN, r_tgT, r_tgL, r_tgs0, r_tgs, r_parK, r_ownL, r_ownLo, r_ownD, r_ownDo, r_appK, r_appJ, r_extK, r_extJ, r_stoK, r_stoI, r_stoJ, r_stoL, r_orT, r_orF, r_andT, r_andF, r_vorK, r_vorT, r_vorF, r_vandK, r_vandT, r_vandF, r_notK, r_truK, r_truB, r_truI, r_truL, r_truT, r_truN, r_isBK, r_rdV, r_rdO, r_dV, r_dO, r_valV, r_valL, r_valD, r_rVv, r_rVo, r_rVb, r_eVv, r_uVv, r_uVo, r_uVb, r_uVlK, r_sqK, r_consK, r_opK, r_opJ, r_chK, r_chJ, r_chT, r_chF, r_clK, r_ntK, r_ngK, r_tpK, r_lsK, r_slK, r_slJ, r_slI, r_slL, r_slT, r_aPK, r_sqL, r_sqT, r_sqS, r_rtR, r_rtN, r_refO, r_refE, r_wdK, r_bAdd, r_bSub, r_bMul, r_bDiv, r_bMod, r_bPow, r_cLt, r_cLe, r_cGt, r_cGe, r_cEq, r_cNe, r_ixL, r_ixT, r_of, r_lenL, r_lenT, r_lenS, Pd.R.bind_ok, Pd.R.bind_err, Pd.R.bind_stuck, noE_ok', mul_r, div_i, mod_i, add_i, sub_i, lt_i, le_i, gt_i, ge_i, eq_i, ne_i, pow18, List.cons_append, List.nil_append, List.getElem?_cons_zero, List.getElem?_cons_succ, List.replicate_succ, List.replicate_zero, List.set_cons_zero, List.set_cons_succ, List.length_cons, List.length_nil, if_true, if_false, Bool.not_true, Bool.not_false, Bool.false_eq_true, ↓reduceIte, Nat.reduceAdd, Nat.reduceLeDiff, Nat.reduceLT, Nat.zero_add, Option.map_some, Int.cast_ofNat_Int, Int.natCast_one, Int.natCast_zero, Int.reduceBEq, Int.reduceLT, Int.reduceLE, Int.reduceAdd, Int.reduceSub, Int.reduceMul, Int.reduceNeg, Int.reduceDiv, Int.reduceMod, decide_true, decide_false, isi_int_int, isi_int_bool, h, decide_true, isNum, Bool.true_and]
    · simp (implicitDefEqProofs := false) (disch := omega) only [↓r_seq, ↓r_next, ↓r_if, ↓r_eif, ↓r_set, ↓r_ret, ↓r_retV, ↓r_expr, ↓r_asg, ↓r_par, ↓r_app, ↓r_ext, ↓r_sto, ↓r_or1, ↓r_or, ↓r_and1, ↓r_and, ↓r_vor1, ↓r_vor, ↓r_vand1, ↓r_vand, ↓r_not, ↓r_tru, ↓r_isB, ↓r_eC, ↓r_rd, ↓r_vl, ↓r_rV, ↓r_eV, ↓r_uV, ↓r_uVl, ↓r_sq0, ↓r_sq, ↓r_e2, ↓r_e3, ↓r_call, ↓r_user, ↓r_enot, ↓r_eneg, ↓r_tup, ↓r_lst, ↓r_sl, ↓r_noP, ↓r_aP, ↓r_iOf, ↓r_iF, ↓r_def, ↓r_ref, r_seqNx, r_seqRt, r_seqBk, r_seqCt, r_ifT, r_ifF, r_setV, r_setOt, r_setOl, r_setOd, r_setOs, r_retK, r_retVv, r_retVo, r_asgK, r_tgN, r_tgT, r_tgL, r_tgs0, r_tgs, r_parK, r_ownL, r_ownLo, r_ownD, r_ownDo, r_appK, r_appJ, r_extK, r_extJ, r_stoK, r_stoI, r_stoJ, r_stoL, r_orT, r_orF, r_andT, r_andF, r_vorK, r_vorT, r_vorF, r_vandK, r_vandT, r_vandF, r_notK, r_truK, r_truB, r_truI, r_truL, r_truT, r_truN, r_isBK, r_rdV, r_rdO, r_dV, r_dO, r_valV, r_valL, r_valD, r_rVv, r_rVo, r_rVb, r_eVv, r_uVv, r_uVo, r_uVb, r_uVlK, r_sqK, r_consK, r_opK, r_opJ, r_chK, r_chJ, r_chT, r_chF, r_clK, r_ntK, r_ngK, r_tpK, r_lsK, r_slK, r_slJ, r_slI, r_slL, r_slT, r_aPK, r_sqL, r_sqT, r_sqS, r_rtR, r_rtN, r_refO, r_refE, r_wdK, r_bAdd, r_bSub, r_bMul, r_bDiv, r_bMod, r_bPow, r_cLt, r_cLe, r_cGt, r_cGe, r_cEq, r_cNe, r_ixL, r_ixT, r_of, r_lenL, r_lenT, r_lenS, Pd.R.bind_ok, Pd.R.bind_err, Pd.R.bind_stuck, noE_ok', mul_r, div_i, mod_i, add_i, sub_i, lt_i, le_i, gt_i, ge_i, eq_i, ne_i, pow18, List.cons_append, List.nil_append, List.getElem?_cons_zero, List.getElem?_cons_succ, List.replicate_succ, List.replicate_zero, List.set_cons_zero, List.set_cons_succ, List.length_cons, List.length_nil, if_true, if_false, Bool.not_true, Bool.not_false, Bool.false_eq_true, ↓reduceIte, Nat.reduceAdd, Nat.reduceLeDiff, Nat.reduceLT, Nat.zero_add, Option.map_some, Int.cast_ofNat_Int, Int.natCast_one, Int.natCast_zero, Int.reduceBEq, Int.reduceLT, Int.reduceLE, Int.reduceAdd, Int.reduceSub, Int.reduceMul, Int.reduceNeg, Int.reduceDiv, Int.reduceMod, decide_true, decide_false, isi_int_int, isi_int_bool, h, decide_false, isNum, Bool.false_and]
  | bl x => simp (implicitDefEqProofs := false) (disch := omega) only [↓r_seq, ↓r_next, ↓r_if, ↓r_eif, ↓r_set, ↓r_ret, ↓r_retV, ↓r_expr, ↓r_asg, ↓r_par, ↓r_app, ↓r_ext, ↓r_sto, ↓r_or1, ↓r_or, ↓r_and1, ↓r_and, ↓r_vor1, ↓r_vor, ↓r_vand1, ↓r_vand, ↓r_not, ↓r_tru, ↓r_isB, ↓r_eC, ↓r_rd, ↓r_vl, ↓r_rV, ↓r_eV, ↓r_uV, ↓r_uVl, ↓r_sq0, ↓r_sq, ↓r_e2, ↓r_e3, ↓r_call, ↓r_user, ↓r_enot, ↓r_eneg, ↓r_tup, ↓r_lst, ↓r_sl, ↓r_noP, ↓r_aP, ↓r_iOf, ↓r_iF, ↓r_def, ↓r_ref, r_seqNx, r_seqRt, r_seqBk, r_seqCt, r_ifT, r_ifF, r_setV, r_setOt, r_setOl, r_setOd, r_setOs, r_retK, r_retVv, r_retVo, r_asgK, r_tgN, r_tgT, r_tgL, r_tgs0, r_tgs, r_parK, r_ownL, r_ownLo, r_ownD, r_ownDo, r_appK, r_appJ, r_extK, r_extJ, r_stoK, r_stoI, r_stoJ, r_stoL, r_orT, r_orF, r_andT, r_andF, r_vorK, r_vorT, r_vorF, r_vandK, r_vandT, r_vandF, r_notK, r_truK, r_truB, r_truI, r_truL, r_truT, r_truN, r_isBK, r_rdV, r_rdO, r_dV, r_dO, r_valV, r_valL, r_valD, r_rVv, r_rVo, r_rVb, r_eVv, r_uVv, r_uVo, r_uVb, r_uVlK, r_sqK, r_consK, r_opK, r_opJ, r_chK, r_chJ, r_chT, r_chF, r_clK, r_ntK, r_ngK, r_tpK, r_lsK, r_slK, r_slJ, r_slI, r_slL, r_slT, r_aPK, r_sqL, r_sqT, r_sqS, r_rtR, r_rtN, r_refO, r_refE, r_wdK, r_bAdd, r_bSub, r_bMul, r_bDiv, r_bMod, r_bPow, r_cLt, r_cLe, r_cGt, r_cGe, r_cEq, r_cNe, r_ixL, r_ixT, r_of, r_lenL, r_lenT, r_lenS, Pd.R.bind_ok, Pd.R.bind_err, Pd.R.bind_stuck, noE_ok', mul_r, div_i, mod_i, add_i, sub_i, lt_i, le_i, gt_i, ge_i, eq_i, ne_i, pow18, List.cons_append, List.nil_append, List.getElem?_cons_zero, List.getElem?_cons_succ, List.replicate_succ, List.replicate_zero, List.set_cons_zero, List.set_cons_succ, List.length_cons, List.length_nil, if_true, if_false, Bool.not_true, Bool.not_false, Bool.false_eq_true, ↓reduceIte, Nat.reduceAdd, Nat.reduceLeDiff, Nat.reduceLT, Nat.zero_add, Option.map_some, Int.cast_ofNat_Int, Int.natCast_one, Int.natCast_zero, Int.reduceBEq, Int.reduceLT, Int.reduceLE, Int.reduceAdd, Int.reduceSub, Int.reduceMul, Int.reduceNeg, Int.reduceDiv, Int.reduceMod, decide_true, decide_false, isi_bl_int, isi_bl_bool, isNum]
  | set _ => cases hp
  | ref _ => cases hp
  | ty _ => cases hp
  | _ => simp (implicitDefEqProofs := false) (disch := omega) only [↓r_seq, ↓r_next, ↓r_if, ↓r_eif, ↓r_set, ↓r_ret, ↓r_retV, ↓r_expr, ↓r_asg, ↓r_par, ↓r_app, ↓r_ext, ↓r_sto, ↓r_or1, ↓r_or, ↓r_and1, ↓r_and, ↓r_vor1, ↓r_vor, ↓r_vand1, ↓r_vand, ↓r_not, ↓r_tru, ↓r_isB, ↓r_eC, ↓r_rd, ↓r_vl, ↓r_rV, ↓r_eV, ↓r_uV, ↓r_uVl, ↓r_sq0, ↓r_sq, ↓r_e2, ↓r_e3, ↓r_call, ↓r_user, ↓r_enot, ↓r_eneg, ↓r_tup, ↓r_lst, ↓r_sl, ↓r_noP, ↓r_aP, ↓r_iOf, ↓r_iF, ↓r_def, ↓r_ref, r_seqNx, r_seqRt, r_seqBk, r_seqCt, r_ifT, r_ifF, r_setV, r_setOt, r_setOl, r_setOd, r_setOs, r_retK, r_retVv, r_retVo, r_asgK, r_tgN, r_tgT, r_tgL, r_tgs0, r_tgs, r_parK, r_ownL, r_ownLo, r_ownD, r_ownDo, r_appK, r_appJ, r_extK, r_extJ, r_stoK, r_stoI, r_stoJ, r_stoL, r_orT, r_orF, r_andT, r_andF, r_vorK, r_vorT, r_vorF, r_vandK, r_vandT, r_vandF, r_notK, r_truK, r_truB, r_truI, r_truL, r_truT, r_truN, r_isBK, r_rdV, r_rdO, r_dV, r_dO, r_valV, r_valL, r_valD, r_rVv, r_rVo, r_rVb, r_eVv, r_uVv, r_uVo, r_uVb, r_uVlK, r_sqK, r_consK, r_opK, r_opJ, r_chK, r_chJ, r_chT, r_chF, r_clK, r_ntK, r_ngK, r_tpK, r_lsK, r_slK, r_slJ, r_slI, r_slL, r_slT, r_aPK, r_sqL, r_sqT, r_sqS, r_rtR, r_rtN, r_refO, r_refE, r_wdK, r_bAdd, r_bSub, r_bMul, r_bDiv, r_bMod, r_bPow, r_cLt, r_cLe, r_cGt, r_cGe, r_cEq, r_cNe, r_ixL, r_ixT, r_of, r_lenL, r_lenT, r_lenS, Pd.R.bind_ok, Pd.R.bind_err, Pd.R.bind_stuck, noE_ok', mul_r, div_i, mod_i, add_i, sub_i, lt_i, le_i, gt_i, ge_i, eq_i, ne_i, pow18, List.cons_append, List.nil_append, List.getElem?_cons_zero, List.getElem?_cons_succ, List.replicate_succ, List.replicate_zero, List.set_cons_zero, List.set_cons_succ, List.length_cons, List.length_nil, if_true, if_false, Bool.not_true, Bool.not_false, Bool.false_eq_true, ↓reduceIte, Nat.reduceAdd, Nat.reduceLeDiff, Nat.reduceLT, Nat.zero_add, Option.map_some, Int.cast_ofNat_Int, Int.natCast_one, Int.natCast_zero, Int.reduceBEq, Int.reduceLT, Int.reduceLE, Int.reduceAdd, Int.reduceSub, Int.reduceMul, Int.reduceNeg, Int.reduceDiv, Int.reduceMod, decide_true, decide_false, isi_int_of hp, isIB, isNum]
def p_cell : Gm → R Out := sSeq (sIf (isB (e2 (dCmp .Lt) (rVar 1) (rd (eCall fLen (seqR [rVar 0]))))) (sSeq (sRet (e2 dIx (rVar 0) (rVar 1)))
  (sNext)) (sNext))
  (sSeq (sRet (eC (.int 0)))
  (sNext))
def cellD : List Sl → R O := defF 0 p_cell
theorem cell_v (ns : List Int) (k : Nat) : ∃ c : Int, cellD [.val (.scr ns), .val (.int k)] = .ok (.v (.int c)) := by
  by_cases h : k < ns.length
  · refine ⟨ns[k], ?_⟩
    have h1 : ((k : Int) < (ns.length : Int)) := by omega
    unfold cellD p_cell
    simp (implicitDefEqProofs := false) (disch := omega) only [↓r_seq, ↓r_next, ↓r_if, ↓r_eif, ↓r_set, ↓r_ret, ↓r_retV, ↓r_expr, ↓r_asg, ↓r_par, ↓r_app, ↓r_ext, ↓r_sto, ↓r_or1, ↓r_or, ↓r_and1, ↓r_and, ↓r_vor1, ↓r_vor, ↓r_vand1, ↓r_vand, ↓r_not, ↓r_tru, ↓r_isB, ↓r_eC, ↓r_rd, ↓r_vl, ↓r_rV, ↓r_eV, ↓r_uV, ↓r_uVl, ↓r_sq0, ↓r_sq, ↓r_e2, ↓r_e3, ↓r_call, ↓r_user, ↓r_enot, ↓r_eneg, ↓r_tup, ↓r_lst, ↓r_sl, ↓r_noP, ↓r_aP, ↓r_iOf, ↓r_iF, ↓r_def, ↓r_ref, r_seqNx, r_seqRt, r_seqBk, r_seqCt, r_ifT, r_ifF, r_setV, r_setOt, r_setOl, r_setOd, r_setOs, r_retK, r_retVv, r_retVo, r_asgK, r_tgN, r_tgT, r_tgL, r_tgs0, r_tgs, r_parK, r_ownL, r_ownLo, r_ownD, r_ownDo, r_appK, r_appJ, r_extK, r_extJ, r_stoK, r_stoI, r_stoJ, r_stoL, r_orT, r_orF, r_andT, r_andF, r_vorK, r_vorT, r_vorF, r_vandK, r_vandT, r_vandF, r_notK, r_truK, r_truB, r_truI, r_truL, r_truT, r_truN, r_isBK, r_rdV, r_rdO, r_dV, r_dO, r_valV, r_valL, r_valD, r_rVv, r_rVo, r_rVb, r_eVv, r_uVv, r_uVo, r_uVb, r_uVlK, r_sqK, r_consK, r_opK, r_opJ, r_chK, r_chJ, r_chT, r_chF, r_clK, r_ntK, r_ngK, r_tpK, r_lsK, r_slK, r_slJ, r_slI, r_slL, r_slT, r_aPK, r_sqL, r_sqT, r_sqS, r_rtR, r_rtN, r_refO, r_refE, r_wdK, r_bAdd, r_bSub, r_bMul, r_bDiv, r_bMod, r_bPow, r_cLt, r_cLe, r_cGt, r_cGe, r_cEq, r_cNe, r_ixL, r_ixT, r_of, r_lenL, r_lenT, r_lenS, Pd.R.bind_ok, Pd.R.bind_err, Pd.R.bind_stuck, noE_ok', mul_r, div_i, mod_i, add_i, sub_i, lt_i, le_i, gt_i, ge_i, eq_i, ne_i, pow18, List.cons_append, List.nil_append, List.getElem?_cons_zero, List.getElem?_cons_succ, List.replicate_succ, List.replicate_zero, List.set_cons_zero, List.set_cons_succ, List.length_cons, List.length_nil, if_true, if_false, Bool.not_true, Bool.not_false, Bool.false_eq_true, ↓reduceIte, Nat.reduceAdd, Nat.reduceLeDiff, Nat.reduceLT, Nat.zero_add, Option.map_some, Int.cast_ofNat_Int, Int.natCast_one, Int.natCast_zero, Int.reduceBEq, Int.reduceLT, Int.reduceLE, Int.reduceAdd, Int.reduceSub, Int.reduceMul, Int.reduceNeg, Int.reduceDiv, Int.reduceMod, decide_true, decide_false, fLen, h1, decide_true, dIx, atI_get' h, Option.map_some]
  · refine ⟨0, ?_⟩
    have h1 : ¬ ((k : Int) < (ns.length : Int)) := by omega
    unfold cellD p_cell
    simp (implicitDefEqProofs := false) (disch := omega) only [↓r_seq, ↓r_next, ↓r_if, ↓r_eif, ↓r_set, ↓r_ret, ↓r_retV, ↓r_expr, ↓r_asg, ↓r_par, ↓r_app, ↓r_ext, ↓r_sto, ↓r_or1, ↓r_or, ↓r_and1, ↓r_and, ↓r_vor1, ↓r_vor, ↓r_vand1, ↓r_vand, ↓r_not, ↓r_tru, ↓r_isB, ↓r_eC, ↓r_rd, ↓r_vl, ↓r_rV, ↓r_eV, ↓r_uV, ↓r_uVl, ↓r_sq0, ↓r_sq, ↓r_e2, ↓r_e3, ↓r_call, ↓r_user, ↓r_enot, ↓r_eneg, ↓r_tup, ↓r_lst, ↓r_sl, ↓r_noP, ↓r_aP, ↓r_iOf, ↓r_iF, ↓r_def, ↓r_ref, r_seqNx, r_seqRt, r_seqBk, r_seqCt, r_ifT, r_ifF, r_setV, r_setOt, r_setOl, r_setOd, r_setOs, r_retK, r_retVv, r_retVo, r_asgK, r_tgN, r_tgT, r_tgL, r_tgs0, r_tgs, r_parK, r_ownL, r_ownLo, r_ownD, r_ownDo, r_appK, r_appJ, r_extK, r_extJ, r_stoK, r_stoI, r_stoJ, r_stoL, r_orT, r_orF, r_andT, r_andF, r_vorK, r_vorT, r_vorF, r_vandK, r_vandT, r_vandF, r_notK, r_truK, r_truB, r_truI, r_truL, r_truT, r_truN, r_isBK, r_rdV, r_rdO, r_dV, r_dO, r_valV, r_valL, r_valD, r_rVv, r_rVo, r_rVb, r_eVv, r_uVv, r_uVo, r_uVb, r_uVlK, r_sqK, r_consK, r_opK, r_opJ, r_chK, r_chJ, r_chT, r_chF, r_clK, r_ntK, r_ngK, r_tpK, r_lsK, r_slK, r_slJ, r_slI, r_slL, r_slT, r_aPK, r_sqL, r_sqT, r_sqS, r_rtR, r_rtN, r_refO, r_refE, r_wdK, r_bAdd, r_bSub, r_bMul, r_bDiv, r_bMod, r_bPow, r_cLt, r_cLe, r_cGt, r_cGe, r_cEq, r_cNe, r_ixL, r_ixT, r_of, r_lenL, r_lenT, r_lenS, Pd.R.bind_ok, Pd.R.bind_err, Pd.R.bind_stuck, noE_ok', mul_r, div_i, mod_i, add_i, sub_i, lt_i, le_i, gt_i, ge_i, eq_i, ne_i, pow18, List.cons_append, List.nil_append, List.getElem?_cons_zero, List.getElem?_cons_succ, List.replicate_succ, List.replicate_zero, List.set_cons_zero, List.set_cons_succ, List.length_cons, List.length_nil, if_true, if_false, Bool.not_true, Bool.not_false, Bool.false_eq_true, ↓reduceIte, Nat.reduceAdd, Nat.reduceLeDiff, Nat.reduceLT, Nat.zero_add, Option.map_some, Int.cast_ofNat_Int, Int.natCast_one, Int.natCast_zero, Int.reduceBEq, Int.reduceLT, Int.reduceLE, Int.reduceAdd, Int.reduceSub, Int.reduceMul, Int.reduceNeg, Int.reduceDiv, Int.reduceMod, decide_true, decide_false, fLen, h1, decide_false]

def p_draw : List Sl → R O := defF 3 (sSeq gHead gTail)
def p_odd : Gm → R Out := sSeq (sSet false 4 (eLst (seqR [vl (e2 (dBin .Sub) (rVar 2) (rd (eC (.int 1)))), vl (e2 (dBin .Add) (rVar 3) (rd (eC (.int 1)))), vl (eC (.bl true)), vl (eC (.bl false)), vl (eC .non), vl (eCall fStr (seqR [rVar 2])), vl (eTup (seqR [vl (eVar 2)])), vl (eLst (seqR [vl (eVar 2)])), vl ((fun _ => .ok (.o (.dct [])))), vl (eNeg (rd (e2 (dBin .Pow) (rd (eC (.int 10))) (rd (eC (.int 28)))))), vl (e2 (dBin .Pow) (rd (eC (.int 10))) (rd (eC (.int 29))))])))
  (sSeq (sRet (e2 dIx (rVar 4) (rd (eUser p_draw (seqR [uVar 0, uVar 1, uVal (vl (eC (.int 11)))])))))
  (sNext))
def oddD : List Sl → R O := defF 1 p_odd
def oddL (least most : Int) : List D := [.int (least - 1), .int (most + 1), .bl true, .bl false, .non, .str (toString least), .tup [.int least], .lst [.int least], .dct [], .int (-10000000000000000000000000000), .int 100000000000000000000000000000]
def Go (r : R Out) (P : Gm → Prop) : Prop := ∃ Γ', r = .ok (.nx Γ') ∧ P Γ'
theorem go_eq {r : R Out} {P : Gm → Prop} {Γ' : Gm} (e : r = .ok (.nx Γ')) (p : P Γ') : Go r P := ⟨Γ', e, p⟩
theorem go_next {P : Gm → Prop} {Γ : Gm} (p : P Γ) : Go (sNext Γ) P := ⟨Γ, rfl, p⟩
theorem go_seq {f g : Gm → R Out} {P : Gm → Prop} {Γ Γ1 : Gm} (e : f Γ = .ok (.nx Γ1)) (h : Go (g Γ1) P) : Go (sSeq f g Γ) P := by
  rw [show sSeq f g Γ = g Γ1 from sSeq_nx e]
  exact h
theorem go_seq' {f g : Gm → R Out} {P : Gm → Prop} (Q : Gm → Prop) {Γ : Gm} (h1 : Go (f Γ) Q) (h : ∀ Γ1, Q Γ1 → Go (g Γ1) P) : Go (sSeq f g Γ) P := by
  obtain ⟨Γ1, e, q⟩ := h1
  exact go_seq e (h Γ1 q)
theorem go_for {fi : Gm → R (List D)} {t : Nat} {b : Gm → R Out} {P : Gm → Prop} {Γ : Gm} {ds : List D} (e : fi Γ = .ok ds) (p : P Γ) (h : ∀ Γ d, d ∈ ds → P Γ → Go (b (Γ.set t (.val d))) P) : Go (sFor fi (.nm t) b Γ) P := by
  rw [show sFor fi (.nm t) b Γ = forR (.nm t) b ds Γ from sFor_eq e]
  exact for_mem t b P ds h Γ p
theorem if_no {c : Gm → R Bool} {f : Gm → R Out} {Γ : Gm} (e : c Γ = .ok false) : sIf c f sNext Γ = .ok (.nx Γ) := sIf_f e
theorem seq_nx {f g : Gm → R Out} {X : R Out} {Γ Γ1 : Gm} (e : f Γ = .ok (.nx Γ1)) (h : g Γ1 = X) : sSeq f g Γ = X := (sSeq_nx e).trans h
theorem seq_go {f g : Gm → R Out} {X : R Out} {Γ : Gm} (Q : Gm → Prop) (h1 : Go (f Γ) Q) (h : ∀ Γ1, Q Γ1 → g Γ1 = X) : sSeq f g Γ = X := by
  obtain ⟨Γ1, e, q⟩ := h1
  exact seq_nx e (h Γ1 q)
theorem go_mono {r : R Out} {P Q : Gm → Prop} (h : Go r P) (i : ∀ Γ, P Γ → Q Γ) : Go r Q := let ⟨Γ, e, p⟩ := h; ⟨Γ, e, i Γ p⟩
theorem rng_if {n : Nat} (h : n ≤ 1000000) : (if smallI (n : Int) = true ∧ ((n : Int)).toNat ≤ line then R.ok (rngD 0 ((n : Int)).toNat) else .stuck) = .ok (nD (List.range n)) := by
  have h1 : smallI (n : Int) = true := decide_eq_true ⟨by omega, by omega⟩
  have h2 : ((n : Int)).toNat ≤ line := by unfold line; omega
  rw [if_pos ⟨h1, h2⟩, Int.toNat_natCast, rngD_0]
theorem rng1 {n : Nat} (h : n ≤ 1000000) : rngF1 [.int n] = .ok (nD (List.range n)) := by
  unfold rngF1
  dsimp only
  exact rng_if h
theorem len_tup (ds : List D) : fLen [.tup ds] = some (.v (.int ds.length)) := rfl
end Pd

set_option Elab.async false
set_option linter.all false
set_option maxRecDepth 100000
set_option maxHeartbeats 1000000
namespace Pd
open PySem PySem.Spec L2

mutual
/-- data without truths, dicts, sets, references: there equal is the same -/
def purD : D → Bool
  | .non => true
  | .int _ => true
  | .str x => PyData.strOk x
  | .tup ds => purDs ds
  | .lst ds => purDs ds
  | _ => false
def purDs : List D → Bool
  | [] => true
  | d :: ds => purD d && purDs ds
end
mutual
/-- data without dicts, sets, references -/
def layD : D → Bool
  | .non => true
  | .bl _ => true
  | .int _ => true
  | .str x => PyData.strOk x
  | .tup ds => layDs ds
  | .lst ds => layDs ds
  | _ => false
def layDs : List D → Bool
  | [] => true
  | d :: ds => layD d && layDs ds
end
mutual
def depD : D → Nat
  | .tup ds => depDs ds + 1
  | .lst ds => depDs ds + 1
  | _ => 0
def depDs : List D → Nat
  | [] => 0
  | d :: ds => max (depD d) (depDs ds)
end
mutual
theorem lay_can : ∀ d : D, layD d = true → (pyD d).canLay0 = true
  | .non, _ => by rw [pyD, PyData.canLay0]
  | .bl _, _ => by rw [pyD, PyData.canLay0]
  | .int _, _ => by rw [pyD, PyData.canLay0]
  | .str x, h => by rw [layD] at h; rw [pyD, PyData.canLay0]; exact h
  | .tup ds, h => by rw [layD] at h; rw [pyD, PyData.canLay0]; exact lay_cans ds h
  | .lst ds, h => by rw [layD] at h; rw [pyD, PyData.canLay0]; exact lay_cans ds h
theorem lay_cans : ∀ ds : List D, layDs ds = true → PyData.canLayAll0 (pyDs ds) = true
  | [], _ => by rw [pyDs, PyData.canLayAll0]
  | d :: ds, h => by
    rw [layDs, Bool.and_eq_true] at h
    rw [pyDs, PyData.canLayAll0, lay_can d h.1, lay_cans ds h.2]
    rfl
end
mutual
theorem dep_py : ∀ d : D, layD d = true → (pyD d).depth = depD d
  | .non, _ => by rw [pyD, PyData.depth, depD] <;> simp
  | .bl _, _ => by rw [pyD, PyData.depth, depD] <;> simp
  | .int _, _ => by rw [pyD, PyData.depth, depD] <;> simp
  | .str x, h => by rw [pyD, PyData.depth, depD] <;> simp
  | .tup ds, h => by rw [layD] at h; rw [pyD, PyData.depth, depD, dep_pys ds h]
  | .lst ds, h => by rw [layD] at h; rw [pyD, PyData.depth, depD, dep_pys ds h]
theorem dep_pys : ∀ ds : List D, layDs ds = true → PyData.depthAll (pyDs ds) = depDs ds
  | [], _ => by rw [pyDs, PyData.depthAll, depDs]
  | d :: ds, h => by
    rw [layDs, Bool.and_eq_true] at h
    rw [pyDs, PyData.depthAll, dep_py d h.1, dep_pys ds h.2, depDs]
end
theorem shp_of {d : D} (h : layD d = true) (h2 : depD d ≤ 64) : shp d = true := by
  unfold shp SeqAt.shaped
  rw [lay_can d h, dep_py d h]
  simp [h2]
mutual
theorem pur_lay : ∀ d : D, purD d = true → layD d = true
  | .non, _ => by rw [layD]
  | .int _, _ => by rw [layD]
  | .str x, h => by rw [purD] at h; rw [layD]; exact h
  | .tup ds, h => by rw [purD] at h; rw [layD]; exact pur_lays ds h
  | .lst ds, h => by rw [purD] at h; rw [layD]; exact pur_lays ds h
theorem pur_lays : ∀ ds : List D, purDs ds = true → layDs ds = true
  | [], _ => by rw [layDs]
  | d :: ds, h => by
    rw [purDs, Bool.and_eq_true] at h
    rw [layDs, pur_lay d h.1, pur_lays ds h.2]
    rfl
end
mutual
theorem eqv_pur : ∀ a b : D, purD a = true → purD b = true → (PyData.eqv (pyD a) (pyD b) = true ↔ a = b)
  | .non, b, _, hb => by
    cases b <;> first | (simp [purD] at hb; done) | simp [pyD, PyData.eqv]
  | .int i, b, _, hb => by
    cases b <;> first | (simp [purD] at hb; done) | simp [pyD, PyData.eqv]
  | .str x, b, _, hb => by
    cases b <;> first | (simp [purD] at hb; done) | simp [pyD, PyData.eqv]
  | .tup xs, b, ha, hb => by
    cases b with
    | tup ys =>
      rw [purD] at ha hb
      rw [pyD, pyD, PyData.eqv, eqv_purs xs ys ha hb]
      exact ⟨fun h => by rw [h], fun h => D.tup.inj h⟩
    | _ => first | (simp [purD] at hb; done) | simp [pyD, PyData.eqv]
  | .lst xs, b, ha, hb => by
    cases b with
    | lst ys =>
      rw [purD] at ha hb
      rw [pyD, pyD, PyData.eqv, eqv_purs xs ys ha hb]
      exact ⟨fun h => by rw [h], fun h => D.lst.inj h⟩
    | _ => first | (simp [purD] at hb; done) | simp [pyD, PyData.eqv]
theorem eqv_purs : ∀ as bs : List D, purDs as = true → purDs bs = true → (PyData.eqvAll (pyDs as) (pyDs bs) = true ↔ as = bs)
  | [], [], _, _ => by simp [pyDs, PyData.eqvAll]
  | [], b :: bs, _, _ => by simp [pyDs, PyData.eqvAll]
  | a :: as, [], _, _ => by simp [pyDs, PyData.eqvAll]
  | a :: as, b :: bs, ha, hb => by
    rw [purDs, Bool.and_eq_true] at ha hb
    rw [pyDs, pyDs, PyData.eqvAll, Bool.and_eq_true, eqv_pur a b ha.1 hb.1, eqv_purs as bs ha.2 hb.2]
    exact ⟨fun h => by rw [h.1, h.2], fun h => ⟨(List.cons.inj h).1, (List.cons.inj h).2⟩⟩
end
theorem eqD_pur {a b : D} (ha : purD a = true) (hb : purD b = true) (da : depD a ≤ 64) (db : depD b ≤ 64) (k : Bool) (h : k = true ↔ a = b) : eqD a b = some k := by
  unfold eqD
  rw [if_pos ⟨shp_of (pur_lay a ha) da, shp_of (pur_lay b hb) db⟩]
  congr 1
  rw [Bool.eq_iff_iff, eqv_pur a b ha hb, h]
theorem eq_same {a : D} (ha : purD a = true) (da : depD a ≤ 64) : dEq a a = some (.v (.bl true)) := by
  unfold dEq
  rw [eqD_pur ha ha da da true ⟨fun _ => rfl, fun _ => rfl⟩]
  rfl
theorem ne_same {a : D} (ha : purD a = true) (da : depD a ≤ 64) : dNe a a = some (.v (.bl false)) := by
  unfold dNe
  rw [eqD_pur ha ha da da true ⟨fun _ => rfl, fun _ => rfl⟩]
  rfl
theorem ne_diff {a b : D} (ha : purD a = true) (hb : purD b = true) (da : depD a ≤ 64) (db : depD b ≤ 64) (h : a ≠ b) : dNe a b = some (.v (.bl true)) := by
  unfold dNe
  rw [eqD_pur ha hb da db false ⟨fun e => absurd e Bool.false_ne_true, fun e => absurd e h⟩]
  rfl
theorem pur_iD : ∀ l : List Int, purDs (iD l) = true
  | [] => rfl
  | n :: l => by
    show (purD (.int n) && purDs (iD l)) = true
    rw [pur_iD l, purD]
    rfl
theorem dep_iD : ∀ l : List Int, depDs (iD l) = 0
  | [] => rfl
  | n :: l => by
    show max (depD (.int n)) (depDs (iD l)) = 0
    rw [dep_iD l, depD]
    · rfl
    all_goals simp
theorem nD_iD (l : List Nat) : nD l = iD (l.map fun n : Nat => (n : Int)) := by
  unfold nD iD
  rw [List.map_map]
  rfl
theorem pur_nD (l : List Nat) : purDs (nD l) = true := by rw [nD_iD]; exact pur_iD _
theorem dep_nD (l : List Nat) : depDs (nD l) = 0 := by rw [nD_iD]; exact dep_iD _
theorem len_nD (l : List Nat) : (nD l).length = l.length := List.length_map ..
theorem len_iD (l : List Int) : (iD l).length = l.length := List.length_map ..
end Pd
namespace Pd
open PySem PySem.Spec PyProof.Rows L2 HT
section
variable {prog : Program} {w : World} {A : Around} {E : Value → Shared → Prop} {s : Shared}
end
section
variable {X : Cx} {T : List (Addr × Str)} {E : Ex T} {e : PySem.Expr} {pos p2 p3 : Pos}
def tBack (K : PySem.W.Frag) (te : TE) : TE := fun σ H Q => te σ H fun x H1 => (∃ a xs, x = .ref a ∧ SqL K H1 a xs ∧ ∀ p, H1 p = none → Q (.ref p) (upd H1 p (.lst xs.reverse))) ∨ (∃ a xs, x = .ref a ∧ SqT K H1 a xs ∧ ∀ p, H1 p = none → Q (.ref p) (upd H1 p (.tup xs.reverse)))
def eBack (f : Gm → R D) : Gm → R O := fun Γ => (f Γ).bind fun d => match d with
  | .lst ds => .ok (.o (.lst ds.reverse))
  | .tup ds => .ok (.v (.tup ds.reverse))
  | _ => .stuck
end
structure DefA (G : Gl5) (k : Nat) (f : Addr) (n : Nat) (φ : List Sl → R O) : Prop where
  ex : ∃ (fd : FuncData) (ps : List Str), FnOk G.P G.w G.K G.mg G.base (L2.CX G.P G.w) k f fd ps (spOf G.K G.mg n φ) ∧ PySem.W.keepIn G.K (.ref f) = true ∧ Binds G.K fd ps []
def FunT (G : Gl5) (k : Nat) (S : List (Addr × (List Sl → R O))) (n : Nat) : Prop := ∀ p ∈ S, DefA G k p.1 n p.2
def findV (S : List (Addr × (List Sl → R O))) (f : Addr) : Option (List Sl → R O) := (S.find? fun p => p.1 == f).map (·.2)
def callV (S : List (Addr × (List Sl → R O))) (fa : Gm → R (List Sl)) (Γ : Gm) : Option Sl → R O
  | some (.val (.ref f)) => match findV S f with
    | some φ => (fa Γ).bind φ
    | none => .stuck
  | _ => .stuck
def eCallV (S : List (Addr × (List Sl → R O))) (i : Nat) (fa : Gm → R (List Sl)) : Gm → R O := fun Γ => callV S fa Γ Γ[i]?
end Pd

set_option Elab.async false
set_option linter.all false
set_option maxRecDepth 100000
set_option maxHeartbeats 1000000
namespace Pr
open PySem PySem.Spec L2 Pd
def f_is_number : Gm → R Out := sSeq (sRet (vAndF [eCall fIsi (seqR [rVar 0, rd (eC (.ty "int"))]), eNot (rd (eCall fIsi (seqR [rVar 0, rd (eC (.ty "bool"))]))), e3 (dCmp .LtE) (dCmp .LtE) (rVar 1) (rVar 0) (rVar 2)]))
  (sNext)
def d_is_number : List Sl → R O := defF 0 f_is_number
def f_rises : Gm → R Out := sSeq (sRet (eCall fAll (seqR [rd (eLc (iOf rngF1 (seqR [rd (e2 (dBin .Sub) (rd (eCall fLen (seqR [rVar 0]))) (rd (eC (.int 1))))])) (.nm 1) ((fun _ => .ok true)) (vl (e2 (dCmp .Lt) (rd (e2 dIx (rVar 0) (rVar 1))) (rd (e2 dIx (rVar 0) (rd (e2 (dBin .Add) (rVar 1) (rd (eC (.int 1))))))))) ([1]))])))
  (sNext)
def d_rises : List Sl → R O := defF 1 f_rises
def f_is_leapring : Gm → R Out := sSeq (sIf (tOrF [tNotF (tTru (rd (eCall fIsi (seqR [rVar 0, rd (eC (.ty "tuple"))])))), isB (e2 (dCmp .NotEq) (rd (eCall fLen (seqR [rVar 0]))) (rd (eC (.int 2)))), tNotF (tTru (rd (eUser d_is_number (seqR [uVal (vl (e2 dIx (rVar 0) (rd (eC (.int 0))))), uVal (vl (eC (.int 3))), uVal (vl (eC (.int 100)))]))))]) (sSeq (sRet (eC (.bl false)))
  (sNext)) (sNext))
  (sSeq (sIf (tOrF [tNotF (tTru (rd (eCall fIsi (seqR [rd (e2 dIx (rVar 0) (rd (eC (.int 1)))), rd (eC (.ty "tuple"))])))), tNotF (isB (e3 (dCmp .LtE) (dCmp .LtE) (rd (eC (.int 1))) (rd (eCall fLen (seqR [rd (e2 dIx (rVar 0) (rd (eC (.int 1))))]))) (rd (eC (.int 4)))))]) (sSeq (sRet (eC (.bl false)))
  (sNext)) (sNext))
  (sSeq (sRet (vAndF [eCall fAll (seqR [rd (eLc (iF (rd (e2 dIx (rVar 0) (rd (eC (.int 1)))))) (.nm 1) ((fun _ => .ok true)) (vl (eUser d_is_number (seqR [uVar 1, uVal (vl (eC (.int 1))), uVal (vl (e2 (dBin .FloorDiv) (rd (e2 dIx (rVar 0) (rd (eC (.int 0))))) (rd (eC (.int 2)))))]))) ([1]))]), eUser d_rises (seqR [uVal (vl (e2 dIx (rVar 0) (rd (eC (.int 1)))))])]))
  (sNext)))
def d_is_leapring : List Sl → R O := defF 1 f_is_leapring
def f_need_ring : Gm → R Out := sSeq (sIf (tNotF (tTru (rd (eUser d_is_leapring (seqR [uVar 0]))))) (sSeq ((fun _ => .err "NoRing"))
  (sNext)) (sNext))
  (sNext)
def d_need_ring : List Sl → R O := defF 0 f_need_ring
def f_need_place : Gm → R Out := sSeq (sIf (tNotF (tTru (rd (eUser d_is_number (seqR [uVar 1, uVal (vl (eC (.int 0))), uVal (vl (e2 (dBin .Sub) (rd (e2 dIx (rVar 0) (rd (eC (.int 0))))) (rd (eC (.int 1)))))]))))) (sSeq ((fun _ => .err "NoPlace"))
  (sNext)) (sNext))
  (sNext)
def d_need_place : List Sl → R O := defF 0 f_need_place
def f_beside : Gm → R Out := sSeq (sAsg (.tp [.nm 3, .nm 4]) (vl (eVar 0)))
  (sSeq (sSet false 2 (e2 (dBin .Add) (rd (eLc (iF (rVar 4)) (.nm 5) ((fun _ => .ok true)) (vl (e2 (dBin .Mod) (rd (e2 (dBin .Add) (rVar 1) (rVar 5))) (rVar 3))) ([5]))) (rd (eLc (iF (rVar 4)) (.nm 5) ((fun _ => .ok true)) (vl (e2 (dBin .Mod) (rd (e2 (dBin .Sub) (rVar 1) (rVar 5))) (rVar 3))) ([5])))))
  (sSeq (sRet (eCall fTuple (seqR [rd (eSortSet (rVar 2))])))
  (sNext)))
def d_beside : List Sl → R O := defF 4 f_beside
def f_steps_of : Gm → R Out := sSeq (sSet true 1 (e2 (dBin .Mult) (rd (eLst (seqR [vl (eC .non)]))) (rd (e2 dIx (rVar 0) (rd (eC (.int 0)))))))
  (sSeq (sSto 1 (vl (eC (.int 0))) (rd (eC (.int 0))))
  (sSeq (sSet true 2 (eLst (seqR [vl (eC (.int 0))])))
  (sSeq (sSet false 3 (eC (.int 0)))
  (sSeq (whR (isB (e2 (dCmp .Lt) (rVar 3) (rd (eCall fLen (seqR [rVar 2]))))) (sSeq (sFor (iF (vl (eUser d_beside (seqR [uVar 0, uVal (vl (e2 dIx (rVar 2) (rVar 3)))])))) (.nm 4) (sSeq (sIf (isB (e2 (dCmp .Is) (rd (e2 dIx (rVar 1) (rVar 4))) (rd (eC .non)))) (sSeq (sSto 1 (vl (e2 (dBin .Add) (rd (e2 dIx (rVar 1) (rd (e2 dIx (rVar 2) (rVar 3))))) (rd (eC (.int 1))))) (rVar 4))
  (sSeq (sApp 2 (vl (eVar 4)))
  (sNext))) (sNext))
  (sNext)))
  (sSeq (sSet false 3 (e2 (dBin .Add) (rVar 3) (rd (eC (.int 1)))))
  (sNext))) whN)
  (sSeq (sRetV 1)
  (sNext))))))
def d_steps_of : List Sl → R O := defF 4 f_steps_of
def f_far : Gm → R Out := sSeq (sExpr (rd (eUser d_need_ring (seqR [uVar 0]))))
  (sSeq (sExpr (rd (eUser d_need_place (seqR [uVar 0, uVar 1]))))
  (sSeq (sExpr (rd (eUser d_need_place (seqR [uVar 0, uVar 2]))))
  (sSeq (sRet (e2 dIx (rd (eUser d_steps_of (seqR [uVar 0]))) (rd (e2 (dBin .Mod) (rd (e2 (dBin .Sub) (rVar 2) (rVar 1))) (rd (e2 dIx (rVar 0) (rd (eC (.int 0)))))))))
  (sNext))))
def d_far : List Sl → R O := defF 0 f_far
def f_all_far : Gm → R Out := sSeq (sExpr (rd (eUser d_need_ring (seqR [uVar 0]))))
  (sSeq (sRet (eUser d_steps_of (seqR [uVar 0])))
  (sNext))
def d_all_far : List Sl → R O := defF 0 f_all_far
def f__law_cell_at : Gm → R Out := sSeq (sIf (isB (e2 (dCmp .Lt) (rVar 1) (rd (eCall fLen (seqR [rVar 0]))))) (sSeq (sRet (e2 dIx (rVar 0) (rVar 1)))
  (sNext)) (sNext))
  (sSeq (sRet (eC (.int 0)))
  (sNext))
def d__law_cell_at : List Sl → R O := defF 0 f__law_cell_at
def f__law_draw : Gm → R Out := sSeq (sIf (isB (e2 (dCmp .GtE) (rVar 0) (rd (e2 (dBin .Pow) (rd (eC (.int 10))) (rd (eC (.int 18))))))) (sSeq (sSet false 4 (eVar 0))
  (sSeq (sFor (iOf rngF1 (seqR [rVar 1])) (.nm 5) (sSeq (sSet false 4 (e2 (dBin .FloorDiv) (rVar 4) (rVar 2)))
  (sNext)))
  (sSeq (sIf (isB (e2 (dCmp .Gt) (rVar 4) (rd (eC (.int 0))))) (sSeq (sRet (e2 (dBin .Mod) (rVar 4) (rVar 2)))
  (sNext)) (sNext))
  (sNext)))) (sNext))
  (sSeq (sSet false 3 (e2 (dBin .Mod) (rd (e2 (dBin .Mult) (rd (e2 (dBin .Add) (rd (e2 (dBin .Add) (rd (e2 (dBin .Mod) (rVar 0) (rd (eC (.int 1000000007))))) (rd (e2 (dBin .Mult) (rd (eC (.int 1009))) (rVar 1))))) (rd (eC (.int 17))))) (rd (eC (.int 69621))))) (rd (eC (.int 2147483647)))))
  (sSeq (sSet false 3 (e2 (dBin .Mod) (rd (e2 (dBin .Add) (rd (e2 (dBin .Add) (rd (e2 (dBin .Mult) (rVar 3) (rVar 3))) (rd (e2 (dBin .Mult) (rd (eC (.int 40503))) (rVar 1))))) (rd (eC (.int 5))))) (rd (eC (.int 2147483629)))))
  (sSeq (sRet (e2 (dBin .Mod) (rd (e2 (dBin .FloorDiv) (rd (e2 (dBin .Mod) (rd (e2 (dBin .Mult) (rVar 3) (rd (eC (.int 48271))))) (rd (eC (.int 2147483647))))) (rd (eC (.int 32))))) (rVar 2)))
  (sNext))))
def d__law_draw : List Sl → R O := defF 3 f__law_draw
def f__law_ring : Gm → R Out := sSeq (sSet false 2 (e2 (dBin .Add) (rd (eC (.int 3))) (rd (eUser d__law_draw (seqR [uVar 0, uVal (vl (eC (.int 0))), uVal (vl (e2 (dBin .Sub) (rVar 1) (rd (eC (.int 2)))))])))))
  (sSeq (sSet false 3 (e2 (dBin .FloorDiv) (rVar 2) (rd (eC (.int 2)))))
  (sSeq (sSet false 4 (eUser d__law_draw (seqR [uVar 0, uVal (vl (eC (.int 1))), uVal (vl (eC (.int 6)))])))
  (sSeq (sSet false 5 (e2 (dBin .Add) (rd (eC (.int 2))) (rd (eUser d__law_draw (seqR [uVar 0, uVal (vl (eC (.int 9))), uVal (vl (eC (.int 4)))])))))
  (sSeq (sSet true 6 ((fun _ => .ok (.o (.dct [])))))
  (sSeq (sFor (iOf rngF1 (seqR [rd (e2 (dBin .Add) (rd (eC (.int 1))) (rd (eUser d__law_draw (seqR [uVar 0, uVal (vl (eC (.int 2))), uVal (vl (eC (.int 4)))]))))])) (.nm 7) (sSeq (sSet false 8 (e2 (dBin .Add) (rd (eC (.int 1))) (rd (eUser d__law_draw (seqR [uVar 0, uVal (vl (e2 (dBin .Add) (rd (eC (.int 3))) (rVar 7))), uVar 3])))))
  (sSeq (sIf (tAndF [isB (e2 (dCmp .Eq) (rVar 4) (rd (eC (.int 1)))), isB (e2 (dCmp .Eq) (rVar 7) (rd (eC (.int 0))))]) (sSeq (sSet false 8 (eC (.int 1)))
  (sNext)) (sNext))
  (sSeq (sIf (tAndF [isB (e2 (dCmp .Eq) (rVar 4) (rd (eC (.int 2)))), isB (e2 (dCmp .LtE) (rVar 5) (rVar 3))]) (sSeq (sSet false 8 (e2 (dBin .Mult) (rVar 5) (rd (e2 (dBin .Add) (rd (eC (.int 1))) (rd (eUser d__law_draw (seqR [uVar 0, uVal (vl (e2 (dBin .Add) (rd (eC (.int 3))) (rVar 7))), uVal (vl (e2 (dBin .FloorDiv) (rVar 3) (rVar 5)))])))))))
  (sNext)) (sNext))
  (sSeq (sIf (tAndF [isB (e2 (dCmp .Eq) (rVar 4) (rd (eC (.int 3)))), isB (e2 (dCmp .Eq) (rVar 7) (rd (eC (.int 0))))]) (sSeq (sSet false 8 (eVar 3))
  (sNext)) (sNext))
  (sSeq (sIf (isB (e2 (dCmp .Eq) (rVar 4) (rd (eC (.int 4))))) (sSeq (sSet false 8 (eCall fMin (seqR [rVar 3, rd (e2 (dBin .Add) (rd (e2 (dBin .Add) (rd (eC (.int 1))) (rd (eUser d__law_draw (seqR [uVar 0, uVal (vl (eC (.int 10))), uVar 3]))))) (rVar 7))])))
  (sNext)) (sNext))
  (sSeq (sSto 6 (vl (eC (.bl true))) (rVar 8))
  (sNext))))))))
  (sSeq (sRet (eTup (seqR [vl (eVar 2), vl (eCall fTuple (seqR [rd (eCall fSorted (seqR [rVar 6]))]))])))
  (sNext)))))))
def d__law_ring : List Sl → R O := defF 7 f__law_ring
def f__law_near : Gm → R Out := sSeq (sAsg (.tp [.nm 4, .nm 5]) (vl (eVar 0)))
  (sSeq (sSet true 2 ((fun _ => .ok (.o (.dct [])))))
  (sSeq (sFor (iF (vl (eVar 5))) (.nm 3) (sSeq (sSto 2 (vl (eC (.bl true))) (rd (e2 (dBin .Mod) (rd (e2 (dBin .Add) (rVar 1) (rVar 3))) (rVar 4))))
  (sSeq (sSto 2 (vl (eC (.bl true))) (rd (e2 (dBin .Mod) (rd (e2 (dBin .Sub) (rd (e2 (dBin .Add) (rVar 1) (rVar 4))) (rVar 3))) (rVar 4))))
  (sNext))))
  (sSeq (sRet (eCall fSorted (seqR [rVar 2])))
  (sNext))))
def d__law_near : List Sl → R O := defF 4 f__law_near
def f__law_steps : Gm → R Out := sSeq (sSet true 2 (e2 (dBin .Mult) (rd (eLst (seqR [vl (eC .non)]))) (rd (e2 dIx (rVar 0) (rd (eC (.int 0)))))))
  (sSeq (sSto 2 (vl (eC (.int 0))) (rVar 1))
  (sSeq (sSet false 3 (eLst (seqR [vl (eVar 1)])))
  (sSeq (sSet false 4 (eC (.int 0)))
  (sSeq (whR (isB (e2 (dCmp .NotEq) (rVar 3) (rd (eLst (seqR []))))) (sSeq (sSet false 4 (e2 (dBin .Add) (rVar 4) (rd (eC (.int 1)))))
  (sSeq (sSet true 5 (eLst (seqR [])))
  (sSeq (sFor (iF (vl (eVar 3))) (.nm 6) (sSeq (sFor (iF (vl (eUser d__law_near (seqR [uVar 0, uVar 6])))) (.nm 7) (sSeq (sIf (isB (e2 (dCmp .Is) (rd (e2 dIx (rVar 2) (rVar 7))) (rd (eC .non)))) (sSeq (sSto 2 (vl (eVar 4)) (rVar 7))
  (sSeq (sApp 5 (vl (eVar 7)))
  (sNext))) (sNext))
  (sNext)))
  (sNext)))
  (sSeq ((fun Γ => (sSet false 3 (eVar 5)) (frz [5] Γ)))
  (sNext))))) whN)
  (sSeq (sRetV 2)
  (sNext))))))
def d__law_steps : List Sl → R O := defF 6 f__law_steps
def f__law_no_ring : Gm → R Out := sSeq (sAsg (.tp [.nm 6, .nm 7]) (vl (eVar 2)))
  (sSeq (sSet false 3 (eUser d__law_draw (seqR [uVar 0, uVal (vl (e2 (dBin .Add) (rVar 1) (rd (eC (.int 1))))), uVal (vl (eCall fLen (seqR [rVar 7])))])))
  (sSeq (sSet false 4 (e2 dIx (rd (eLst (seqR [vl (eC (.int 0)), vl (eNeg (rd (eC (.int 1)))), vl (e2 (dBin .Add) (rd (e2 (dBin .FloorDiv) (rVar 6) (rd (eC (.int 2))))) (rd (eC (.int 1)))), vl (eC (.bl true)), vl (eC .non), vl (eC (.str "1")), vl (eTup (seqR [vl (eC (.int 1))])), vl (eVar 6), vl (eNeg (rd (e2 dIx (rVar 7) (rd (eC (.int 0)))))), vl (e2 (dBin .Pow) (rd (eC (.int 10))) (rd (eC (.int 20))))]))) (rd (eUser d__law_draw (seqR [uVar 0, uVal (vl (e2 (dBin .Add) (rVar 1) (rd (eC (.int 2))))), uVal (vl (eC (.int 10)))])))))
  (sSeq (sSet true 5 (eLst (seqR [vl (eTup (seqR [vl (eC (.int 2)), vl (eTup (seqR [vl (eC (.int 1))]))])), vl (eTup (seqR [vl (eC (.int 101)), vl (eTup (seqR [vl (eC (.int 1))]))])), vl (eTup (seqR [vl (eC (.bl true)), vl (eTup (seqR [vl (eC (.int 1))]))])), vl (eTup (seqR [vl (eVar 6), vl (eTup (seqR []))])), vl (eTup (seqR [vl (eVar 6), vl (eCall fList (seqR [rVar 7]))])), vl (eLst (seqR [vl (eVar 6), vl (eVar 7)])), vl (eTup (seqR [vl (eVar 6)]))])))
  (sSeq (sSet true 5 (e2 (dBin .Add) (rVar 5) (rd (eLst (seqR [vl (eC .non), vl (eC (.str "1")), vl (eC (.int 7)), vl ((fun _ => .ok (.o (.dct [])))), vl (eTup (seqR [vl (eVar 6), vl (eVar 7), vl (eTup (seqR []))])), vl (eTup (seqR [vl (eVar 6), vl (eTup (seqR [vl (eC (.int 1)), vl (eC (.int 2)), vl (eC (.int 3)), vl (eC (.int 4)), vl (eC (.int 5))]))])), vl (eTup (seqR [vl (eCall fStr (seqR [rVar 6])), vl (eVar 7)])), vl (eTup (seqR [vl (eVar 6), vl (eC .non)]))])))))
  (sSeq (sApp 5 (vl (eTup (seqR [vl (eVar 6), vl (e2 (dBin .Add) (rd (e2 (dBin .Add) (rd (eSl (rVar 7) (noPart) (aPart (rVar 3)))) (rd (eTup (seqR [vl (eVar 4)]))))) (rd (eSl (rVar 7) (aPart (rd (e2 (dBin .Add) (rVar 3) (rd (eC (.int 1)))))) (noPart))))]))))
  (sSeq (sApp 5 (vl (eTup (seqR [vl (eVar 6), vl (e2 (dBin .Add) (rd (e2 (dBin .Add) (rd (eSl (rVar 7) (noPart) (aPart (rVar 3)))) (rd (eSl (rVar 7) (aPart (rVar 3)) (aPart (rd (e2 (dBin .Add) (rVar 3) (rd (eC (.int 1)))))))))) (rd (eSl (rVar 7) (aPart (rVar 3)) (noPart))))]))))
  (sSeq (sRet (e2 dIx (rVar 5) (rd (e2 (dBin .Mod) (rd (eUser d__law_draw (seqR [uVar 0, uVar 1, uVal (vl (eC (.int 23)))]))) (rd (eC (.int 17)))))))
  (sNext))))))))
def d__law_no_ring : List Sl → R O := defF 5 f__law_no_ring
def f__law_no_place : Gm → R Out := sSeq (sSet false 3 (eLst (seqR [vl (eVar 2), vl (eNeg (rd (eC (.int 1)))), vl (eC (.bl true)), vl (eC .non), vl (eC (.str "0")), vl (eTup (seqR [vl (eC (.int 0))])), vl (eLst (seqR [vl (eC (.int 0))])), vl (e2 (dBin .Add) (rVar 2) (rd (e2 (dBin .Pow) (rd (eC (.int 10))) (rd (eC (.int 28)))))), vl (eNeg (rd (e2 (dBin .Pow) (rd (eC (.int 10))) (rd (eC (.int 20)))))), vl ((fun _ => .ok (.o (.dct [])))), vl (eC (.bl false))])))
  (sSeq (sRet (e2 dIx (rVar 3) (rd (eUser d__law_draw (seqR [uVar 0, uVar 1, uVal (vl (eC (.int 11)))])))))
  (sNext))
def d__law_no_place : List Sl → R O := defF 1 f__law_no_place
def f_least_count : Gm → R Out := sSeq (sRet (eIf (isB (e2 (dCmp .Eq) (rd (e2 (dBin .Mult) (rd (eC (.int 2))) (rVar 1))) (rd (e2 dIx (rVar 0) (rd (eC (.int 0))))))) (eC (.int 0)) (e2 (dBin .Sub) (rd (eC (.int 0))) (rd (e2 dIx (rVar 0) (rd (eC (.int 0))))))))
  (sNext)
def d_least_count : List Sl → R O := defF 0 f_least_count
def f_good_counts : Gm → R Out := sSeq (sAsg (.tp [.nm 2, .nm 3]) (vl (eVar 0)))
  (sSeq (sIf (tOrF [tNotF (tTru (rd (eCall fIsi (seqR [rVar 1, rd (eC (.ty "tuple"))])))), isB (e2 (dCmp .NotEq) (rd (eCall fLen (seqR [rVar 1]))) (rd (eCall fLen (seqR [rVar 3]))))]) (sSeq (sRet (eC (.bl false)))
  (sNext)) (sNext))
  (sSeq (sFor (iOf zipF (seqR [vl (eVar 3), vl (eVar 1)])) (.tp [.nm 4, .nm 5]) (sSeq (sIf (tNotF (tTru (rd (eUser d_is_number (seqR [uVar 5, uVal (vl (eUser d_least_count (seqR [uVar 0, uVar 4]))), uVal (vl (eIf (isB (e2 (dCmp .Eq) (rd (e2 (dBin .Mult) (rd (eC (.int 2))) (rVar 4))) (rVar 2))) (eC (.int 1)) (eVar 2)))]))))) (sSeq (sRet (eC (.bl false)))
  (sNext)) (sNext))
  (sNext)))
  (sSeq (sRet (eC (.bl true)))
  (sNext))))
def d_good_counts : List Sl → R O := defF 4 f_good_counts
def f_are_counts : Gm → R Out := sSeq (sExpr (rd (eUser d_need_ring (seqR [uVar 0]))))
  (sSeq (sRet (eUser d_good_counts (seqR [uVar 0, uVar 1])))
  (sNext))
def d_are_counts : List Sl → R O := defF 0 f_are_counts
def f_led_by : Gm → R Out := sSeq (sRet (e2 (dBin .Mod) (rd (eCall fSum (seqR [rd (eLc (iOf zipF (seqR [rd (e2 dIx (rVar 0) (rd (eC (.int 1)))), rVar 1])) (.tp [.nm 2, .nm 3]) ((fun _ => .ok true)) (vl (e2 (dBin .Mult) (rVar 2) (rVar 3))) ([2, 3]))]))) (rd (e2 dIx (rVar 0) (rd (eC (.int 0)))))))
  (sNext)
def d_led_by : List Sl → R O := defF 2 f_led_by
def f_led_to : Gm → R Out := sSeq (sExpr (rd (eUser d_need_ring (seqR [uVar 0]))))
  (sSeq (sExpr (rd (eUser d_need_place (seqR [uVar 0, uVar 1]))))
  (sSeq (sIf (tNotF (tTru (rd (eUser d_good_counts (seqR [uVar 0, uVar 2]))))) (sSeq ((fun _ => .err "NoCounts"))
  (sNext)) (sNext))
  (sSeq (sRet (e2 (dBin .Mod) (rd (e2 (dBin .Add) (rVar 1) (rd (eUser d_led_by (seqR [uVar 0, uVar 2]))))) (rd (e2 dIx (rVar 0) (rd (eC (.int 0)))))))
  (sNext))))
def d_led_to : List Sl → R O := defF 0 f_led_to
def f__law_are_counts : Gm → R Out := sSeq (sAsg (.tp [.nm 2, .nm 3]) (vl (eVar 0)))
  (sSeq (sIf (tOrF [tNotF (tTru (rd (eCall fIsi (seqR [rVar 1, rd (eC (.ty "tuple"))])))), isB (e2 (dCmp .NotEq) (rd (eCall fLen (seqR [rVar 1]))) (rd (eCall fLen (seqR [rVar 3]))))]) (sSeq (sRet (eC (.bl false)))
  (sNext)) (sNext))
  (sSeq (sFor (iOf zipF (seqR [vl (eVar 3), vl (eVar 1)])) (.tp [.nm 4, .nm 5]) (sSeq (sIf (tOrF [tNotF (tTru (rd (eCall fIsi (seqR [rVar 5, rd (eC (.ty "int"))])))), tTru (rd (eCall fIsi (seqR [rVar 5, rd (eC (.ty "bool"))])))]) (sSeq (sRet (eC (.bl false)))
  (sNext)) (sNext))
  (sSeq (sIf (tOrF [tAndF [isB (e2 (dCmp .Eq) (rd (e2 (dBin .Mult) (rd (eC (.int 2))) (rVar 4))) (rVar 2)), isB (e2 (dCmp .NotIn) (rVar 5) (rd (eTup (seqR [vl (eC (.int 0)), vl (eC (.int 1))]))))], tNotF (isB (e3 (dCmp .LtE) (dCmp .LtE) (rd (eNeg (rVar 2))) (rVar 5) (rVar 2)))]) (sSeq (sRet (eC (.bl false)))
  (sNext)) (sNext))
  (sNext))))
  (sSeq (sRet (eC (.bl true)))
  (sNext))))
def d__law_are_counts : List Sl → R O := defF 4 f__law_are_counts
def f__law_counts : Gm → R Out := sSeq (sAsg (.tp [.nm 4, .nm 5]) (vl (eVar 2)))
  (sSeq (sSet true 3 (eLst (seqR [])))
  (sSeq (sFor (iOf enumF (seqR [vl (eVar 5)])) (.tp [.nm 6, .nm 7]) (sSeq (sSet false 8 (e2 dIx (rd (eLst (seqR [vl (eC (.int 0)), vl (eVar 4), vl (eNeg (rVar 4)), vl (e2 (dBin .Sub) (rd (eUser d__law_draw (seqR [uVar 0, uVal (vl (e2 (dBin .Add) (rd (e2 (dBin .Add) (rVar 1) (rd (eC (.int 10))))) (rVar 6))), uVal (vl (e2 (dBin .Add) (rd (e2 (dBin .Mult) (rd (eC (.int 2))) (rVar 4))) (rd (eC (.int 1)))))]))) (rVar 4))]))) (rd (eUser d__law_draw (seqR [uVar 0, uVal (vl (e2 (dBin .Add) (rVar 1) (rVar 6))), uVal (vl (eC (.int 4)))])))))
  (sSeq (sApp 3 (vl (e2 dIx (rd (eLst (seqR [vl (eVar 8), vl (eUser d__law_draw (seqR [uVar 0, uVal (vl (e2 (dBin .Add) (rd (e2 (dBin .Add) (rVar 1) (rd (eC (.int 20))))) (rVar 6))), uVal (vl (eC (.int 2)))]))]))) (rd (eCall fInt (seqR [rd (e2 (dCmp .Eq) (rd (e2 (dBin .Mult) (rd (eC (.int 2))) (rVar 7))) (rVar 4))]))))))
  (sNext))))
  (sSeq (sRet (eCall fTuple (seqR [rVar 3])))
  (sNext))))
def d__law_counts : List Sl → R O := defF 6 f__law_counts
def f__law_bent_counts : Gm → R Out := sSeq (sSet false 4 (eUser d__law_draw (seqR [uVar 0, uVal (vl (e2 (dBin .Add) (rVar 1) (rd (eC (.int 1))))), uVal (vl (eCall fLen (seqR [rVar 2])))])))
  (sSeq (sSet false 5 (e2 dIx (rd (eLst (seqR [vl (e2 (dBin .Add) (rVar 3) (rd (eC (.int 1)))), vl (e2 (dBin .Sub) (rd (eNeg (rVar 3))) (rd (eC (.int 1)))), vl (eC (.int 2)), vl (eNeg (rd (eC (.int 1)))), vl (eC (.bl true)), vl (eC .non), vl (eC (.str "1")), vl (eTup (seqR [vl (eC (.int 0))])), vl (e2 (dBin .Pow) (rd (eC (.int 10))) (rd (eC (.int 28)))), vl (eC (.bl false))]))) (rd (eUser d__law_draw (seqR [uVar 0, uVal (vl (e2 (dBin .Add) (rVar 1) (rd (eC (.int 2))))), uVal (vl (eC (.int 10)))])))))
  (sSeq (sSet false 6 (eLst (seqR [vl (e2 (dBin .Add) (rd (e2 (dBin .Add) (rd (eSl (rVar 2) (noPart) (aPart (rVar 4)))) (rd (eTup (seqR [vl (eVar 5)]))))) (rd (eSl (rVar 2) (aPart (rd (e2 (dBin .Add) (rVar 4) (rd (eC (.int 1)))))) (noPart)))), vl (e2 (dBin .Add) (rd (eSl (rVar 2) (noPart) (aPart (rVar 4)))) (rd (eSl (rVar 2) (aPart (rd (e2 (dBin .Add) (rVar 4) (rd (eC (.int 1)))))) (noPart)))), vl (e2 (dBin .Add) (rVar 2) (rd (eTup (seqR [vl (eC (.int 0))])))), vl (eCall fList (seqR [rVar 2])), vl (eC .non), vl (eC (.int 0))])))
  (sSeq (sRet (e2 dIx (rd (e2 (dBin .Add) (rVar 6) (rd (eLst (seqR [vl ((fun _ => .ok (.o (.dct [])))), vl (eTup (seqR [vl (eVar 2)])), vl (eC (.str "0")), vl (eBack (rVar 2))]))))) (rd (e2 dIx (rd (eLst (seqR [vl (eC (.int 0)), vl (eC (.int 0)), vl (eC (.int 0)), vl (eC (.int 0)), vl (eC (.int 1)), vl (eC (.int 2)), vl (eC (.int 3)), vl (eC (.int 4)), vl (eC (.int 5)), vl (eC (.int 6)), vl (eC (.int 7)), vl (eC (.int 8)), vl (eC (.int 9))]))) (rd (eUser d__law_draw (seqR [uVar 0, uVar 1, uVal (vl (eC (.int 13)))])))))))
  (sNext))))
def d__law_bent_counts : List Sl → R O := defF 3 f__law_bent_counts
def f_goes : Gm → R Out := sSeq (sIf (tOrF [tNotF (tTru (rd (eCall fIsi (seqR [rVar 1, rd (eC (.ty "tuple"))])))), isB (e2 (dCmp .Eq) (rVar 1) (rd (eTup (seqR [])))), tNotF (tTru (rd (eCall fAll (seqR [rd (eLc (iF (rVar 1)) (.nm 3) ((fun _ => .ok true)) (vl (eUser d_is_number (seqR [uVar 3, uVal (vl (eC (.int 0))), uVal (vl (e2 (dBin .Sub) (rd (e2 dIx (rVar 0) (rd (eC (.int 0))))) (rd (eC (.int 1)))))]))) ([3]))]))))]) (sSeq (sRet (eC (.bl false)))
  (sNext)) (sNext))
  (sSeq (sRet (eCall fAll (seqR [rd (eLc (iOf rngF1 (seqR [rd (e2 (dBin .Sub) (rd (eCall fLen (seqR [rVar 1]))) (rd (eC (.int 1))))])) (.nm 2) ((fun _ => .ok true)) (vl (e2 (dCmp .In) (rd (e2 dIx (rVar 1) (rd (e2 (dBin .Add) (rVar 2) (rd (eC (.int 1))))))) (rd (eUser d_beside (seqR [uVar 0, uVal (vl (e2 dIx (rVar 1) (rVar 2)))]))))) ([2]))])))
  (sNext))
def d_goes : List Sl → R O := defF 2 f_goes
def f_counts_of : Gm → R Out := sSeq (sExpr (rd (eUser d_need_ring (seqR [uVar 0]))))
  (sSeq (sIf (tNotF (tTru (rd (eUser d_goes (seqR [uVar 0, uVar 1]))))) (sSeq ((fun _ => .err "NoWay"))
  (sNext)) (sNext))
  (sSeq (sAsg (.tp [.nm 5, .nm 6]) (vl (eVar 0)))
  (sSeq (sSet false 2 (eLc (iOf rngF1 (seqR [rd (e2 (dBin .Sub) (rd (eCall fLen (seqR [rVar 1]))) (rd (eC (.int 1))))])) (.nm 7) ((fun _ => .ok true)) (vl (e2 (dBin .Mod) (rd (e2 (dBin .Sub) (rd (e2 dIx (rVar 1) (rd (e2 (dBin .Add) (rVar 7) (rd (eC (.int 1))))))) (rd (e2 dIx (rVar 1) (rVar 7))))) (rVar 5))) ([7])))
  (sSeq (sSet true 3 (eLst (seqR [])))
  (sSeq (sFor (iF (vl (eVar 6))) (.nm 4) (sSeq (sIf (isB (e2 (dCmp .Eq) (rd (e2 (dBin .Mult) (rd (eC (.int 2))) (rVar 4))) (rVar 5))) (sSeq (sApp 3 (vl (e2 (dBin .Mod) (rd (eMt cntD (rVar 2) (rVar 4))) (rd (eC (.int 2))))))
  (sNext)) (sSeq (sApp 3 (vl (e2 (dBin .Sub) (rd (eMt cntD (rVar 2) (rVar 4))) (rd (eMt cntD (rVar 2) (rd (e2 (dBin .Sub) (rVar 5) (rVar 4))))))))
  (sNext)))
  (sNext)))
  (sSeq (sRet (eCall fTuple (seqR [rVar 3])))
  (sNext)))))))
def d_counts_of : List Sl → R O := defF 6 f_counts_of
def f__law_is_way : Gm → R Out := sSeq (sIf (tOrF [tNotF (tTru (rd (eCall fIsi (seqR [rVar 1, rd (eC (.ty "tuple"))])))), isB (e2 (dCmp .Eq) (rVar 1) (rd (eTup (seqR []))))]) (sSeq (sRet (eC (.bl false)))
  (sNext)) (sNext))
  (sSeq (sFor (iF (vl (eVar 1))) (.nm 2) (sSeq (sIf (tOrF [tNotF (tTru (rd (eCall fIsi (seqR [rVar 2, rd (eC (.ty "int"))])))), tTru (rd (eCall fIsi (seqR [rVar 2, rd (eC (.ty "bool"))]))), tNotF (isB (e3 (dCmp .LtE) (dCmp .Lt) (rd (eC (.int 0))) (rVar 2) (rd (e2 dIx (rVar 0) (rd (eC (.int 0)))))))]) (sSeq (sRet (eC (.bl false)))
  (sNext)) (sNext))
  (sNext)))
  (sSeq (sRet (e2 (dCmp .Eq) (rd (eLc (iOf rngF2 (seqR [rd (eC (.int 1)), rd (eCall fLen (seqR [rVar 1]))])) (.nm 3) (isB (e2 (dCmp .NotIn) (rd (e2 dIx (rVar 1) (rVar 3))) (rd (eUser d__law_near (seqR [uVar 0, uVal (vl (e2 dIx (rVar 1) (rd (e2 (dBin .Sub) (rVar 3) (rd (eC (.int 1)))))))]))))) (vl (eVar 3)) ([3]))) (rd (eLst (seqR [])))))
  (sNext)))
def d__law_is_way : List Sl → R O := defF 2 f__law_is_way
def f__law_bent : Gm → R Out := sSeq (sSet false 4 (eUser d__law_draw (seqR [uVar 0, uVal (vl (e2 (dBin .Add) (rVar 1) (rd (eC (.int 1))))), uVal (vl (eCall fLen (seqR [rVar 2])))])))
  (sSeq (sSet false 5 (e2 dIx (rd (eLst (seqR [vl (e2 (dBin .Mod) (rd (e2 (dBin .Add) (rd (e2 dIx (rVar 2) (rVar 4))) (rd (eC (.int 1))))) (rVar 3)), vl (eVar 3), vl (eNeg (rd (eC (.int 1)))), vl (eC (.bl true)), vl (eC .non), vl (eCall fStr (seqR [rd (e2 dIx (rVar 2) (rVar 4))])), vl (eTup (seqR [vl (eC (.int 0))])), vl (e2 (dBin .Pow) (rd (eC (.int 10))) (rd (eC (.int 28))))]))) (rd (eUser d__law_draw (seqR [uVar 0, uVal (vl (e2 (dBin .Add) (rVar 1) (rd (eC (.int 2))))), uVal (vl (eC (.int 8)))])))))
  (sSeq (sSet false 6 (eLst (seqR [vl (e2 (dBin .Add) (rd (e2 (dBin .Add) (rd (eSl (rVar 2) (noPart) (aPart (rVar 4)))) (rd (eTup (seqR [vl (eVar 5)]))))) (rd (eSl (rVar 2) (aPart (rd (e2 (dBin .Add) (rVar 4) (rd (eC (.int 1)))))) (noPart)))), vl (e2 (dBin .Add) (rd (eSl (rVar 2) (noPart) (aPart (rVar 4)))) (rd (eSl (rVar 2) (aPart (rd (e2 (dBin .Add) (rVar 4) (rd (eC (.int 1)))))) (noPart)))), vl (e2 (dBin .Add) (rd (eSl (rVar 2) (noPart) (aPart (rd (e2 (dBin .Add) (rVar 4) (rd (eC (.int 1)))))))) (rd (eSl (rVar 2) (aPart (rVar 4)) (noPart)))), vl (eBack (rVar 2))])))
  (sSeq (sSet false 6 (e2 (dBin .Add) (rVar 6) (rd (eLst (seqR [vl (eCall fList (seqR [rVar 2])), vl (eTup (seqR [vl (eVar 2)])), vl (eC .non), vl (eC (.str "0 1")), vl ((fun _ => .ok (.o (.dct [])))), vl (e2 (dBin .Add) (rVar 2) (rd (eTup (seqR [vl (e2 dIx (rVar 2) (rd (eC (.int 0))))])))), vl (e2 (dBin .Add) (rVar 2) (rd (eSl (rd (eBack (rVar 2))) (aPart (rd (eC (.int 1)))) (noPart))))])))))
  (sSeq (sRet (e2 dIx (rVar 6) (rd (e2 dIx (rd (eLst (seqR [vl (eC (.int 0)), vl (eC (.int 0)), vl (eC (.int 0)), vl (eC (.int 0)), vl (eC (.int 1)), vl (eC (.int 1)), vl (eC (.int 2)), vl (eC (.int 3)), vl (eC (.int 4)), vl (eC (.int 5)), vl (eC (.int 6)), vl (eC (.int 7)), vl (eC (.int 8)), vl (eC (.int 9)), vl (eC (.int 10))]))) (rd (eUser d__law_draw (seqR [uVar 0, uVar 1, uVal (vl (eC (.int 15)))])))))))
  (sNext)))))
def d__law_bent : List Sl → R O := defF 3 f__law_bent
def f__law_walk : Gm → R Out := sSeq (sSet false 4 (eTup (seqR [vl (eUser d__law_draw (seqR [uVar 0, uVar 1, uVal (vl (e2 dIx (rVar 2) (rd (eC (.int 0)))))]))])))
  (sSeq (sFor (iOf rngF1 (seqR [rd (eUser d__law_draw (seqR [uVar 0, uVal (vl (e2 (dBin .Add) (rVar 1) (rd (eC (.int 1))))), uVal (vl (e2 (dBin .Add) (rVar 3) (rd (eC (.int 1)))))]))])) (.nm 5) (sSeq (sSet false 6 (eUser d__law_near (seqR [uVar 2, uVal (vl (e2 dIx (rVar 4) (rd (eNeg (rd (eC (.int 1)))))))])))
  (sSeq (sSet false 4 (e2 (dBin .Add) (rVar 4) (rd (eTup (seqR [vl (e2 dIx (rVar 6) (rd (eUser d__law_draw (seqR [uVar 0, uVal (vl (e2 (dBin .Add) (rd (e2 (dBin .Add) (rVar 1) (rd (eC (.int 2))))) (rVar 5))), uVal (vl (eCall fLen (seqR [rVar 6])))]))))])))))
  (sNext))))
  (sSeq (sRetV 4)
  (sNext)))
def d__law_walk : List Sl → R O := defF 3 f__law_walk
def f_need_number : Gm → R Out := sSeq (sIf (tNotF (tTru (rd (eUser d_is_number (seqR [uVar 0, uVar 1, uVar 2]))))) (sSeq ((fun _ => .err "NoNumber"))
  (sNext)) (sNext))
  (sNext)
def d_need_number : List Sl → R O := defF 0 f_need_number
def f_common : Gm → R Out := sSeq (whR (isB (e2 (dCmp .Gt) (rVar 1) (rd (eC (.int 0))))) (sSeq (sPar 0 1 (seqR [vl (eVar 1), vl (e2 (dBin .Mod) (rVar 0) (rVar 1))]))
  (sNext)) whN)
  (sSeq (sRetV 0)
  (sNext))
def d_common : List Sl → R O := defF 0 f_common
def f_times : Gm → R Out := sSeq (sAsg (.tp [.nm 3, .nm 4]) (vl (eVar 0)))
  (sSeq (sSet false 2 (eLc (iF (rVar 4)) (.nm 5) ((fun _ => .ok true)) (vl (e2 (dBin .Mod) (rd (e2 (dBin .Mult) (rVar 5) (rVar 1))) (rVar 3))) ([5])))
  (sSeq (sRet (eTup (seqR [vl (eVar 3), vl (eCall fTuple (seqR [rd (eCall fSorted (seqR [rd (eLc (iF (rVar 2)) (.nm 6) ((fun _ => .ok true)) (vl (eCall fMin (seqR [rVar 6, rd (e2 (dBin .Sub) (rVar 3) (rVar 6))]))) ([6]))]))]))])))
  (sNext)))
def d_times : List Sl → R O := defF 5 f_times
def f_multiplied : Gm → R Out := sSeq (sExpr (rd (eUser d_need_ring (seqR [uVar 0]))))
  (sSeq (sExpr (rd (eUser d_need_number (seqR [uVar 1, uVal (vl (eC (.int 1))), uVal (vl (e2 (dBin .Sub) (rd (e2 dIx (rVar 0) (rd (eC (.int 0))))) (rd (eC (.int 1)))))]))))
  (sSeq (sIf (isB (e2 (dCmp .Gt) (rd (eUser d_common (seqR [uVal (vl (e2 dIx (rVar 0) (rd (eC (.int 0))))), uVar 1]))) (rd (eC (.int 1))))) (sSeq ((fun _ => .err "NoNumber"))
  (sNext)) (sNext))
  (sSeq (sRet (eUser d_times (seqR [uVar 0, uVar 1])))
  (sNext))))
def d_multiplied : List Sl → R O := defF 0 f_multiplied
def f_alike_by : Gm → R Out := sSeq (sExpr (rd (eUser d_need_ring (seqR [uVar 0]))))
  (sSeq (sExpr (rd (eUser d_need_ring (seqR [uVar 1]))))
  (sSeq (sFor (iOf rngF2 (seqR [rd (eC (.int 1)), rd (e2 dIx (rVar 0) (rd (eC (.int 0))))])) (.nm 2) (sSeq (sIf (tAndF [isB (e2 (dCmp .Eq) (rd (eUser d_common (seqR [uVal (vl (e2 dIx (rVar 0) (rd (eC (.int 0))))), uVar 2]))) (rd (eC (.int 1)))), isB (e2 (dCmp .Eq) (rd (eUser d_times (seqR [uVar 0, uVar 2]))) (rVar 1))]) (sSeq (sRetV 2)
  (sNext)) (sNext))
  (sNext)))
  (sSeq (sRet (eC .non))
  (sNext))))
def d_alike_by : List Sl → R O := defF 1 f_alike_by
def f__law_no_number : Gm → R Out := sSeq (sSet false 4 (eLst (seqR [vl (e2 (dBin .Sub) (rVar 2) (rd (eC (.int 1)))), vl (e2 (dBin .Add) (rVar 3) (rd (eC (.int 1)))), vl (eC (.bl true)), vl (eC (.bl false)), vl (eC .non), vl (eCall fStr (seqR [rVar 2])), vl (eTup (seqR [vl (eVar 2)])), vl (eLst (seqR [vl (eVar 2)])), vl ((fun _ => .ok (.o (.dct [])))), vl (eNeg (rd (e2 (dBin .Pow) (rd (eC (.int 10))) (rd (eC (.int 28)))))), vl (e2 (dBin .Pow) (rd (eC (.int 10))) (rd (eC (.int 29))))])))
  (sSeq (sRet (e2 dIx (rVar 4) (rd (eUser d__law_draw (seqR [uVar 0, uVar 1, uVal (vl (eC (.int 11)))])))))
  (sNext))
def d__law_no_number : List Sl → R O := defF 1 f__law_no_number
def f__law_common : Gm → R Out := sSeq (whR (isB (e2 (dCmp .Gt) (rVar 1) (rd (eC (.int 0))))) (sSeq (sPar 0 1 (seqR [vl (eVar 1), vl (e2 (dBin .Mod) (rVar 0) (rVar 1))]))
  (sNext)) whN)
  (sSeq (sRetV 0)
  (sNext))
def d__law_common : List Sl → R O := defF 0 f__law_common
def f__law_times : Gm → R Out := sSeq (sAsg (.tp [.nm 4, .nm 5]) (vl (eVar 0)))
  (sSeq (sSet true 2 ((fun _ => .ok (.o (.dct [])))))
  (sSeq (sFor (iF (vl (eVar 5))) (.nm 3) (sSeq (sSet false 6 (e2 (dBin .Mod) (rd (e2 (dBin .Mult) (rVar 3) (rVar 1))) (rVar 4)))
  (sSeq (sSto 2 (vl (eC (.bl true))) (rd (e2 dIx (rd (eLst (seqR [vl (eVar 6), vl (e2 (dBin .Sub) (rVar 4) (rVar 6))]))) (rd (eCall fInt (seqR [rd (e2 (dCmp .Gt) (rd (e2 (dBin .Mult) (rd (eC (.int 2))) (rVar 6))) (rVar 4))]))))))
  (sNext))))
  (sSeq (sRet (eTup (seqR [vl (eVar 4), vl (eCall fTuple (seqR [rd (eCall fSorted (seqR [rVar 2]))]))])))
  (sNext))))
def d__law_times : List Sl → R O := defF 5 f__law_times
def f_near : Gm → R Out := sSeq (sExpr (rd (eUser d_need_ring (seqR [uVar 0]))))
  (sSeq (sExpr (rd (eUser d_need_place (seqR [uVar 0, uVar 1]))))
  (sSeq (sRet (eUser d_beside (seqR [uVar 0, uVar 1])))
  (sNext)))
def d_near : List Sl → R O := defF 0 f_near
def f_ties_each : Gm → R Out := sSeq (sExpr (rd (eUser d_need_ring (seqR [uVar 0]))))
  (sSeq (sRet (eCall fLen (seqR [rd (eUser d_beside (seqR [uVar 0, uVal (vl (eC (.int 0)))]))])))
  (sNext))
def d_ties_each : List Sl → R O := defF 0 f_ties_each
def f_ties : Gm → R Out := sSeq (sExpr (rd (eUser d_need_ring (seqR [uVar 0]))))
  (sSeq (sSet true 1 (eLst (seqR [])))
  (sSeq (sFor (iOf rngF1 (seqR [rd (e2 dIx (rVar 0) (rd (eC (.int 0))))])) (.nm 2) (sSeq (sExt 1 (rd (eLc (iF (rd (eUser d_beside (seqR [uVar 0, uVar 2])))) (.nm 3) (isB (e2 (dCmp .Gt) (rVar 3) (rVar 2))) (vl (eTup (seqR [vl (eVar 2), vl (eVar 3)]))) ([3]))))
  (sNext)))
  (sSeq (sRet (eCall fTuple (seqR [rVar 1])))
  (sNext))))
def d_ties : List Sl → R O := defF 3 f_ties
def f_pieces_of : Gm → R Out := sSeq (sSet false 1 (e2 dIx (rVar 0) (rd (eC (.int 0)))))
  (sSeq (sFor (iF (vl (e2 dIx (rVar 0) (rd (eC (.int 1)))))) (.nm 2) (sSeq (sSet false 1 (eUser d_common (seqR [uVar 1, uVar 2])))
  (sNext)))
  (sSeq (sRetV 1)
  (sNext)))
def d_pieces_of : List Sl → R O := defF 2 f_pieces_of
def f_is_whole : Gm → R Out := sSeq (sExpr (rd (eUser d_need_ring (seqR [uVar 0]))))
  (sSeq (sRet (e2 (dCmp .Eq) (rd (eUser d_pieces_of (seqR [uVar 0]))) (rd (eC (.int 1)))))
  (sNext))
def d_is_whole : List Sl → R O := defF 0 f_is_whole
def f_pieces : Gm → R Out := sSeq (sExpr (rd (eUser d_need_ring (seqR [uVar 0]))))
  (sSeq (sSet false 1 (eUser d_pieces_of (seqR [uVar 0])))
  (sSeq (sRet (eLc (iOf rngF1 (seqR [rVar 1])) (.nm 2) ((fun _ => .ok true)) (vl (eTupRg (seqR [rVar 2, rd (e2 dIx (rVar 0) (rd (eC (.int 0)))), rVar 1]))) ([2])))
  (sNext)))
def d_pieces : List Sl → R O := defF 2 f_pieces
def f_need_whole : Gm → R Out := sSeq (sIf (isB (e2 (dCmp .Gt) (rd (eUser d_pieces_of (seqR [uVar 0]))) (rd (eC (.int 1))))) (sSeq ((fun _ => .err "NotWhole"))
  (sNext)) (sNext))
  (sNext)
def d_need_whole : List Sl → R O := defF 0 f_need_whole
def f_wide : Gm → R Out := sSeq (sExpr (rd (eUser d_need_ring (seqR [uVar 0]))))
  (sSeq (sExpr (rd (eUser d_need_whole (seqR [uVar 0]))))
  (sSeq (sRet (eCall fMax (seqR [rd (eUser d_steps_of (seqR [uVar 0]))])))
  (sNext)))
def d_wide : List Sl → R O := defF 0 f_wide
def f_tally : Gm → R Out := sSeq (sExpr (rd (eUser d_need_ring (seqR [uVar 0]))))
  (sSeq (sExpr (rd (eUser d_need_whole (seqR [uVar 0]))))
  (sSeq (sSet false 1 (eUser d_steps_of (seqR [uVar 0])))
  (sSeq (sRet (eLc (iOf rngF1 (seqR [rd (e2 (dBin .Add) (rd (eCall fMax (seqR [rVar 1]))) (rd (eC (.int 1))))])) (.nm 2) ((fun _ => .ok true)) (vl (eMt cntD (rVar 1) (rVar 2))) ([2])))
  (sNext))))
def d_tally : List Sl → R O := defF 2 f_tally
def f_farthest : Gm → R Out := sSeq (sExpr (rd (eUser d_need_ring (seqR [uVar 0]))))
  (sSeq (sExpr (rd (eUser d_need_place (seqR [uVar 0, uVar 1]))))
  (sSeq (sExpr (rd (eUser d_need_whole (seqR [uVar 0]))))
  (sSeq (sSet false 2 (eUser d_steps_of (seqR [uVar 0])))
  (sSeq (sRet (eCall fTuple (seqR [rd (eCall fSorted (seqR [rd (eLc (iOf enumF (seqR [rVar 2])) (.tp [.nm 3, .nm 4]) (isB (e2 (dCmp .Eq) (rVar 4) (rd (eCall fMax (seqR [rVar 2]))))) (vl (e2 (dBin .Mod) (rd (e2 (dBin .Add) (rVar 1) (rVar 3))) (rd (e2 dIx (rVar 0) (rd (eC (.int 0))))))) ([3, 4]))]))])))
  (sNext)))))
def d_farthest : List Sl → R O := defF 3 f_farthest
def f_mean_far : Gm → R Out := sSeq (sExpr (rd (eUser d_need_ring (seqR [uVar 0]))))
  (sSeq (sExpr (rd (eUser d_need_whole (seqR [uVar 0]))))
  (sSeq (sSet false 1 (eCall fSum (seqR [rd (eUser d_steps_of (seqR [uVar 0]))])))
  (sSeq (sSet false 2 (eUser d_common (seqR [uVar 1, uVal (vl (e2 (dBin .Sub) (rd (e2 dIx (rVar 0) (rd (eC (.int 0))))) (rd (eC (.int 1)))))])))
  (sSeq (sRet (eTup (seqR [vl (e2 (dBin .FloorDiv) (rVar 1) (rVar 2)), vl (e2 (dBin .FloorDiv) (rd (e2 (dBin .Sub) (rd (e2 dIx (rVar 0) (rd (eC (.int 0))))) (rd (eC (.int 1))))) (rVar 2))])))
  (sNext)))))
def d_mean_far : List Sl → R O := defF 2 f_mean_far
def f_goes_short : Gm → R Out := sSeq (sRet (vAndF [eUser d_goes (seqR [uVar 0, uVar 1]), e2 (dCmp .Eq) (rd (e2 dIx (rd (eUser d_steps_of (seqR [uVar 0]))) (rd (e2 (dBin .Mod) (rd (e2 (dBin .Sub) (rd (e2 dIx (rVar 1) (rd (eNeg (rd (eC (.int 1))))))) (rd (e2 dIx (rVar 1) (rd (eC (.int 0))))))) (rd (e2 dIx (rVar 0) (rd (eC (.int 0))))))))) (rd (e2 (dBin .Sub) (rd (eCall fLen (seqR [rVar 1]))) (rd (eC (.int 1)))))]))
  (sNext)
def d_goes_short : List Sl → R O := defF 0 f_goes_short
def f_is_way : Gm → R Out := sSeq (sExpr (rd (eUser d_need_ring (seqR [uVar 0]))))
  (sSeq (sRet (eUser d_goes (seqR [uVar 0, uVar 1])))
  (sNext))
def d_is_way : List Sl → R O := defF 0 f_is_way
def f_is_shortest : Gm → R Out := sSeq (sExpr (rd (eUser d_need_ring (seqR [uVar 0]))))
  (sSeq (sRet (eUser d_goes_short (seqR [uVar 0, uVar 1])))
  (sNext))
def d_is_shortest : List Sl → R O := defF 0 f_is_shortest
def f_ways_from : Gm → R Out := sSeq (sSet false 1 (eUser d_steps_of (seqR [uVar 0])))
  (sSeq (sSet true 2 (e2 (dBin .Mult) (rd (eLst (seqR [vl (eC (.int 0))]))) (rd (e2 dIx (rVar 0) (rd (eC (.int 0)))))))
  (sSeq (sSto 2 (vl (eC (.int 1))) (rd (eC (.int 0))))
  (sSeq (sSet false 3 (eLc (iOf enumF (seqR [rVar 1])) (.tp [.nm 5, .nm 4]) (tAndF [isB (e2 (dCmp .IsNot) (rVar 4) (rd (eC .non))), isB (e2 (dCmp .Gt) (rVar 4) (rd (eC (.int 0))))]) (vl (eTup (seqR [vl (eVar 4), vl (eVar 5)]))) ([5, 4])))
  (sSeq (sFor (iF (vl (eCall fSorted (seqR [rVar 3])))) (.tp [.nm 4, .nm 5]) (sSeq (sSto 2 (vl (eCall fSum (seqR [rd (eLc (iF (rd (eUser d_beside (seqR [uVar 0, uVar 5])))) (.nm 6) (isB (e2 (dCmp .Eq) (rd (e2 dIx (rVar 1) (rVar 6))) (rd (e2 (dBin .Sub) (rVar 4) (rd (eC (.int 1))))))) (vl (e2 dIx (rVar 2) (rVar 6))) ([6]))]))) (rVar 5))
  (sNext)))
  (sSeq (sRetV 2)
  (sNext))))))
def d_ways_from : List Sl → R O := defF 6 f_ways_from
def f_need_two : Gm → R Out := sSeq (sExpr (rd (eUser d_need_ring (seqR [uVar 0]))))
  (sSeq (sExpr (rd (eUser d_need_place (seqR [uVar 0, uVar 1]))))
  (sSeq (sExpr (rd (eUser d_need_place (seqR [uVar 0, uVar 2]))))
  (sNext)))
def d_need_two : List Sl → R O := defF 0 f_need_two
def f_shortest_many : Gm → R Out := sSeq (sExpr (rd (eUser d_need_two (seqR [uVar 0, uVar 1, uVar 2]))))
  (sSeq (sRet (e2 dIx (rd (eUser d_ways_from (seqR [uVar 0]))) (rd (e2 (dBin .Mod) (rd (e2 (dBin .Sub) (rVar 2) (rVar 1))) (rd (e2 dIx (rVar 0) (rd (eC (.int 0)))))))))
  (sNext))
def d_shortest_many : List Sl → R O := defF 0 f_shortest_many
def f_nearer : Gm → R Out := sSeq (sSet false 4 (e2 dIx (rVar 0) (rd (eC (.int 0)))))
  (sSeq (sSet false 5 (e2 dIx (rVar 1) (rd (e2 (dBin .Mod) (rd (e2 (dBin .Sub) (rVar 3) (rVar 2))) (rVar 4)))))
  (sSeq (sRet (eLc (iF (rd (eUser d_beside (seqR [uVar 0, uVar 2])))) (.nm 6) (tAndF [isB (e2 (dCmp .IsNot) (rVar 5) (rd (eC .non))), isB (e2 (dCmp .Eq) (rd (e2 dIx (rVar 1) (rd (e2 (dBin .Mod) (rd (e2 (dBin .Sub) (rVar 3) (rVar 6))) (rVar 4))))) (rd (e2 (dBin .Sub) (rVar 5) (rd (eC (.int 1))))))]) (vl (eVar 6)) ([6])))
  (sNext)))
def d_nearer : List Sl → R O := defF 3 f_nearer
def f_shortest_at : Gm → R Out := sSeq (sExpr (rd (eUser d_need_two (seqR [uVar 0, uVar 1, uVar 2]))))
  (sSeq (sSet false 4 (eUser d_ways_from (seqR [uVar 0])))
  (sSeq (sIf (tNotF (tTru (rd (eUser d_is_number (seqR [uVar 3, uVal (vl (eC (.int 0))), uVal (vl (e2 (dBin .Sub) (rd (e2 dIx (rVar 4) (rd (e2 (dBin .Mod) (rd (e2 (dBin .Sub) (rVar 2) (rVar 1))) (rd (e2 dIx (rVar 0) (rd (eC (.int 0))))))))) (rd (eC (.int 1)))))]))))) (sSeq ((fun _ => .err "NoNumber"))
  (sNext)) (sNext))
  (sSeq (sSet false 5 (eUser d_steps_of (seqR [uVar 0])))
  (sSeq (sSet false 6 (eTup (seqR [vl (eVar 1)])))
  (sSeq (whR (isB (e2 (dCmp .NotEq) (rd (e2 dIx (rVar 6) (rd (eNeg (rd (eC (.int 1))))))) (rVar 2))) (sSeq (sFor (iF (vl (eUser d_nearer (seqR [uVar 0, uVar 5, uVal (vl (e2 dIx (rVar 6) (rd (eNeg (rd (eC (.int 1))))))), uVar 2])))) (.nm 7) (sSeq (sSet false 8 (e2 dIx (rVar 4) (rd (e2 (dBin .Mod) (rd (e2 (dBin .Sub) (rVar 2) (rVar 7))) (rd (e2 dIx (rVar 0) (rd (eC (.int 0)))))))))
  (sSeq (sIf (isB (e2 (dCmp .Lt) (rVar 3) (rVar 8))) (sSeq (sSet false 6 (e2 (dBin .Add) (rVar 6) (rd (eTup (seqR [vl (eVar 7)])))))
  (sSeq ((fun Γ => .ok (.bk Γ)))
  (sNext))) (sNext))
  (sSeq (sSet false 3 (e2 (dBin .Sub) (rVar 3) (rVar 8)))
  (sNext)))))
  (sNext)) whN)
  (sSeq (sRetV 6)
  (sNext)))))))
def d_shortest_at : List Sl → R O := defF 5 f_shortest_at
def f_number_of : Gm → R Out := sSeq (sExpr (rd (eUser d_need_ring (seqR [uVar 0]))))
  (sSeq (sIf (tNotF (tTru (rd (eUser d_goes_short (seqR [uVar 0, uVar 1]))))) (sSeq ((fun _ => .err "NoWay"))
  (sNext)) (sNext))
  (sSeq (sSet false 2 (eUser d_ways_from (seqR [uVar 0])))
  (sSeq (sSet false 3 (eUser d_steps_of (seqR [uVar 0])))
  (sSeq (sSet false 4 (eC (.int 0)))
  (sSeq (sFor (iOf rngF1 (seqR [rd (e2 (dBin .Sub) (rd (eCall fLen (seqR [rVar 1]))) (rd (eC (.int 1))))])) (.nm 5) (sSeq (sFor (iF (vl (eUser d_nearer (seqR [uVar 0, uVar 3, uVal (vl (e2 dIx (rVar 1) (rVar 5))), uVal (vl (e2 dIx (rVar 1) (rd (eNeg (rd (eC (.int 1)))))))])))) (.nm 6) (sSeq (sIf (isB (e2 (dCmp .Lt) (rVar 6) (rd (e2 dIx (rVar 1) (rd (e2 (dBin .Add) (rVar 5) (rd (eC (.int 1))))))))) (sSeq (sSet false 4 (e2 (dBin .Add) (rVar 4) (rd (e2 dIx (rVar 2) (rd (e2 (dBin .Mod) (rd (e2 (dBin .Sub) (rd (e2 dIx (rVar 1) (rd (eNeg (rd (eC (.int 1))))))) (rVar 6))) (rd (e2 dIx (rVar 0) (rd (eC (.int 0)))))))))))
  (sNext)) (sNext))
  (sNext)))
  (sNext)))
  (sSeq (sRetV 4)
  (sNext)))))))
def d_number_of : List Sl → R O := defF 5 f_number_of
def f_picks : Gm → R Out := sSeq (sSet false 2 (eLst (seqR [vl (eTup (seqR []))])))
  (sSeq (sFor (iOf rngF1 (seqR [rVar 1])) (.nm 3) (sSeq (sSet true 4 (eLst (seqR [])))
  (sSeq (sFor (iF (vl (eVar 2))) (.nm 5) (sSeq (sExt 4 (rd (eLc (iOf rngF2 (seqR [rd (e2 (dBin .Add) (rd (eIf (isB (e2 (dCmp .NotEq) (rVar 5) (rd (eTup (seqR []))))) (e2 dIx (rVar 5) (rd (eNeg (rd (eC (.int 1)))))) (eC (.int 0)))) (rd (eC (.int 1)))), rd (e2 (dBin .Add) (rVar 0) (rd (eC (.int 1))))])) (.nm 6) ((fun _ => .ok true)) (vl (e2 (dBin .Add) (rVar 5) (rd (eTup (seqR [vl (eVar 6)]))))) ([6]))))
  (sNext)))
  (sSeq ((fun Γ => (sSet false 2 (eVar 4)) (frz [4] Γ)))
  (sNext)))))
  (sSeq (sRetV 2)
  (sNext)))
def d_picks : List Sl → R O := defF 5 f_picks
def f_widths : Gm → R Out := sSeq (sExpr (rd (eUser d_need_number (seqR [uVar 0, uVal (vl (eC (.int 3))), uVal (vl (eC (.int 30)))]))))
  (sSeq (sExpr (rd (eUser d_need_number (seqR [uVar 1, uVal (vl (eC (.int 1))), uVal (vl (eCall fMin (seqR [rd (eC (.int 3)), rd (e2 (dBin .FloorDiv) (rVar 0) (rd (eC (.int 2))))])))]))))
  (sSeq (sSet true 2 (eLst (seqR [])))
  (sSeq (sFor (iF (vl (eUser d_picks (seqR [uVal (vl (e2 (dBin .FloorDiv) (rVar 0) (rd (eC (.int 2))))), uVar 1])))) (.nm 3) (sSeq (sIf (isB (e2 (dCmp .Eq) (rd (eUser d_pieces_of (seqR [uVal (vl (eTup (seqR [vl (eVar 0), vl (eVar 3)])))]))) (rd (eC (.int 1))))) (sSeq (sApp 2 (vl (eTup (seqR [vl (eCall fMax (seqR [rd (eUser d_steps_of (seqR [uVal (vl (eTup (seqR [vl (eVar 0), vl (eVar 3)])))]))])), vl (eVar 3)]))))
  (sNext)) (sNext))
  (sNext)))
  (sSeq (sRetV 2)
  (sNext)))))
def d_widths : List Sl → R O := defF 2 f_widths
def f_best_wide : Gm → R Out := sSeq (sRet (e2 dIx (rd (eCall fMin (seqR [rd (eUser d_widths (seqR [uVar 0, uVar 1]))]))) (rd (eC (.int 0)))))
  (sNext)
def d_best_wide : List Sl → R O := defF 0 f_best_wide
def f_all_best : Gm → R Out := sSeq (sSet false 2 (eUser d_widths (seqR [uVar 0, uVar 1])))
  (sSeq (sSet false 3 (e2 dIx (rd (eCall fMin (seqR [rVar 2]))) (rd (eC (.int 0)))))
  (sSeq (sRet (eLc (iF (rVar 2)) (.tp [.nm 4, .nm 5]) (isB (e2 (dCmp .Eq) (rVar 4) (rVar 3))) (vl (eVar 5)) ([4, 5])))
  (sNext)))
def d_all_best : List Sl → R O := defF 4 f_all_best
def f_best_leaps : Gm → R Out := sSeq (sRet (e2 dIx (rd (eCall fMin (seqR [rd (eUser d_widths (seqR [uVar 0, uVar 1]))]))) (rd (eC (.int 1)))))
  (sNext)
def d_best_leaps : List Sl → R O := defF 0 f_best_leaps
def f_choose : Gm → R Out := sSeq (sSet false 2 (eC (.int 1)))
  (sSeq (sFor (iOf rngF1 (seqR [rVar 1])) (.nm 3) (sSeq (sSet false 2 (e2 (dBin .FloorDiv) (rd (e2 (dBin .Mult) (rVar 2) (rd (e2 (dBin .Sub) (rVar 0) (rVar 3))))) (rd (e2 (dBin .Add) (rVar 3) (rd (eC (.int 1)))))))
  (sNext)))
  (sSeq (sRetV 2)
  (sNext)))
def d_choose : List Sl → R O := defF 2 f_choose
def f_room_of : Gm → R Out := sSeq (sRet (eCall fSum (seqR [rd (eLc (iOf rngF1 (seqR [rd (e2 (dBin .Add) (rVar 0) (rd (eC (.int 1))))])) (.nm 2) ((fun _ => .ok true)) (vl (e2 (dBin .Mult) (rd (e2 (dBin .Mult) (rd (e2 (dBin .LShift) (rd (eC (.int 1))) (rVar 2))) (rd (eUser d_choose (seqR [uVar 0, uVar 2]))))) (rd (eUser d_choose (seqR [uVar 1, uVar 2]))))) ([2]))])))
  (sNext)
def d_room_of : List Sl → R O := defF 1 f_room_of
def f_room : Gm → R Out := sSeq (sExpr (rd (eUser d_need_number (seqR [uVar 0, uVal (vl (eC (.int 1))), uVal (vl (eC (.int 4)))]))))
  (sSeq (sExpr (rd (eUser d_need_number (seqR [uVar 1, uVal (vl (eC (.int 0))), uVal (vl (eC (.int 100)))]))))
  (sSeq (sRet (eUser d_room_of (seqR [uVar 0, uVar 1])))
  (sNext)))
def d_room : List Sl → R O := defF 0 f_room
def f_least_wide : Gm → R Out := sSeq (sExpr (rd (eUser d_need_number (seqR [uVar 0, uVal (vl (eC (.int 3))), uVal (vl (eC (.int 100)))]))))
  (sSeq (sExpr (rd (eUser d_need_number (seqR [uVar 1, uVal (vl (eC (.int 1))), uVal (vl (eC (.int 4)))]))))
  (sSeq (sSet false 2 (eC (.int 0)))
  (sSeq (whR (isB (e2 (dCmp .Lt) (rd (eUser d_room_of (seqR [uVar 1, uVar 2]))) (rVar 0))) (sSeq (sSet false 2 (e2 (dBin .Add) (rVar 2) (rd (eC (.int 1)))))
  (sNext)) whN)
  (sSeq (sRetV 2)
  (sNext)))))
def d_least_wide : List Sl → R O := defF 1 f_least_wide
def f_tight : Gm → R Out := sSeq (sExpr (rd (eUser d_need_number (seqR [uVar 0, uVal (vl (eC (.int 1))), uVal (vl (eC (.int 6)))]))))
  (sSeq (sRet (eTup (seqR [vl (e2 (dBin .Add) (rd (e2 (dBin .Add) (rd (e2 (dBin .Mult) (rd (e2 (dBin .Mult) (rd (eC (.int 2))) (rVar 0))) (rVar 0))) (rd (e2 (dBin .Mult) (rd (eC (.int 2))) (rVar 0))))) (rd (eC (.int 1)))), vl (eTup (seqR [vl (eVar 0), vl (e2 (dBin .Add) (rVar 0) (rd (eC (.int 1))))]))])))
  (sNext))
def d_tight : List Sl → R O := defF 0 f_tight
end Pr

set_option Elab.async false
set_option linter.all false
set_option maxRecDepth 100000
set_option maxHeartbeats 1000000
namespace Pd
open PySem PySem.Spec L2 Pr

def Rets (r : R Out) (P : O → Prop) : Prop := ∃ o, r = .ok (.rt o) ∧ P o
theorem draw_i (c : Int) {k b : Int} (hk : 0 ≤ k) (hk2 : k < 1000000) (hb : 0 < b) (hb2 : b < 1073741824) : ∃ r : Nat, (r : Int) < b ∧ d__law_draw [.val (.int c), .val (.int k), .val (.int b)] = .ok (.v (.int r)) := by
  obtain ⟨r, h, e⟩ := draw_ok c k.toNat b.toNat (by omega) (by omega) (by omega)
  rw [Int.toNat_of_nonneg hk, Int.toNat_of_nonneg (by omega)] at e
  exact ⟨r, by omega, e⟩
theorem cell_i (ns : List Int) (k : Nat) : ∃ c : Int, d__law_cell_at [.val (.scr ns), .val (.int k)] = .ok (.v (.int c)) := cell_v ns k
theorem setN (ks : List Nat) : ∃ ls : List Nat, setL (ks.map fun n : Nat => (n : Int)) = ls.map (fun n : Nat => (n : Int)) ∧ (∀ n, n ∈ ls ↔ n ∈ ks) ∧ ls.Pairwise (· < ·) := by
  have hs := setL_ris (ks.map fun n : Nat => (n : Int))
  have h0 : (setL (ks.map fun n : Nat => (n : Int))).map (fun i => ((i.toNat : Nat) : Int)) = setL (ks.map fun n : Nat => (n : Int)) := by
    refine (List.map_congr_left fun i hi => ?_).trans (List.map_id _)
    obtain ⟨n, _, rfl⟩ := List.mem_map.mp (mem_setL.mp hi)
    rfl
  refine ⟨(setL (ks.map fun n : Nat => (n : Int))).map Int.toNat, ?_, fun n => ?_, ?_⟩
  · rw [List.map_map]
    exact h0.symm
  · constructor
    · intro h
      obtain ⟨i, hi, rfl⟩ := List.mem_map.mp h
      obtain ⟨n, hn, rfl⟩ := List.mem_map.mp (mem_setL.mp hi)
      exact hn
    · intro h
      exact List.mem_map.mpr ⟨(n : Int), mem_setL.mpr (List.mem_map_of_mem (f := fun n : Nat => (n : Int)) h), rfl⟩
  · rw [List.pairwise_map]
    have hn : ∀ i ∈ setL (ks.map fun n : Nat => (n : Int)), 0 ≤ i := fun i hi => by
      obtain ⟨n, _, rfl⟩ := List.mem_map.mp (mem_setL.mp hi)
      omega
    exact (List.Pairwise.and_mem.mp hs).imp fun ⟨ha, hb, h⟩ => by have := hn _ ha; have := hn _ hb; omega
theorem ris_ext : ∀ {a b : List Nat}, a.Pairwise (· < ·) → b.Pairwise (· < ·) → (∀ n, n ∈ a ↔ n ∈ b) → a = b
  | [], [], _, _, _ => rfl
  | [], y :: b, _, _, h => absurd ((h y).mpr (List.mem_cons_self ..)) (List.not_mem_nil)
  | x :: a, [], _, _, h => absurd ((h x).mp (List.mem_cons_self ..)) (List.not_mem_nil)
  | x :: a, y :: b, ha, hb, h => by
    rw [List.pairwise_cons] at ha hb
    have e : x = y := by
      have h1 := (h x).mp (List.mem_cons_self ..)
      have h2 := (h y).mpr (List.mem_cons_self ..)
      rw [List.mem_cons] at h1 h2
      rcases h1 with h1 | h1
      · exact h1
      · rcases h2 with h2 | h2
        · exact h2.symm
        · have := ha.1 y h2
          have := hb.1 x h1
          omega
    subst e
    congr 1
    refine ris_ext ha.2 hb.2 fun n => ⟨fun hn => ?_, fun hn => ?_⟩
    · have := (h n).mp (List.mem_cons_of_mem _ hn)
      rw [List.mem_cons] at this
      rcases this with rfl | this
      · exact absurd (ha.1 _ hn) (Nat.lt_irrefl _)
      · exact this
    · have := (h n).mpr (List.mem_cons_of_mem _ hn)
      rw [List.mem_cons] at this
      rcases this with rfl | this
      · exact absurd (hb.1 _ hn) (Nat.lt_irrefl _)
      · exact this
def truD1 (ks : List Nat) : D := .dct (ks.map fun n : Nat => (.int (n : Int), .bl true))
def addN (ks : List Nat) (k : Nat) : List Nat := if k ∈ ks then ks else ks ++ [k]
structure Ring (m : Nat) (ls : List Nat) : Prop where
  m3 : 3 ≤ m
  m100 : m ≤ 100
  ne : 0 < ls.length
  le4 : ls.length ≤ 4
  ris : ls.Pairwise (· < ·)
  pos : ∀ l ∈ ls, 0 < l
  half : ∀ l ∈ ls, l ≤ m / 2
def ringD (m : Nat) (ls : List Nat) : D := .tup [.int (m : Int), .tup (nD ls)]
theorem min_i (a b : Int) : fMin [.int a, .int b] = some (.v (.int (if b < a then b else a))) := rfl
theorem max_i (a b : Int) : fMax [.int a, .int b] = some (.v (.int (if b > a then b else a))) := rfl
end Pd

set_option Elab.async false
set_option linter.all false
set_option maxRecDepth 100000
set_option maxHeartbeats 1000000
namespace Pd
open PySem PySem.Spec L2 Pr

mutual
/-- data that isinstance knows, all through -/
def okD : D → Bool
  | .tup ds => okDs ds
  | .lst ds => okDs ds
  | .set _ => false
  | .ref _ => false
  | .ty _ => false
  | _ => true
def okDs : List D → Bool
  | [] => true
  | d :: ds => okD d && okDs ds
end
theorem ok_plain {d : D} (h : okD d = true) : plainD d = true := by
  cases d <;> first | rfl | (simp [okD] at h)
theorem okDs_all : ∀ {ds : List D}, okDs ds = true ↔ ∀ d ∈ ds, okD d = true
  | [] => by simp [okDs]
  | d :: ds => by rw [okDs, Bool.and_eq_true, okDs_all (ds := ds)]; simp
theorem ok_nD (l : List Nat) : okDs (nD l) = true := okDs_all.mpr fun d h => by
  obtain ⟨n, _, rfl⟩ := mem_nD.mp h
  rfl
theorem num_v {d : D} (a b : Int) (hp : okD d = true) : d_is_number [.val d, .val (.int a), .val (.int b)] = .ok (.v (.bl (isNum d a b))) := number_v a b (ok_plain hp)
def isT : D → Bool
  | .tup _ => true
  | _ => false
theorem isi_tup {d : D} (h : okD d = true) : fIsi [d, .ty "tuple"] = some (.v (.bl (isT d))) := by
  cases d <;> first | rfl | (simp [okD] at h)
theorem isNum_int {d : D} {a b : Int} (h : isNum d a b = true) : ∃ x : Int, d = .int x ∧ a ≤ x ∧ x ≤ b := by
  cases d <;> simp [isNum] at h
  exact ⟨_, rfl, h.1, h.2⟩
theorem all_b {α : Type} (f : α → Bool) (l : List α) : fAll [.lst (l.map fun a => .bl (f a))] = some (.v (.bl (l.all f))) := by
  have : blsOf (l.map fun a => .bl (f a)) = some (l.map f) := by
    induction l with
    | nil => rfl
    | cons a l ih => rw [List.map_cons, blsOf, ih]; rfl
  show (blsOf (l.map fun a => .bl (f a))).map (fun bs => O.v (.bl (bs.all id))) = _
  rw [this, Option.map_some, List.all_map]
  rfl
theorem getD_get {α : Type} {l : List α} {k : Nat} (x : α) (h : k < l.length) : l.getD k x = l[k] := by rw [List.getD_eq_getElem?_getD, List.getElem?_eq_getElem h]; rfl
def risL (l : List Int) : Bool := (List.range (l.length - 1)).all fun k => decide (l.getD k 0 < l.getD (k + 1) 0)
theorem atI_iD {l : List Int} {k : Nat} (h : k < l.length) : atI (iD l) (k : Int) = some (.int (l.getD k 0)) := by
  refine L2.atI_nat ?_
  unfold iD
  rw [List.getElem?_map, List.getElem?_eq_getElem h, getD_get _ h]
  rfl
theorem rises_v {l : List Int} (h0 : 0 < l.length) (h : l.length ≤ 1000) : d_rises [.val (.tup (iD l))] = .ok (.v (.bl (risL l))) := by
  have hl : ((iD l).length : Int) - 1 = ((l.length - 1 : Nat) : Int) := by rw [len_iD]; omega
  have e := lc_of (fi := iOf rngF1 (seqR [rd (e2 (dBin .Sub) (rd (eCall fLen (seqR [rVar 0]))) (rd (eC (.int 1))))])) (i := 1) (te := vl (e2 (dCmp .Lt) (rd (e2 dIx (rVar 0) (rVar 1))) (rd (e2 dIx (rVar 0) (rd (e2 (dBin .Add) (rVar 1) (rd (eC (.int 1))))))))) (vs := [1])
    (Γ := [.val (.tup (iD l)), .un]) (l := List.range (l.length - 1)) (φ := fun n : Nat => .int (n : Int)) (fun k => .bl (decide (l.getD k 0 < l.getD (k + 1) 0))) (by
      have := rng1 (n := l.length - 1) (by omega)
      simp (implicitDefEqProofs := false) (disch := omega) only [↓r_seq, ↓r_next, ↓r_if, ↓r_eif, ↓r_set, ↓r_ret, ↓r_retV, ↓r_expr, ↓r_asg, ↓r_par, ↓r_app, ↓r_ext, ↓r_sto, ↓r_or1, ↓r_or, ↓r_and1, ↓r_and, ↓r_vor1, ↓r_vor, ↓r_vand1, ↓r_vand, ↓r_not, ↓r_tru, ↓r_isB, ↓r_eC, ↓r_rd, ↓r_vl, ↓r_rV, ↓r_eV, ↓r_uV, ↓r_uVl, ↓r_sq0, ↓r_sq, ↓r_e2, ↓r_e3, ↓r_call, ↓r_user, ↓r_enot, ↓r_eneg, ↓r_tup, ↓r_lst, ↓r_sl, ↓r_noP, ↓r_aP, ↓r_iOf, ↓r_iF, ↓r_def, ↓r_ref, r_seqNx, r_seqRt, r_seqBk, r_seqCt, r_ifT, r_ifF, r_setV, r_setOt, r_setOl, r_setOd, r_setOs, r_retK, r_retVv, r_retVo, r_asgK, r_tgN, r_tgT, r_tgL, r_tgs0, r_tgs, r_parK, r_ownL, r_ownLo, r_ownD, r_ownDo, r_appK, r_appJ, r_extK, r_extJ, r_stoK, r_stoI, r_stoJ, r_stoL, r_orT, r_orF, r_andT, r_andF, r_vorK, r_vorT, r_vorF, r_vandK, r_vandT, r_vandF, r_notK, r_truK, r_truB, r_truI, r_truL, r_truT, r_truN, r_isBK, r_rdV, r_rdO, r_dV, r_dO, r_valV, r_valL, r_valD, r_rVv, r_rVo, r_rVb, r_eVv, r_uVv, r_uVo, r_uVb, r_uVlK, r_sqK, r_consK, r_opK, r_opJ, r_chK, r_chJ, r_chT, r_chF, r_clK, r_ntK, r_ngK, r_tpK, r_lsK, r_slK, r_slJ, r_slI, r_slL, r_slT, r_aPK, r_sqL, r_sqT, r_sqS, r_rtR, r_rtN, r_refO, r_refE, r_wdK, r_bAdd, r_bSub, r_bMul, r_bDiv, r_bMod, r_bPow, r_cLt, r_cLe, r_cGt, r_cGe, r_cEq, r_cNe, r_ixL, r_ixT, r_of, r_lenL, r_lenT, r_lenS, Pd.R.bind_ok, Pd.R.bind_err, Pd.R.bind_stuck, noE_ok', mul_r, div_i, mod_i, add_i, sub_i, lt_i, le_i, gt_i, ge_i, eq_i, ne_i, pow18, List.cons_append, List.nil_append, List.getElem?_cons_zero, List.getElem?_cons_succ, List.replicate_succ, List.replicate_zero, List.set_cons_zero, List.set_cons_succ, List.length_cons, List.length_nil, if_true, if_false, Bool.not_true, Bool.not_false, Bool.false_eq_true, ↓reduceIte, Nat.reduceAdd, Nat.reduceLeDiff, Nat.reduceLT, Nat.zero_add, Option.map_some, Int.cast_ofNat_Int, Int.natCast_one, Int.natCast_zero, Int.reduceBEq, Int.reduceLT, Int.reduceLE, Int.reduceAdd, Int.reduceSub, Int.reduceMul, Int.reduceNeg, Int.reduceDiv, Int.reduceMod, decide_true, decide_false, hl]
      exact this) (fun k hk => by
      have hk' := List.mem_range.mp hk
      have h1 : (k : Int) + 1 = ((k + 1 : Nat) : Int) := by omega
      simp (implicitDefEqProofs := false) (disch := omega) only [↓r_seq, ↓r_next, ↓r_if, ↓r_eif, ↓r_set, ↓r_ret, ↓r_retV, ↓r_expr, ↓r_asg, ↓r_par, ↓r_app, ↓r_ext, ↓r_sto, ↓r_or1, ↓r_or, ↓r_and1, ↓r_and, ↓r_vor1, ↓r_vor, ↓r_vand1, ↓r_vand, ↓r_not, ↓r_tru, ↓r_isB, ↓r_eC, ↓r_rd, ↓r_vl, ↓r_rV, ↓r_eV, ↓r_uV, ↓r_uVl, ↓r_sq0, ↓r_sq, ↓r_e2, ↓r_e3, ↓r_call, ↓r_user, ↓r_enot, ↓r_eneg, ↓r_tup, ↓r_lst, ↓r_sl, ↓r_noP, ↓r_aP, ↓r_iOf, ↓r_iF, ↓r_def, ↓r_ref, r_seqNx, r_seqRt, r_seqBk, r_seqCt, r_ifT, r_ifF, r_setV, r_setOt, r_setOl, r_setOd, r_setOs, r_retK, r_retVv, r_retVo, r_asgK, r_tgN, r_tgT, r_tgL, r_tgs0, r_tgs, r_parK, r_ownL, r_ownLo, r_ownD, r_ownDo, r_appK, r_appJ, r_extK, r_extJ, r_stoK, r_stoI, r_stoJ, r_stoL, r_orT, r_orF, r_andT, r_andF, r_vorK, r_vorT, r_vorF, r_vandK, r_vandT, r_vandF, r_notK, r_truK, r_truB, r_truI, r_truL, r_truT, r_truN, r_isBK, r_rdV, r_rdO, r_dV, r_dO, r_valV, r_valL, r_valD, r_rVv, r_rVo, r_rVb, r_eVv, r_uVv, r_uVo, r_uVb, r_uVlK, r_sqK, r_consK, r_opK, r_opJ, r_chK, r_chJ, r_chT, r_chF, r_clK, r_ntK, r_ngK, r_tpK, r_lsK, r_slK, r_slJ, r_slI, r_slL, r_slT, r_aPK, r_sqL, r_sqT, r_sqS, r_rtR, r_rtN, r_refO, r_refE, r_wdK, r_bAdd, r_bSub, r_bMul, r_bDiv, r_bMod, r_bPow, r_cLt, r_cLe, r_cGt, r_cGe, r_cEq, r_cNe, r_ixL, r_ixT, r_of, r_lenL, r_lenT, r_lenS, Pd.R.bind_ok, Pd.R.bind_err, Pd.R.bind_stuck, noE_ok', mul_r, div_i, mod_i, add_i, sub_i, lt_i, le_i, gt_i, ge_i, eq_i, ne_i, pow18, List.cons_append, List.nil_append, List.getElem?_cons_zero, List.getElem?_cons_succ, List.replicate_succ, List.replicate_zero, List.set_cons_zero, List.set_cons_succ, List.length_cons, List.length_nil, if_true, if_false, Bool.not_true, Bool.not_false, Bool.false_eq_true, ↓reduceIte, Nat.reduceAdd, Nat.reduceLeDiff, Nat.reduceLT, Nat.zero_add, Option.map_some, Int.cast_ofNat_Int, Int.natCast_one, Int.natCast_zero, Int.reduceBEq, Int.reduceLT, Int.reduceLE, Int.reduceAdd, Int.reduceSub, Int.reduceMul, Int.reduceNeg, Int.reduceDiv, Int.reduceMod, decide_true, decide_false, wipeG, h1, atI_iD (l := l) (k := k) (by omega), atI_iD (l := l) (k := k + 1) (by omega)])
  have ha := all_b (fun k => decide (l.getD k 0 < l.getD (k + 1) 0)) (List.range (l.length - 1))
  unfold d_rises f_rises
  simp (implicitDefEqProofs := false) (disch := omega) only [↓r_seq, ↓r_next, ↓r_if, ↓r_eif, ↓r_set, ↓r_ret, ↓r_retV, ↓r_expr, ↓r_asg, ↓r_par, ↓r_app, ↓r_ext, ↓r_sto, ↓r_or1, ↓r_or, ↓r_and1, ↓r_and, ↓r_vor1, ↓r_vor, ↓r_vand1, ↓r_vand, ↓r_not, ↓r_tru, ↓r_isB, ↓r_eC, ↓r_rd, ↓r_vl, ↓r_rV, ↓r_eV, ↓r_uV, ↓r_uVl, ↓r_sq0, ↓r_sq, ↓r_e2, ↓r_e3, ↓r_call, ↓r_user, ↓r_enot, ↓r_eneg, ↓r_tup, ↓r_lst, ↓r_sl, ↓r_noP, ↓r_aP, ↓r_iOf, ↓r_iF, ↓r_def, ↓r_ref, r_seqNx, r_seqRt, r_seqBk, r_seqCt, r_ifT, r_ifF, r_setV, r_setOt, r_setOl, r_setOd, r_setOs, r_retK, r_retVv, r_retVo, r_asgK, r_tgN, r_tgT, r_tgL, r_tgs0, r_tgs, r_parK, r_ownL, r_ownLo, r_ownD, r_ownDo, r_appK, r_appJ, r_extK, r_extJ, r_stoK, r_stoI, r_stoJ, r_stoL, r_orT, r_orF, r_andT, r_andF, r_vorK, r_vorT, r_vorF, r_vandK, r_vandT, r_vandF, r_notK, r_truK, r_truB, r_truI, r_truL, r_truT, r_truN, r_isBK, r_rdV, r_rdO, r_dV, r_dO, r_valV, r_valL, r_valD, r_rVv, r_rVo, r_rVb, r_eVv, r_uVv, r_uVo, r_uVb, r_uVlK, r_sqK, r_consK, r_opK, r_opJ, r_chK, r_chJ, r_chT, r_chF, r_clK, r_ntK, r_ngK, r_tpK, r_lsK, r_slK, r_slJ, r_slI, r_slL, r_slT, r_aPK, r_sqL, r_sqT, r_sqS, r_rtR, r_rtN, r_refO, r_refE, r_wdK, r_bAdd, r_bSub, r_bMul, r_bDiv, r_bMod, r_bPow, r_cLt, r_cLe, r_cGt, r_cGe, r_cEq, r_cNe, r_ixL, r_ixT, r_of, r_lenL, r_lenT, r_lenS, Pd.R.bind_ok, Pd.R.bind_err, Pd.R.bind_stuck, noE_ok', mul_r, div_i, mod_i, add_i, sub_i, lt_i, le_i, gt_i, ge_i, eq_i, ne_i, pow18, List.cons_append, List.nil_append, List.getElem?_cons_zero, List.getElem?_cons_succ, List.replicate_succ, List.replicate_zero, List.set_cons_zero, List.set_cons_succ, List.length_cons, List.length_nil, if_true, if_false, Bool.not_true, Bool.not_false, Bool.false_eq_true, ↓reduceIte, Nat.reduceAdd, Nat.reduceLeDiff, Nat.reduceLT, Nat.zero_add, Option.map_some, Int.cast_ofNat_Int, Int.natCast_one, Int.natCast_zero, Int.reduceBEq, Int.reduceLT, Int.reduceLE, Int.reduceAdd, Int.reduceSub, Int.reduceMul, Int.reduceNeg, Int.reduceDiv, Int.reduceMod, decide_true, decide_false, e, ha]
  rfl
theorem risL_iff : ∀ {l : List Int}, risL l = true ↔ l.Pairwise (· < ·) := by
  intro l
  unfold risL
  rw [List.all_eq_true]
  constructor
  · intro h
    have h' : ∀ k, k + 1 < l.length → l.getD k 0 < l.getD (k + 1) 0 := fun k hk => of_decide_eq_true (h k (List.mem_range.mpr (by omega)))
    rw [List.pairwise_iff_getElem]
    intro i j hi hj hij
    obtain ⟨n, rfl⟩ : ∃ n, j = i + 1 + n := ⟨j - i - 1, by omega⟩
    rw [← getD_get 0 hi, ← getD_get 0 hj]
    clear hij
    induction n with
    | zero => exact h' i hj
    | succ n ih => exact Int.lt_trans (ih (by omega)) (h' (i + 1 + n) hj)
  · intro h k hk
    have hk' := List.mem_range.mp hk
    rw [List.pairwise_iff_getElem] at h
    rw [decide_eq_true_eq, getD_get 0 (show k < l.length by omega), getD_get 0 (show k + 1 < l.length by omega)]
    exact h k (k + 1) (by omega) (by omega) (by omega)
def halfI : D → Int
  | .int x => x / 2
  | _ => 0
def risD (ls : List D) : Bool := match intsOf ls with
  | some l => risL l
  | none => false
def isRing : D → Bool
  | .tup [a, .tup ls] => isNum a 3 100 && ((decide (1 ≤ ls.length) && decide (ls.length ≤ 4)) && ((ls.all fun l => isNum l 1 (halfI a)) && risD ls))
  | _ => false
theorem isRing_eq (a : D) (ls : List D) : isRing (.tup [a, .tup ls]) = (isNum a 3 100 && ((decide (1 ≤ ls.length) && decide (ls.length ≤ 4)) && ((ls.all fun l => isNum l 1 (halfI a)) && risD ls))) := rfl
theorem all_ints : ∀ {ls : List D} {a b : Int}, (ls.all fun l => isNum l a b) = true → ∃ l : List Int, ls = iD l
  | [], _, _, _ => ⟨[], rfl⟩
  | d :: ls, a, b, h => by
    rw [List.all_cons, Bool.and_eq_true] at h
    obtain ⟨x, rfl, _, _⟩ := isNum_int h.1
    obtain ⟨l, rfl⟩ := all_ints h.2
    exact ⟨x :: l, rfl⟩
theorem leap_v {d : D} (h : okD d = true) : d_is_leapring [.val d] = .ok (.v (.bl (isRing d))) := by
  unfold d_is_leapring f_is_leapring
  have no : isT d = false → isRing d = false := by
    intro hd
    cases d <;> first | rfl | cases hd
  by_cases hd : isT d = true
  · obtain ⟨ds, rfl⟩ : ∃ ds, d = .tup ds := by
      cases d <;> first | exact ⟨_, rfl⟩ | cases hd
    have hT : fIsi [.tup ds, .ty "tuple"] = some (.v (.bl true)) := rfl
    have oks : ∀ d ∈ ds, okD d = true := okDs_all.mp (by rw [okD] at h; exact h)
    by_cases hl : ds.length = 2
    · match ds, hl with
      | [a, b], _ =>
        have oka := oks a (by simp)
        have okb := oks b (by simp)
        have hn := num_v 3 100 oka
        have h2 : (((0 : Int) + 1 + 1 == 2)) = true := rfl
        have i0 : atI [a, b] 0 = some a := rfl
        have i1 : atI [a, b] 1 = some b := rfl
        have hlen : (((0 + 1 + 1 : Nat) : Int) == 2) = true := rfl
        have hlen2 : ((([a, b] : List D).length : Int) == 2) = true := rfl
        by_cases hA : isNum a 3 100 = true
        · obtain ⟨x, rfl, x3, x100⟩ := isNum_int hA
          by_cases hB : isT b = true
          · obtain ⟨ls, rfl⟩ : ∃ ds, b = .tup ds := by
              cases b <;> first | exact ⟨_, rfl⟩ | cases hB
            have hT2 : fIsi [.tup ls, .ty "tuple"] = some (.v (.bl true)) := rfl
            have okl : ∀ d ∈ ls, okD d = true := okDs_all.mp (by rw [okD] at okb; exact okb)
            have part1 : (tOrF [tNotF (tTru (rd (eCall fIsi (seqR [rVar 0, rd (eC (.ty "tuple"))])))), isB (e2 (dCmp .NotEq) (rd (eCall fLen (seqR [rVar 0]))) (rd (eC (.int 2)))), tNotF (tTru (rd (eUser d_is_number (seqR [uVal (vl (e2 dIx (rVar 0) (rd (eC (.int 0))))), uVal (vl (eC (.int 3))), uVal (vl (eC (.int 100)))]))))]) [.val (.tup [.int x, .tup ls]), .un] = .ok false := by
              simp (implicitDefEqProofs := false) (disch := omega) only [↓r_seq, ↓r_next, ↓r_if, ↓r_eif, ↓r_set, ↓r_ret, ↓r_retV, ↓r_expr, ↓r_asg, ↓r_par, ↓r_app, ↓r_ext, ↓r_sto, ↓r_or1, ↓r_or, ↓r_and1, ↓r_and, ↓r_vor1, ↓r_vor, ↓r_vand1, ↓r_vand, ↓r_not, ↓r_tru, ↓r_isB, ↓r_eC, ↓r_rd, ↓r_vl, ↓r_rV, ↓r_eV, ↓r_uV, ↓r_uVl, ↓r_sq0, ↓r_sq, ↓r_e2, ↓r_e3, ↓r_call, ↓r_user, ↓r_enot, ↓r_eneg, ↓r_tup, ↓r_lst, ↓r_sl, ↓r_noP, ↓r_aP, ↓r_iOf, ↓r_iF, ↓r_def, ↓r_ref, r_seqNx, r_seqRt, r_seqBk, r_seqCt, r_ifT, r_ifF, r_setV, r_setOt, r_setOl, r_setOd, r_setOs, r_retK, r_retVv, r_retVo, r_asgK, r_tgN, r_tgT, r_tgL, r_tgs0, r_tgs, r_parK, r_ownL, r_ownLo, r_ownD, r_ownDo, r_appK, r_appJ, r_extK, r_extJ, r_stoK, r_stoI, r_stoJ, r_stoL, r_orT, r_orF, r_andT, r_andF, r_vorK, r_vorT, r_vorF, r_vandK, r_vandT, r_vandF, r_notK, r_truK, r_truB, r_truI, r_truL, r_truT, r_truN, r_isBK, r_rdV, r_rdO, r_dV, r_dO, r_valV, r_valL, r_valD, r_rVv, r_rVo, r_rVb, r_eVv, r_uVv, r_uVo, r_uVb, r_uVlK, r_sqK, r_consK, r_opK, r_opJ, r_chK, r_chJ, r_chT, r_chF, r_clK, r_ntK, r_ngK, r_tpK, r_lsK, r_slK, r_slJ, r_slI, r_slL, r_slT, r_aPK, r_sqL, r_sqT, r_sqS, r_rtR, r_rtN, r_refO, r_refE, r_wdK, r_bAdd, r_bSub, r_bMul, r_bDiv, r_bMod, r_bPow, r_cLt, r_cLe, r_cGt, r_cGe, r_cEq, r_cNe, r_ixL, r_ixT, r_of, r_lenL, r_lenT, r_lenS, Pd.R.bind_ok, Pd.R.bind_err, Pd.R.bind_stuck, noE_ok', mul_r, div_i, mod_i, add_i, sub_i, lt_i, le_i, gt_i, ge_i, eq_i, ne_i, pow18, List.cons_append, List.nil_append, List.getElem?_cons_zero, List.getElem?_cons_succ, List.replicate_succ, List.replicate_zero, List.set_cons_zero, List.set_cons_succ, List.length_cons, List.length_nil, if_true, if_false, Bool.not_true, Bool.not_false, Bool.false_eq_true, ↓reduceIte, Nat.reduceAdd, Nat.reduceLeDiff, Nat.reduceLT, Nat.zero_add, Option.map_some, Int.cast_ofNat_Int, Int.natCast_one, Int.natCast_zero, Int.reduceBEq, Int.reduceLT, Int.reduceLE, Int.reduceAdd, Int.reduceSub, Int.reduceMul, Int.reduceNeg, Int.reduceDiv, Int.reduceMod, decide_true, decide_false, hT, i0, hn, hA]
            by_cases hL1 : (1 : Int) ≤ (ls.length : Int)
            · by_cases hL4 : (ls.length : Int) ≤ 4
              · have e := lc_of (fi := iF (rd (e2 dIx (rVar 0) (rd (eC (.int 1)))))) (i := 1) (te := vl (eUser d_is_number (seqR [uVar 1, uVal (vl (eC (.int 1))), uVal (vl (e2 (dBin .FloorDiv) (rd (e2 dIx (rVar 0) (rd (eC (.int 0))))) (rd (eC (.int 2)))))]))) (vs := [1])
                  (Γ := [.val (.tup [.int x, .tup ls]), .un]) (l := ls) (φ := id) (fun l => .bl (isNum l 1 (x / 2))) (by simp (implicitDefEqProofs := false) (disch := omega) only [↓r_seq, ↓r_next, ↓r_if, ↓r_eif, ↓r_set, ↓r_ret, ↓r_retV, ↓r_expr, ↓r_asg, ↓r_par, ↓r_app, ↓r_ext, ↓r_sto, ↓r_or1, ↓r_or, ↓r_and1, ↓r_and, ↓r_vor1, ↓r_vor, ↓r_vand1, ↓r_vand, ↓r_not, ↓r_tru, ↓r_isB, ↓r_eC, ↓r_rd, ↓r_vl, ↓r_rV, ↓r_eV, ↓r_uV, ↓r_uVl, ↓r_sq0, ↓r_sq, ↓r_e2, ↓r_e3, ↓r_call, ↓r_user, ↓r_enot, ↓r_eneg, ↓r_tup, ↓r_lst, ↓r_sl, ↓r_noP, ↓r_aP, ↓r_iOf, ↓r_iF, ↓r_def, ↓r_ref, r_seqNx, r_seqRt, r_seqBk, r_seqCt, r_ifT, r_ifF, r_setV, r_setOt, r_setOl, r_setOd, r_setOs, r_retK, r_retVv, r_retVo, r_asgK, r_tgN, r_tgT, r_tgL, r_tgs0, r_tgs, r_parK, r_ownL, r_ownLo, r_ownD, r_ownDo, r_appK, r_appJ, r_extK, r_extJ, r_stoK, r_stoI, r_stoJ, r_stoL, r_orT, r_orF, r_andT, r_andF, r_vorK, r_vorT, r_vorF, r_vandK, r_vandT, r_vandF, r_notK, r_truK, r_truB, r_truI, r_truL, r_truT, r_truN, r_isBK, r_rdV, r_rdO, r_dV, r_dO, r_valV, r_valL, r_valD, r_rVv, r_rVo, r_rVb, r_eVv, r_uVv, r_uVo, r_uVb, r_uVlK, r_sqK, r_consK, r_opK, r_opJ, r_chK, r_chJ, r_chT, r_chF, r_clK, r_ntK, r_ngK, r_tpK, r_lsK, r_slK, r_slJ, r_slI, r_slL, r_slT, r_aPK, r_sqL, r_sqT, r_sqS, r_rtR, r_rtN, r_refO, r_refE, r_wdK, r_bAdd, r_bSub, r_bMul, r_bDiv, r_bMod, r_bPow, r_cLt, r_cLe, r_cGt, r_cGe, r_cEq, r_cNe, r_ixL, r_ixT, r_of, r_lenL, r_lenT, r_lenS, Pd.R.bind_ok, Pd.R.bind_err, Pd.R.bind_stuck, noE_ok', mul_r, div_i, mod_i, add_i, sub_i, lt_i, le_i, gt_i, ge_i, eq_i, ne_i, pow18, List.cons_append, List.nil_append, List.getElem?_cons_zero, List.getElem?_cons_succ, List.replicate_succ, List.replicate_zero, List.set_cons_zero, List.set_cons_succ, List.length_cons, List.length_nil, if_true, if_false, Bool.not_true, Bool.not_false, Bool.false_eq_true, ↓reduceIte, Nat.reduceAdd, Nat.reduceLeDiff, Nat.reduceLT, Nat.zero_add, Option.map_some, Int.cast_ofNat_Int, Int.natCast_one, Int.natCast_zero, Int.reduceBEq, Int.reduceLT, Int.reduceLE, Int.reduceAdd, Int.reduceSub, Int.reduceMul, Int.reduceNeg, Int.reduceDiv, Int.reduceMod, decide_true, decide_false, i1, List.map_id]) (fun l hl => by
                    simp (implicitDefEqProofs := false) (disch := omega) only [↓r_seq, ↓r_next, ↓r_if, ↓r_eif, ↓r_set, ↓r_ret, ↓r_retV, ↓r_expr, ↓r_asg, ↓r_par, ↓r_app, ↓r_ext, ↓r_sto, ↓r_or1, ↓r_or, ↓r_and1, ↓r_and, ↓r_vor1, ↓r_vor, ↓r_vand1, ↓r_vand, ↓r_not, ↓r_tru, ↓r_isB, ↓r_eC, ↓r_rd, ↓r_vl, ↓r_rV, ↓r_eV, ↓r_uV, ↓r_uVl, ↓r_sq0, ↓r_sq, ↓r_e2, ↓r_e3, ↓r_call, ↓r_user, ↓r_enot, ↓r_eneg, ↓r_tup, ↓r_lst, ↓r_sl, ↓r_noP, ↓r_aP, ↓r_iOf, ↓r_iF, ↓r_def, ↓r_ref, r_seqNx, r_seqRt, r_seqBk, r_seqCt, r_ifT, r_ifF, r_setV, r_setOt, r_setOl, r_setOd, r_setOs, r_retK, r_retVv, r_retVo, r_asgK, r_tgN, r_tgT, r_tgL, r_tgs0, r_tgs, r_parK, r_ownL, r_ownLo, r_ownD, r_ownDo, r_appK, r_appJ, r_extK, r_extJ, r_stoK, r_stoI, r_stoJ, r_stoL, r_orT, r_orF, r_andT, r_andF, r_vorK, r_vorT, r_vorF, r_vandK, r_vandT, r_vandF, r_notK, r_truK, r_truB, r_truI, r_truL, r_truT, r_truN, r_isBK, r_rdV, r_rdO, r_dV, r_dO, r_valV, r_valL, r_valD, r_rVv, r_rVo, r_rVb, r_eVv, r_uVv, r_uVo, r_uVb, r_uVlK, r_sqK, r_consK, r_opK, r_opJ, r_chK, r_chJ, r_chT, r_chF, r_clK, r_ntK, r_ngK, r_tpK, r_lsK, r_slK, r_slJ, r_slI, r_slL, r_slT, r_aPK, r_sqL, r_sqT, r_sqS, r_rtR, r_rtN, r_refO, r_refE, r_wdK, r_bAdd, r_bSub, r_bMul, r_bDiv, r_bMod, r_bPow, r_cLt, r_cLe, r_cGt, r_cGe, r_cEq, r_cNe, r_ixL, r_ixT, r_of, r_lenL, r_lenT, r_lenS, Pd.R.bind_ok, Pd.R.bind_err, Pd.R.bind_stuck, noE_ok', mul_r, div_i, mod_i, add_i, sub_i, lt_i, le_i, gt_i, ge_i, eq_i, ne_i, pow18, List.cons_append, List.nil_append, List.getElem?_cons_zero, List.getElem?_cons_succ, List.replicate_succ, List.replicate_zero, List.set_cons_zero, List.set_cons_succ, List.length_cons, List.length_nil, if_true, if_false, Bool.not_true, Bool.not_false, Bool.false_eq_true, ↓reduceIte, Nat.reduceAdd, Nat.reduceLeDiff, Nat.reduceLT, Nat.zero_add, Option.map_some, Int.cast_ofNat_Int, Int.natCast_one, Int.natCast_zero, Int.reduceBEq, Int.reduceLT, Int.reduceLE, Int.reduceAdd, Int.reduceSub, Int.reduceMul, Int.reduceNeg, Int.reduceDiv, Int.reduceMod, decide_true, decide_false, wipeG, i0, id, num_v 1 (x / 2) (okl l hl)])
                have ha := all_b (fun l => isNum l 1 (x / 2)) ls
                have hfin : isRing (.tup [.int x, .tup ls]) = ((ls.all fun l => isNum l 1 (x / 2)) && risD ls) := by
                  have a1 : 1 ≤ ls.length := by omega
                  have a4 : ls.length ≤ 4 := by omega
                  rw [isRing_eq, hA]
                  simp [a1, a4, halfI]
                rw [hfin]
                by_cases hall : (ls.all fun l => isNum l 1 (x / 2)) = true
                · obtain ⟨l, rfl⟩ := all_ints hall
                  rw [len_iD] at hL1 hL4
                  have hr := rises_v (l := l) (by omega) (by omega)
                  have hrd : risD (iD l) = risL l := by unfold risD; rw [intsOf_iD]
                  simp (implicitDefEqProofs := false) (disch := omega) only [↓r_seq, ↓r_next, ↓r_if, ↓r_eif, ↓r_set, ↓r_ret, ↓r_retV, ↓r_expr, ↓r_asg, ↓r_par, ↓r_app, ↓r_ext, ↓r_sto, ↓r_or1, ↓r_or, ↓r_and1, ↓r_and, ↓r_vor1, ↓r_vor, ↓r_vand1, ↓r_vand, ↓r_not, ↓r_tru, ↓r_isB, ↓r_eC, ↓r_rd, ↓r_vl, ↓r_rV, ↓r_eV, ↓r_uV, ↓r_uVl, ↓r_sq0, ↓r_sq, ↓r_e2, ↓r_e3, ↓r_call, ↓r_user, ↓r_enot, ↓r_eneg, ↓r_tup, ↓r_lst, ↓r_sl, ↓r_noP, ↓r_aP, ↓r_iOf, ↓r_iF, ↓r_def, ↓r_ref, r_seqNx, r_seqRt, r_seqBk, r_seqCt, r_ifT, r_ifF, r_setV, r_setOt, r_setOl, r_setOd, r_setOs, r_retK, r_retVv, r_retVo, r_asgK, r_tgN, r_tgT, r_tgL, r_tgs0, r_tgs, r_parK, r_ownL, r_ownLo, r_ownD, r_ownDo, r_appK, r_appJ, r_extK, r_extJ, r_stoK, r_stoI, r_stoJ, r_stoL, r_orT, r_orF, r_andT, r_andF, r_vorK, r_vorT, r_vorF, r_vandK, r_vandT, r_vandF, r_notK, r_truK, r_truB, r_truI, r_truL, r_truT, r_truN, r_isBK, r_rdV, r_rdO, r_dV, r_dO, r_valV, r_valL, r_valD, r_rVv, r_rVo, r_rVb, r_eVv, r_uVv, r_uVo, r_uVb, r_uVlK, r_sqK, r_consK, r_opK, r_opJ, r_chK, r_chJ, r_chT, r_chF, r_clK, r_ntK, r_ngK, r_tpK, r_lsK, r_slK, r_slJ, r_slI, r_slL, r_slT, r_aPK, r_sqL, r_sqT, r_sqS, r_rtR, r_rtN, r_refO, r_refE, r_wdK, r_bAdd, r_bSub, r_bMul, r_bDiv, r_bMod, r_bPow, r_cLt, r_cLe, r_cGt, r_cGe, r_cEq, r_cNe, r_ixL, r_ixT, r_of, r_lenL, r_lenT, r_lenS, Pd.R.bind_ok, Pd.R.bind_err, Pd.R.bind_stuck, noE_ok', mul_r, div_i, mod_i, add_i, sub_i, lt_i, le_i, gt_i, ge_i, eq_i, ne_i, pow18, List.cons_append, List.nil_append, List.getElem?_cons_zero, List.getElem?_cons_succ, List.replicate_succ, List.replicate_zero, List.set_cons_zero, List.set_cons_succ, List.length_cons, List.length_nil, if_true, if_false, Bool.not_true, Bool.not_false, Bool.false_eq_true, ↓reduceIte, Nat.reduceAdd, Nat.reduceLeDiff, Nat.reduceLT, Nat.zero_add, Option.map_some, Int.cast_ofNat_Int, Int.natCast_one, Int.natCast_zero, Int.reduceBEq, Int.reduceLT, Int.reduceLE, Int.reduceAdd, Int.reduceSub, Int.reduceMul, Int.reduceNeg, Int.reduceDiv, Int.reduceMod, decide_true, decide_false, part1, hT2, hL1, hL4, len_iD, decide_true, hT, hlen2, i0, i1, hn, hA, e, ha, hall, hr, hrd, Bool.true_and]
                · rw [Bool.not_eq_true] at hall
                  simp (implicitDefEqProofs := false) (disch := omega) only [↓r_seq, ↓r_next, ↓r_if, ↓r_eif, ↓r_set, ↓r_ret, ↓r_retV, ↓r_expr, ↓r_asg, ↓r_par, ↓r_app, ↓r_ext, ↓r_sto, ↓r_or1, ↓r_or, ↓r_and1, ↓r_and, ↓r_vor1, ↓r_vor, ↓r_vand1, ↓r_vand, ↓r_not, ↓r_tru, ↓r_isB, ↓r_eC, ↓r_rd, ↓r_vl, ↓r_rV, ↓r_eV, ↓r_uV, ↓r_uVl, ↓r_sq0, ↓r_sq, ↓r_e2, ↓r_e3, ↓r_call, ↓r_user, ↓r_enot, ↓r_eneg, ↓r_tup, ↓r_lst, ↓r_sl, ↓r_noP, ↓r_aP, ↓r_iOf, ↓r_iF, ↓r_def, ↓r_ref, r_seqNx, r_seqRt, r_seqBk, r_seqCt, r_ifT, r_ifF, r_setV, r_setOt, r_setOl, r_setOd, r_setOs, r_retK, r_retVv, r_retVo, r_asgK, r_tgN, r_tgT, r_tgL, r_tgs0, r_tgs, r_parK, r_ownL, r_ownLo, r_ownD, r_ownDo, r_appK, r_appJ, r_extK, r_extJ, r_stoK, r_stoI, r_stoJ, r_stoL, r_orT, r_orF, r_andT, r_andF, r_vorK, r_vorT, r_vorF, r_vandK, r_vandT, r_vandF, r_notK, r_truK, r_truB, r_truI, r_truL, r_truT, r_truN, r_isBK, r_rdV, r_rdO, r_dV, r_dO, r_valV, r_valL, r_valD, r_rVv, r_rVo, r_rVb, r_eVv, r_uVv, r_uVo, r_uVb, r_uVlK, r_sqK, r_consK, r_opK, r_opJ, r_chK, r_chJ, r_chT, r_chF, r_clK, r_ntK, r_ngK, r_tpK, r_lsK, r_slK, r_slJ, r_slI, r_slL, r_slT, r_aPK, r_sqL, r_sqT, r_sqS, r_rtR, r_rtN, r_refO, r_refE, r_wdK, r_bAdd, r_bSub, r_bMul, r_bDiv, r_bMod, r_bPow, r_cLt, r_cLe, r_cGt, r_cGe, r_cEq, r_cNe, r_ixL, r_ixT, r_of, r_lenL, r_lenT, r_lenS, Pd.R.bind_ok, Pd.R.bind_err, Pd.R.bind_stuck, noE_ok', mul_r, div_i, mod_i, add_i, sub_i, lt_i, le_i, gt_i, ge_i, eq_i, ne_i, pow18, List.cons_append, List.nil_append, List.getElem?_cons_zero, List.getElem?_cons_succ, List.replicate_succ, List.replicate_zero, List.set_cons_zero, List.set_cons_succ, List.length_cons, List.length_nil, if_true, if_false, Bool.not_true, Bool.not_false, Bool.false_eq_true, ↓reduceIte, Nat.reduceAdd, Nat.reduceLeDiff, Nat.reduceLT, Nat.zero_add, Option.map_some, Int.cast_ofNat_Int, Int.natCast_one, Int.natCast_zero, Int.reduceBEq, Int.reduceLT, Int.reduceLE, Int.reduceAdd, Int.reduceSub, Int.reduceMul, Int.reduceNeg, Int.reduceDiv, Int.reduceMod, decide_true, decide_false, part1, hT2, hL1, hL4, decide_true, hT, hlen2, i0, i1, hn, hA, e, ha, hall, Bool.false_and]
              · have hfin : isRing (.tup [.int x, .tup ls]) = false := by
                  have a4 : ¬ ls.length ≤ 4 := by omega
                  rw [isRing_eq]
                  simp [a4]
                rw [hfin]
                simp (implicitDefEqProofs := false) (disch := omega) only [↓r_seq, ↓r_next, ↓r_if, ↓r_eif, ↓r_set, ↓r_ret, ↓r_retV, ↓r_expr, ↓r_asg, ↓r_par, ↓r_app, ↓r_ext, ↓r_sto, ↓r_or1, ↓r_or, ↓r_and1, ↓r_and, ↓r_vor1, ↓r_vor, ↓r_vand1, ↓r_vand, ↓r_not, ↓r_tru, ↓r_isB, ↓r_eC, ↓r_rd, ↓r_vl, ↓r_rV, ↓r_eV, ↓r_uV, ↓r_uVl, ↓r_sq0, ↓r_sq, ↓r_e2, ↓r_e3, ↓r_call, ↓r_user, ↓r_enot, ↓r_eneg, ↓r_tup, ↓r_lst, ↓r_sl, ↓r_noP, ↓r_aP, ↓r_iOf, ↓r_iF, ↓r_def, ↓r_ref, r_seqNx, r_seqRt, r_seqBk, r_seqCt, r_ifT, r_ifF, r_setV, r_setOt, r_setOl, r_setOd, r_setOs, r_retK, r_retVv, r_retVo, r_asgK, r_tgN, r_tgT, r_tgL, r_tgs0, r_tgs, r_parK, r_ownL, r_ownLo, r_ownD, r_ownDo, r_appK, r_appJ, r_extK, r_extJ, r_stoK, r_stoI, r_stoJ, r_stoL, r_orT, r_orF, r_andT, r_andF, r_vorK, r_vorT, r_vorF, r_vandK, r_vandT, r_vandF, r_notK, r_truK, r_truB, r_truI, r_truL, r_truT, r_truN, r_isBK, r_rdV, r_rdO, r_dV, r_dO, r_valV, r_valL, r_valD, r_rVv, r_rVo, r_rVb, r_eVv, r_uVv, r_uVo, r_uVb, r_uVlK, r_sqK, r_consK, r_opK, r_opJ, r_chK, r_chJ, r_chT, r_chF, r_clK, r_ntK, r_ngK, r_tpK, r_lsK, r_slK, r_slJ, r_slI, r_slL, r_slT, r_aPK, r_sqL, r_sqT, r_sqS, r_rtR, r_rtN, r_refO, r_refE, r_wdK, r_bAdd, r_bSub, r_bMul, r_bDiv, r_bMod, r_bPow, r_cLt, r_cLe, r_cGt, r_cGe, r_cEq, r_cNe, r_ixL, r_ixT, r_of, r_lenL, r_lenT, r_lenS, Pd.R.bind_ok, Pd.R.bind_err, Pd.R.bind_stuck, noE_ok', mul_r, div_i, mod_i, add_i, sub_i, lt_i, le_i, gt_i, ge_i, eq_i, ne_i, pow18, List.cons_append, List.nil_append, List.getElem?_cons_zero, List.getElem?_cons_succ, List.replicate_succ, List.replicate_zero, List.set_cons_zero, List.set_cons_succ, List.length_cons, List.length_nil, if_true, if_false, Bool.not_true, Bool.not_false, Bool.false_eq_true, ↓reduceIte, Nat.reduceAdd, Nat.reduceLeDiff, Nat.reduceLT, Nat.zero_add, Option.map_some, Int.cast_ofNat_Int, Int.natCast_one, Int.natCast_zero, Int.reduceBEq, Int.reduceLT, Int.reduceLE, Int.reduceAdd, Int.reduceSub, Int.reduceMul, Int.reduceNeg, Int.reduceDiv, Int.reduceMod, decide_true, decide_false, part1, hT2, hL1, hL4, decide_true, decide_false, hT, hlen2, i0, i1, hn, hA]
            · have hfin : isRing (.tup [.int x, .tup ls]) = false := by
                have a1 : ¬ 1 ≤ ls.length := by omega
                rw [isRing_eq]
                simp [a1]
              rw [hfin]
              simp (implicitDefEqProofs := false) (disch := omega) only [↓r_seq, ↓r_next, ↓r_if, ↓r_eif, ↓r_set, ↓r_ret, ↓r_retV, ↓r_expr, ↓r_asg, ↓r_par, ↓r_app, ↓r_ext, ↓r_sto, ↓r_or1, ↓r_or, ↓r_and1, ↓r_and, ↓r_vor1, ↓r_vor, ↓r_vand1, ↓r_vand, ↓r_not, ↓r_tru, ↓r_isB, ↓r_eC, ↓r_rd, ↓r_vl, ↓r_rV, ↓r_eV, ↓r_uV, ↓r_uVl, ↓r_sq0, ↓r_sq, ↓r_e2, ↓r_e3, ↓r_call, ↓r_user, ↓r_enot, ↓r_eneg, ↓r_tup, ↓r_lst, ↓r_sl, ↓r_noP, ↓r_aP, ↓r_iOf, ↓r_iF, ↓r_def, ↓r_ref, r_seqNx, r_seqRt, r_seqBk, r_seqCt, r_ifT, r_ifF, r_setV, r_setOt, r_setOl, r_setOd, r_setOs, r_retK, r_retVv, r_retVo, r_asgK, r_tgN, r_tgT, r_tgL, r_tgs0, r_tgs, r_parK, r_ownL, r_ownLo, r_ownD, r_ownDo, r_appK, r_appJ, r_extK, r_extJ, r_stoK, r_stoI, r_stoJ, r_stoL, r_orT, r_orF, r_andT, r_andF, r_vorK, r_vorT, r_vorF, r_vandK, r_vandT, r_vandF, r_notK, r_truK, r_truB, r_truI, r_truL, r_truT, r_truN, r_isBK, r_rdV, r_rdO, r_dV, r_dO, r_valV, r_valL, r_valD, r_rVv, r_rVo, r_rVb, r_eVv, r_uVv, r_uVo, r_uVb, r_uVlK, r_sqK, r_consK, r_opK, r_opJ, r_chK, r_chJ, r_chT, r_chF, r_clK, r_ntK, r_ngK, r_tpK, r_lsK, r_slK, r_slJ, r_slI, r_slL, r_slT, r_aPK, r_sqL, r_sqT, r_sqS, r_rtR, r_rtN, r_refO, r_refE, r_wdK, r_bAdd, r_bSub, r_bMul, r_bDiv, r_bMod, r_bPow, r_cLt, r_cLe, r_cGt, r_cGe, r_cEq, r_cNe, r_ixL, r_ixT, r_of, r_lenL, r_lenT, r_lenS, Pd.R.bind_ok, Pd.R.bind_err, Pd.R.bind_stuck, noE_ok', mul_r, div_i, mod_i, add_i, sub_i, lt_i, le_i, gt_i, ge_i, eq_i, ne_i, pow18, List.cons_append, List.nil_append, List.getElem?_cons_zero, List.getElem?_cons_succ, List.replicate_succ, List.replicate_zero, List.set_cons_zero, List.set_cons_succ, List.length_cons, List.length_nil, if_true, if_false, Bool.not_true, Bool.not_false, Bool.false_eq_true, ↓reduceIte, Nat.reduceAdd, Nat.reduceLeDiff, Nat.reduceLT, Nat.zero_add, Option.map_some, Int.cast_ofNat_Int, Int.natCast_one, Int.natCast_zero, Int.reduceBEq, Int.reduceLT, Int.reduceLE, Int.reduceAdd, Int.reduceSub, Int.reduceMul, Int.reduceNeg, Int.reduceDiv, Int.reduceMod, decide_true, decide_false, part1, hT2, hL1, decide_false, hT, hlen2, i0, i1, hn, hA]
          · rw [Bool.not_eq_true] at hB
            have hfin : isRing (.tup [.int x, b]) = false := by
              cases b <;> first | rfl | cases hB
            rw [hfin]
            have hi := isi_tup okb
            simp (implicitDefEqProofs := false) (disch := omega) only [↓r_seq, ↓r_next, ↓r_if, ↓r_eif, ↓r_set, ↓r_ret, ↓r_retV, ↓r_expr, ↓r_asg, ↓r_par, ↓r_app, ↓r_ext, ↓r_sto, ↓r_or1, ↓r_or, ↓r_and1, ↓r_and, ↓r_vor1, ↓r_vor, ↓r_vand1, ↓r_vand, ↓r_not, ↓r_tru, ↓r_isB, ↓r_eC, ↓r_rd, ↓r_vl, ↓r_rV, ↓r_eV, ↓r_uV, ↓r_uVl, ↓r_sq0, ↓r_sq, ↓r_e2, ↓r_e3, ↓r_call, ↓r_user, ↓r_enot, ↓r_eneg, ↓r_tup, ↓r_lst, ↓r_sl, ↓r_noP, ↓r_aP, ↓r_iOf, ↓r_iF, ↓r_def, ↓r_ref, r_seqNx, r_seqRt, r_seqBk, r_seqCt, r_ifT, r_ifF, r_setV, r_setOt, r_setOl, r_setOd, r_setOs, r_retK, r_retVv, r_retVo, r_asgK, r_tgN, r_tgT, r_tgL, r_tgs0, r_tgs, r_parK, r_ownL, r_ownLo, r_ownD, r_ownDo, r_appK, r_appJ, r_extK, r_extJ, r_stoK, r_stoI, r_stoJ, r_stoL, r_orT, r_orF, r_andT, r_andF, r_vorK, r_vorT, r_vorF, r_vandK, r_vandT, r_vandF, r_notK, r_truK, r_truB, r_truI, r_truL, r_truT, r_truN, r_isBK, r_rdV, r_rdO, r_dV, r_dO, r_valV, r_valL, r_valD, r_rVv, r_rVo, r_rVb, r_eVv, r_uVv, r_uVo, r_uVb, r_uVlK, r_sqK, r_consK, r_opK, r_opJ, r_chK, r_chJ, r_chT, r_chF, r_clK, r_ntK, r_ngK, r_tpK, r_lsK, r_slK, r_slJ, r_slI, r_slL, r_slT, r_aPK, r_sqL, r_sqT, r_sqS, r_rtR, r_rtN, r_refO, r_refE, r_wdK, r_bAdd, r_bSub, r_bMul, r_bDiv, r_bMod, r_bPow, r_cLt, r_cLe, r_cGt, r_cGe, r_cEq, r_cNe, r_ixL, r_ixT, r_of, r_lenL, r_lenT, r_lenS, Pd.R.bind_ok, Pd.R.bind_err, Pd.R.bind_stuck, noE_ok', mul_r, div_i, mod_i, add_i, sub_i, lt_i, le_i, gt_i, ge_i, eq_i, ne_i, pow18, List.cons_append, List.nil_append, List.getElem?_cons_zero, List.getElem?_cons_succ, List.replicate_succ, List.replicate_zero, List.set_cons_zero, List.set_cons_succ, List.length_cons, List.length_nil, if_true, if_false, Bool.not_true, Bool.not_false, Bool.false_eq_true, ↓reduceIte, Nat.reduceAdd, Nat.reduceLeDiff, Nat.reduceLT, Nat.zero_add, Option.map_some, Int.cast_ofNat_Int, Int.natCast_one, Int.natCast_zero, Int.reduceBEq, Int.reduceLT, Int.reduceLE, Int.reduceAdd, Int.reduceSub, Int.reduceMul, Int.reduceNeg, Int.reduceDiv, Int.reduceMod, decide_true, decide_false, hT, hlen2, i0, i1, hn, hA, hi, hB]
        · rw [Bool.not_eq_true] at hA
          have hfin : isRing (.tup [a, b]) = false := by
            cases b <;> first | rfl | (rw [isRing_eq, hA]; rfl)
          rw [hfin]
          simp (implicitDefEqProofs := false) (disch := omega) only [↓r_seq, ↓r_next, ↓r_if, ↓r_eif, ↓r_set, ↓r_ret, ↓r_retV, ↓r_expr, ↓r_asg, ↓r_par, ↓r_app, ↓r_ext, ↓r_sto, ↓r_or1, ↓r_or, ↓r_and1, ↓r_and, ↓r_vor1, ↓r_vor, ↓r_vand1, ↓r_vand, ↓r_not, ↓r_tru, ↓r_isB, ↓r_eC, ↓r_rd, ↓r_vl, ↓r_rV, ↓r_eV, ↓r_uV, ↓r_uVl, ↓r_sq0, ↓r_sq, ↓r_e2, ↓r_e3, ↓r_call, ↓r_user, ↓r_enot, ↓r_eneg, ↓r_tup, ↓r_lst, ↓r_sl, ↓r_noP, ↓r_aP, ↓r_iOf, ↓r_iF, ↓r_def, ↓r_ref, r_seqNx, r_seqRt, r_seqBk, r_seqCt, r_ifT, r_ifF, r_setV, r_setOt, r_setOl, r_setOd, r_setOs, r_retK, r_retVv, r_retVo, r_asgK, r_tgN, r_tgT, r_tgL, r_tgs0, r_tgs, r_parK, r_ownL, r_ownLo, r_ownD, r_ownDo, r_appK, r_appJ, r_extK, r_extJ, r_stoK, r_stoI, r_stoJ, r_stoL, r_orT, r_orF, r_andT, r_andF, r_vorK, r_vorT, r_vorF, r_vandK, r_vandT, r_vandF, r_notK, r_truK, r_truB, r_truI, r_truL, r_truT, r_truN, r_isBK, r_rdV, r_rdO, r_dV, r_dO, r_valV, r_valL, r_valD, r_rVv, r_rVo, r_rVb, r_eVv, r_uVv, r_uVo, r_uVb, r_uVlK, r_sqK, r_consK, r_opK, r_opJ, r_chK, r_chJ, r_chT, r_chF, r_clK, r_ntK, r_ngK, r_tpK, r_lsK, r_slK, r_slJ, r_slI, r_slL, r_slT, r_aPK, r_sqL, r_sqT, r_sqS, r_rtR, r_rtN, r_refO, r_refE, r_wdK, r_bAdd, r_bSub, r_bMul, r_bDiv, r_bMod, r_bPow, r_cLt, r_cLe, r_cGt, r_cGe, r_cEq, r_cNe, r_ixL, r_ixT, r_of, r_lenL, r_lenT, r_lenS, Pd.R.bind_ok, Pd.R.bind_err, Pd.R.bind_stuck, noE_ok', mul_r, div_i, mod_i, add_i, sub_i, lt_i, le_i, gt_i, ge_i, eq_i, ne_i, pow18, List.cons_append, List.nil_append, List.getElem?_cons_zero, List.getElem?_cons_succ, List.replicate_succ, List.replicate_zero, List.set_cons_zero, List.set_cons_succ, List.length_cons, List.length_nil, if_true, if_false, Bool.not_true, Bool.not_false, Bool.false_eq_true, ↓reduceIte, Nat.reduceAdd, Nat.reduceLeDiff, Nat.reduceLT, Nat.zero_add, Option.map_some, Int.cast_ofNat_Int, Int.natCast_one, Int.natCast_zero, Int.reduceBEq, Int.reduceLT, Int.reduceLE, Int.reduceAdd, Int.reduceSub, Int.reduceMul, Int.reduceNeg, Int.reduceDiv, Int.reduceMod, decide_true, decide_false, hT, hlen2, i0, hn, hA]
    · have hne : ((ds.length : Int) == 2) = false := by
        rw [beq_eq_false_iff_ne]
        omega
      have hfin : isRing (.tup ds) = false := by
        unfold isRing
        split
        · rename_i e
          cases e
          exact absurd rfl hl
        · rfl
      rw [hfin]
      simp (implicitDefEqProofs := false) (disch := omega) only [↓r_seq, ↓r_next, ↓r_if, ↓r_eif, ↓r_set, ↓r_ret, ↓r_retV, ↓r_expr, ↓r_asg, ↓r_par, ↓r_app, ↓r_ext, ↓r_sto, ↓r_or1, ↓r_or, ↓r_and1, ↓r_and, ↓r_vor1, ↓r_vor, ↓r_vand1, ↓r_vand, ↓r_not, ↓r_tru, ↓r_isB, ↓r_eC, ↓r_rd, ↓r_vl, ↓r_rV, ↓r_eV, ↓r_uV, ↓r_uVl, ↓r_sq0, ↓r_sq, ↓r_e2, ↓r_e3, ↓r_call, ↓r_user, ↓r_enot, ↓r_eneg, ↓r_tup, ↓r_lst, ↓r_sl, ↓r_noP, ↓r_aP, ↓r_iOf, ↓r_iF, ↓r_def, ↓r_ref, r_seqNx, r_seqRt, r_seqBk, r_seqCt, r_ifT, r_ifF, r_setV, r_setOt, r_setOl, r_setOd, r_setOs, r_retK, r_retVv, r_retVo, r_asgK, r_tgN, r_tgT, r_tgL, r_tgs0, r_tgs, r_parK, r_ownL, r_ownLo, r_ownD, r_ownDo, r_appK, r_appJ, r_extK, r_extJ, r_stoK, r_stoI, r_stoJ, r_stoL, r_orT, r_orF, r_andT, r_andF, r_vorK, r_vorT, r_vorF, r_vandK, r_vandT, r_vandF, r_notK, r_truK, r_truB, r_truI, r_truL, r_truT, r_truN, r_isBK, r_rdV, r_rdO, r_dV, r_dO, r_valV, r_valL, r_valD, r_rVv, r_rVo, r_rVb, r_eVv, r_uVv, r_uVo, r_uVb, r_uVlK, r_sqK, r_consK, r_opK, r_opJ, r_chK, r_chJ, r_chT, r_chF, r_clK, r_ntK, r_ngK, r_tpK, r_lsK, r_slK, r_slJ, r_slI, r_slL, r_slT, r_aPK, r_sqL, r_sqT, r_sqS, r_rtR, r_rtN, r_refO, r_refE, r_wdK, r_bAdd, r_bSub, r_bMul, r_bDiv, r_bMod, r_bPow, r_cLt, r_cLe, r_cGt, r_cGe, r_cEq, r_cNe, r_ixL, r_ixT, r_of, r_lenL, r_lenT, r_lenS, Pd.R.bind_ok, Pd.R.bind_err, Pd.R.bind_stuck, noE_ok', mul_r, div_i, mod_i, add_i, sub_i, lt_i, le_i, gt_i, ge_i, eq_i, ne_i, pow18, List.cons_append, List.nil_append, List.getElem?_cons_zero, List.getElem?_cons_succ, List.replicate_succ, List.replicate_zero, List.set_cons_zero, List.set_cons_succ, List.length_cons, List.length_nil, if_true, if_false, Bool.not_true, Bool.not_false, Bool.false_eq_true, ↓reduceIte, Nat.reduceAdd, Nat.reduceLeDiff, Nat.reduceLT, Nat.zero_add, Option.map_some, Int.cast_ofNat_Int, Int.natCast_one, Int.natCast_zero, Int.reduceBEq, Int.reduceLT, Int.reduceLE, Int.reduceAdd, Int.reduceSub, Int.reduceMul, Int.reduceNeg, Int.reduceDiv, Int.reduceMod, decide_true, decide_false, hT, hne]
  · rw [Bool.not_eq_true] at hd
    have hi := isi_tup h
    simp (implicitDefEqProofs := false) (disch := omega) only [↓r_seq, ↓r_next, ↓r_if, ↓r_eif, ↓r_set, ↓r_ret, ↓r_retV, ↓r_expr, ↓r_asg, ↓r_par, ↓r_app, ↓r_ext, ↓r_sto, ↓r_or1, ↓r_or, ↓r_and1, ↓r_and, ↓r_vor1, ↓r_vor, ↓r_vand1, ↓r_vand, ↓r_not, ↓r_tru, ↓r_isB, ↓r_eC, ↓r_rd, ↓r_vl, ↓r_rV, ↓r_eV, ↓r_uV, ↓r_uVl, ↓r_sq0, ↓r_sq, ↓r_e2, ↓r_e3, ↓r_call, ↓r_user, ↓r_enot, ↓r_eneg, ↓r_tup, ↓r_lst, ↓r_sl, ↓r_noP, ↓r_aP, ↓r_iOf, ↓r_iF, ↓r_def, ↓r_ref, r_seqNx, r_seqRt, r_seqBk, r_seqCt, r_ifT, r_ifF, r_setV, r_setOt, r_setOl, r_setOd, r_setOs, r_retK, r_retVv, r_retVo, r_asgK, r_tgN, r_tgT, r_tgL, r_tgs0, r_tgs, r_parK, r_ownL, r_ownLo, r_ownD, r_ownDo, r_appK, r_appJ, r_extK, r_extJ, r_stoK, r_stoI, r_stoJ, r_stoL, r_orT, r_orF, r_andT, r_andF, r_vorK, r_vorT, r_vorF, r_vandK, r_vandT, r_vandF, r_notK, r_truK, r_truB, r_truI, r_truL, r_truT, r_truN, r_isBK, r_rdV, r_rdO, r_dV, r_dO, r_valV, r_valL, r_valD, r_rVv, r_rVo, r_rVb, r_eVv, r_uVv, r_uVo, r_uVb, r_uVlK, r_sqK, r_consK, r_opK, r_opJ, r_chK, r_chJ, r_chT, r_chF, r_clK, r_ntK, r_ngK, r_tpK, r_lsK, r_slK, r_slJ, r_slI, r_slL, r_slT, r_aPK, r_sqL, r_sqT, r_sqS, r_rtR, r_rtN, r_refO, r_refE, r_wdK, r_bAdd, r_bSub, r_bMul, r_bDiv, r_bMod, r_bPow, r_cLt, r_cLe, r_cGt, r_cGe, r_cEq, r_cNe, r_ixL, r_ixT, r_of, r_lenL, r_lenT, r_lenS, Pd.R.bind_ok, Pd.R.bind_err, Pd.R.bind_stuck, noE_ok', mul_r, div_i, mod_i, add_i, sub_i, lt_i, le_i, gt_i, ge_i, eq_i, ne_i, pow18, List.cons_append, List.nil_append, List.getElem?_cons_zero, List.getElem?_cons_succ, List.replicate_succ, List.replicate_zero, List.set_cons_zero, List.set_cons_succ, List.length_cons, List.length_nil, if_true, if_false, Bool.not_true, Bool.not_false, Bool.false_eq_true, ↓reduceIte, Nat.reduceAdd, Nat.reduceLeDiff, Nat.reduceLT, Nat.zero_add, Option.map_some, Int.cast_ofNat_Int, Int.natCast_one, Int.natCast_zero, Int.reduceBEq, Int.reduceLT, Int.reduceLE, Int.reduceAdd, Int.reduceSub, Int.reduceMul, Int.reduceNeg, Int.reduceDiv, Int.reduceMod, decide_true, decide_false, hi, hd, no hd]
theorem need_ring_v {d : D} (h : okD d = true) : d_need_ring [.val d] = if isRing d = true then .ok (.v .non) else .err "NoRing" := by
  have e := leap_v h
  unfold d_need_ring f_need_ring
  generalize isRing d = k at e ⊢
  cases k <;> simp (implicitDefEqProofs := false) (disch := omega) only [↓r_seq, ↓r_next, ↓r_if, ↓r_eif, ↓r_set, ↓r_ret, ↓r_retV, ↓r_expr, ↓r_asg, ↓r_par, ↓r_app, ↓r_ext, ↓r_sto, ↓r_or1, ↓r_or, ↓r_and1, ↓r_and, ↓r_vor1, ↓r_vor, ↓r_vand1, ↓r_vand, ↓r_not, ↓r_tru, ↓r_isB, ↓r_eC, ↓r_rd, ↓r_vl, ↓r_rV, ↓r_eV, ↓r_uV, ↓r_uVl, ↓r_sq0, ↓r_sq, ↓r_e2, ↓r_e3, ↓r_call, ↓r_user, ↓r_enot, ↓r_eneg, ↓r_tup, ↓r_lst, ↓r_sl, ↓r_noP, ↓r_aP, ↓r_iOf, ↓r_iF, ↓r_def, ↓r_ref, r_seqNx, r_seqRt, r_seqBk, r_seqCt, r_ifT, r_ifF, r_setV, r_setOt, r_setOl, r_setOd, r_setOs, r_retK, r_retVv, r_retVo, r_asgK, r_tgN, r_tgT, r_tgL, r_tgs0, r_tgs, r_parK, r_ownL, r_ownLo, r_ownD, r_ownDo, r_appK, r_appJ, r_extK, r_extJ, r_stoK, r_stoI, r_stoJ, r_stoL, r_orT, r_orF, r_andT, r_andF, r_vorK, r_vorT, r_vorF, r_vandK, r_vandT, r_vandF, r_notK, r_truK, r_truB, r_truI, r_truL, r_truT, r_truN, r_isBK, r_rdV, r_rdO, r_dV, r_dO, r_valV, r_valL, r_valD, r_rVv, r_rVo, r_rVb, r_eVv, r_uVv, r_uVo, r_uVb, r_uVlK, r_sqK, r_consK, r_opK, r_opJ, r_chK, r_chJ, r_chT, r_chF, r_clK, r_ntK, r_ngK, r_tpK, r_lsK, r_slK, r_slJ, r_slI, r_slL, r_slT, r_aPK, r_sqL, r_sqT, r_sqS, r_rtR, r_rtN, r_refO, r_refE, r_wdK, r_bAdd, r_bSub, r_bMul, r_bDiv, r_bMod, r_bPow, r_cLt, r_cLe, r_cGt, r_cGe, r_cEq, r_cNe, r_ixL, r_ixT, r_of, r_lenL, r_lenT, r_lenS, Pd.R.bind_ok, Pd.R.bind_err, Pd.R.bind_stuck, noE_ok', mul_r, div_i, mod_i, add_i, sub_i, lt_i, le_i, gt_i, ge_i, eq_i, ne_i, pow18, List.cons_append, List.nil_append, List.getElem?_cons_zero, List.getElem?_cons_succ, List.replicate_succ, List.replicate_zero, List.set_cons_zero, List.set_cons_succ, List.length_cons, List.length_nil, if_true, if_false, Bool.not_true, Bool.not_false, Bool.false_eq_true, ↓reduceIte, Nat.reduceAdd, Nat.reduceLeDiff, Nat.reduceLT, Nat.zero_add, Option.map_some, Int.cast_ofNat_Int, Int.natCast_one, Int.natCast_zero, Int.reduceBEq, Int.reduceLT, Int.reduceLE, Int.reduceAdd, Int.reduceSub, Int.reduceMul, Int.reduceNeg, Int.reduceDiv, Int.reduceMod, decide_true, decide_false, e]
theorem ok_ring (m : Nat) (ls : List Nat) : okD (ringD m ls) = true := by
  unfold ringD
  rw [okD, okDs, okDs, okDs, okD, okD, ok_nD]
  · rfl
  all_goals simp
theorem is_ring {m : Nat} {ls : List Nat} (R : Ring m ls) : isRing (ringD m ls) = true := by
  have h1 : (nD ls).length = ls.length := len_nD ls
  have h3 := R.m3
  have h4 := R.m100
  have h5 : ((nD ls).all fun l => isNum l 1 (halfI (.int m))) = true := by
    rw [List.all_eq_true]
    intro d hd
    obtain ⟨n, hn, rfl⟩ := mem_nD.mp hd
    have a1 := R.pos n hn
    have a2 := R.half n hn
    rw [show halfI (.int (m : Int)) = (m : Int) / 2 from rfl]
    unfold isNum
    rw [Bool.and_eq_true, decide_eq_true_eq, decide_eq_true_eq]
    omega
  have h6 : risD (nD ls) = true := by
    unfold risD
    rw [nD_iD, intsOf_iD]
    refine risL_iff.mpr ?_
    rw [List.pairwise_map]
    exact R.ris.imp fun h => by omega
  unfold isRing ringD
  dsimp only
  rw [h5, h6, h1]
  have := R.ne
  have := R.le4
  have b1 : isNum (.int m) 3 100 = true := by
    unfold isNum
    rw [Bool.and_eq_true, decide_eq_true_eq, decide_eq_true_eq]
    omega
  rw [b1]
  simp
  omega
theorem need_ring_ok {m : Nat} {ls : List Nat} (R : Ring m ls) : d_need_ring [.val (ringD m ls)] = .ok (.v .non) := (need_ring_v (ok_ring m ls)).trans (if_pos (is_ring R))
end Pd

set_option Elab.async false
set_option linter.all false
set_option maxRecDepth 100000
set_option maxHeartbeats 1000000
namespace Pd
open PySem PySem.Spec L2 Pr

theorem add_l {a b : List D} (h : a.length + b.length ≤ 16777216) : dAdd (.lst a) (.lst b) = some (.o (.lst (a ++ b))) := if_pos h
def oddLeaps (m : Nat) (ls : List Nat) : List D := [.int 0, .int (-1), .int ((m : Int) / 2 + 1), .bl true, .non, .str "1", .tup [.int 1], .int m, .int (-((ls.headD 1 : Nat) : Int)), .int 100000000000000000000]
def badRings (m : Nat) (ls : List Nat) (s : Nat) (x : D) : List D :=
  [.tup [.int 2, .tup [.int 1]], .tup [.int 101, .tup [.int 1]], .tup [.bl true, .tup [.int 1]], .tup [.int m, .tup []], .tup [.int m, .lst (nD ls)], .lst [.int m, .tup (nD ls)], .tup [.int m],
   .non, .str "1", .int 7, .dct [], .tup [.int m, .tup (nD ls), .tup []], .tup [.int m, .tup [.int 1, .int 2, .int 3, .int 4, .int 5]], .tup [.str (toString (m : Int)), .tup (nD ls)], .tup [.int m, .non],
   .tup [.int m, .tup ((nD ls).take s ++ [x] ++ (nD ls).drop (s + 1))],
   .tup [.int m, .tup ((nD ls).take s ++ ((nD ls).drop s).take 1 ++ (nD ls).drop s)]]
def badPlaces (m : Nat) : List D := [.int m, .int (-1), .bl true, .non, .str "0", .tup [.int 0], .lst [.int 0], .int ((m : Int) + 10000000000000000000000000000), .int (-100000000000000000000), .dct [], .bl false]
end Pd

set_option Elab.async false
set_option linter.all false
set_option maxRecDepth 100000
set_option maxHeartbeats 1000000
namespace Pd
open PySem PySem.Spec L2 Pr

theorem go_of {α : Type} {fi : Gm → R (List D)} {t : Nat} {b : Gm → R Out} {φ : α → D} {l : List α} (P : List α → Gm → Prop) {Γ : Gm} (e : fi Γ = .ok (l.map φ)) (p : P [] Γ) (h : ∀ (a c : List α) (x : α) (Γ : Gm), l = a ++ x :: c → P a Γ → Go (b (Γ.set t (.val (φ x)))) (P (a ++ [x]))) : Go (sFor fi (.nm t) b Γ) (P l) := by
  rw [show sFor fi (.nm t) b Γ = forR (.nm t) b (l.map φ) Γ from sFor_eq e]
  have : ∀ (r pre : List α) (Γ : Gm), l = pre ++ r → P pre Γ → Go (forR (.nm t) b (r.map φ) Γ) (P l) := by
    intro r
    induction r with
    | nil => intro pre Γ e p; rw [List.append_nil] at e; exact ⟨Γ, by rw [List.map_nil, forR], by rw [e]; exact p⟩
    | cons x r ih =>
      intro pre Γ e p
      obtain ⟨Γ1, e1, p1⟩ := h pre r x Γ e p
      obtain ⟨Γ2, e2, p2⟩ := ih (pre ++ [x]) Γ1 (by rw [e, List.append_assoc]; rfl) p1
      refine ⟨Γ2, ?_, p2⟩
      rw [List.map_cons, forR, Tg.fn, noE_ok', R.bind_ok, e1, R.bind_ok]
      exact e2
  exact this l [] Γ rfl p
def nearN (m : Nat) (ls : List Nat) (p : Nat) : List Nat := (List.range m).filter fun q => ls.any fun l => decide ((p + l) % m = q) || decide ((p + (m - l)) % m = q)
theorem mem_near {m : Nat} {ls : List Nat} {p q : Nat} : q ∈ nearN m ls p ↔ q < m ∧ ∃ l ∈ ls, (p + l) % m = q ∨ (p + (m - l)) % m = q := by
  unfold nearN
  rw [List.mem_filter, List.mem_range, List.any_eq_true]
  simp only [Bool.or_eq_true, decide_eq_true_eq]
theorem near_ris (m : Nat) (ls : List Nat) (p : Nat) : (nearN m ls p).Pairwise (· < ·) := List.pairwise_lt_range.filter _
theorem near_lt {m : Nat} {ls : List Nat} {p q : Nat} (h : q ∈ nearN m ls p) : q < m := (mem_near.mp h).1
theorem near_sub {m p l : Nat} (hl : l ≤ m) (hm : 0 < m) : ((p : Int) - (l : Int)) % (m : Int) = (((p + (m - l)) % m : Nat) : Int) := by
  rw [show (p : Int) - (l : Int) = ((p + (m - l) : Nat) : Int) - (m : Int) by omega, Int.sub_emod_right]
  rfl
end Pd

set_option Elab.async false
set_option linter.all false
set_option maxRecDepth 100000
set_option maxHeartbeats 1000000
namespace Pd
open PySem PySem.Spec L2 Pr

def oD : Option Nat → D
  | none => .non
  | some n => .int (n : Int)
def fD (F : List (Option Nat)) : List D := F.map oD
def nn (F : List (Option Nat)) : Nat := F.countP (·.isNone)
def vis (s : Nat) : List Nat → List (Option Nat) × List Nat → List (Option Nat) × List Nat
  | [], st => st
  | o :: os, st => if st.1[o]? = some none then vis s os (st.1.set o (some s), st.2 ++ [o]) else vis s os st
theorem nn_set {F : List (Option Nat)} {o s : Nat} (h : F[o]? = some none) : nn (F.set o (some s)) + 1 = nn F := by
  have ho : o < F.length := (List.getElem?_eq_some_iff.mp h).1
  have e : F = F.take o ++ none :: F.drop (o + 1) := by
    have := List.take_append_drop o F
    rw [List.drop_eq_getElem_cons ho] at this
    rw [(List.getElem?_eq_some_iff.mp h).2] at this
    exact this.symm
  have e2 : F.set o (some s) = F.take o ++ some s :: F.drop (o + 1) := by
    rw [List.set_eq_take_append_cons_drop, if_pos ho]
  rw [e2]
  conv => rhs; rw [e]
  unfold nn
  rw [List.countP_append, List.countP_append, List.countP_cons, List.countP_cons]
  simp
  omega
theorem vis_len (s : Nat) : ∀ (os : List Nat) (st : List (Option Nat) × List Nat), (vis s os st).1.length = st.1.length ∧ (vis s os st).2.length + nn (vis s os st).1 = st.2.length + nn st.1
  | [], st => ⟨rfl, rfl⟩
  | o :: os, st => by
    rw [vis]
    split
    · rename_i h
      obtain ⟨h1, h2⟩ := vis_len s os (st.1.set o (some s), st.2 ++ [o])
      have h3 := nn_set (s := s) h
      refine ⟨h1.trans List.length_set, h2.trans ?_⟩
      show (st.2 ++ [o]).length + nn (st.1.set o (some s)) = _
      rw [List.length_append, List.length_singleton]
      omega
    · exact vis_len s os st
def lev (m : Nat) (ls : List Nat) (s : Nat) : List Nat → List (Option Nat) × List Nat → List (Option Nat) × List Nat
  | [], st => st
  | h :: hs, st => lev m ls s hs (vis s (nearN m ls h) st)
theorem lev_len (m : Nat) (ls : List Nat) (s : Nat) : ∀ (hs : List Nat) (st : List (Option Nat) × List Nat), (lev m ls s hs st).1.length = st.1.length ∧ (lev m ls s hs st).2.length + nn (lev m ls s hs st).1 = st.2.length + nn st.1
  | [], st => ⟨rfl, rfl⟩
  | h :: hs, st => by
    rw [lev]
    obtain ⟨h1, h2⟩ := lev_len m ls s hs (vis s (nearN m ls h) st)
    obtain ⟨h3, h4⟩ := vis_len s (nearN m ls h) st
    exact ⟨h1.trans h3, h2.trans h4⟩
inductive Bfs (m : Nat) (ls : List Nat) : Nat → List Nat → List (Option Nat) → List (Option Nat) → Prop where
  | done (s : Nat) (F : List (Option Nat)) : Bfs m ls s [] F F
  | step (s : Nat) (h : Nat) (hs : List Nat) (F F' : List (Option Nat)) : Bfs m ls (s + 1) (lev m ls (s + 1) (h :: hs) (F, [])).2 (lev m ls (s + 1) (h :: hs) (F, [])).1 F' → Bfs m ls s (h :: hs) F F'
theorem Bfs.len {m : Nat} {ls : List Nat} {s : Nat} {hs : List Nat} {F F' : List (Option Nat)} (b : Bfs m ls s hs F F') : F'.length = F.length := by
  induction b with
  | done => rfl
  | step s h hs F F' _ ih => exact ih.trans (lev_len m ls (s + 1) (h :: hs) (F, [])).1
theorem ne_nil (l : List Nat) : dNe (.lst (nD l)) (.lst []) = some (.v (.bl (!l.isEmpty))) := by
  cases l with
  | nil => exact ne_same (by rw [purD]; exact pur_nD []) (by rw [depD]; exact Nat.le_trans (Nat.le_of_eq (congrArg (· + 1) (dep_nD []))) (by omega))
  | cons a l => exact ne_diff (by rw [purD]; exact pur_nD _) rfl (by rw [depD, dep_nD]; omega) (by rw [depD, depDs]; omega) (fun h => nomatch h)
def lwC : Gm → R Bool := isB (e2 (dCmp .NotEq) (rVar 3) (rd (eLst (seqR []))))
def lwI : Gm → R Out := sSeq (sIf (isB (e2 (dCmp .Is) (rd (e2 dIx (rVar 2) (rVar 7))) (rd (eC .non)))) (sSeq (sSto 2 (vl (eVar 4)) (rVar 7))
  (sSeq (sApp 5 (vl (eVar 7)))
  (sNext))) (sNext))
  (sNext)
def lwB : Gm → R Out := (sSeq (sSet false 4 (e2 (dBin .Add) (rVar 4) (rd (eC (.int 1)))))
  (sSeq (sSet true 5 (eLst (seqR [])))
  (sSeq (sFor (iF (vl (eVar 3))) (.nm 6) (sSeq (sFor (iF (vl (eUser d__law_near (seqR [uVar 0, uVar 6])))) (.nm 7) lwI)
  (sNext)))
  (sSeq ((fun Γ => (sSet false 3 (eVar 5)) (frz [5] Γ)))
  (sNext)))))
section
variable {m : Nat} {ls : List Nat} (R : Ring m ls)
include R
end
end Pd

set_option Elab.async false
set_option linter.all false
set_option maxRecDepth 100000
set_option maxHeartbeats 1000000
namespace Pd
open PySem PySem.Spec L2 Pr

def Wk (m : Nat) (ls : List Nat) : Nat → Nat → Nat → Prop
  | 0, p, q => p = q
  | n + 1, p, q => ∃ r, Wk m ls n p r ∧ q ∈ nearN m ls r
def IsD (m : Nat) (ls : List Nat) (p q n : Nat) : Prop := Wk m ls n p q ∧ ∀ k, k < n → ¬ Wk m ls k p q
section
variable {m : Nat} {ls : List Nat} {p : Nat}
theorem wk_min : ∀ (n : Nat) {q : Nat}, Wk m ls n p q → ∃ t, t ≤ n ∧ IsD m ls p q t := by
  intro n
  induction n using Nat.strongRecOn with
  | ind n ih =>
    intro q h
    by_cases hx : ∃ k, k < n ∧ Wk m ls k p q
    · obtain ⟨k, hk, hw⟩ := hx
      obtain ⟨t, ht, hd⟩ := ih k hk hw
      exact ⟨t, by omega, hd⟩
    · exact ⟨n, Nat.le_refl _, h, fun k hk hw => hx ⟨k, hk, hw⟩⟩
theorem isD_unique {q s t : Nat} (h : IsD m ls p q s) (h' : IsD m ls p q t) : s = t := by
  rcases Nat.lt_trichotomy s t with x | x | x
  · exact absurd h.1 (h'.2 s x)
  · exact x
  · exact absurd h'.1 (h.2 t x)
theorem isD_pred {q s : Nat} (h : IsD m ls p q (s + 1)) : ∃ r, IsD m ls p r s ∧ q ∈ nearN m ls r := by
  obtain ⟨r, hw, hq⟩ := h.1
  exact ⟨r, ⟨hw, fun k hk hw' => h.2 (k + 1) (by omega) ⟨r, hw', hq⟩⟩, hq⟩
theorem vis_get (s : Nat) : ∀ (os : List Nat) (st : List (Option Nat) × List Nat) (q : Nat), ((st.1[q]? = some none ∧ q ∈ os) → (vis s os st).1[q]? = some (some s)) ∧ (¬ (st.1[q]? = some none ∧ q ∈ os) → (vis s os st).1[q]? = st.1[q]?) ∧ (q ∈ (vis s os st).2 ↔ q ∈ st.2 ∨ (st.1[q]? = some none ∧ q ∈ os))
  | [], st, q => ⟨fun h => absurd h.2 List.not_mem_nil, fun _ => rfl, ⟨.inl, fun h => h.elim id fun h => absurd h.2 List.not_mem_nil⟩⟩
  | o :: os, st, q => by
    rw [vis]
    split
    · rename_i ho
      obtain ⟨h1, h2, h3⟩ := vis_get s os (st.1.set o (some s), st.2 ++ [o]) q
      have hl := (List.getElem?_eq_some_iff.mp ho).1
      by_cases e : q = o
      · subst e
        have hs : (st.1.set q (some s))[q]? = some (some s) := List.getElem?_set_self hl
        refine ⟨fun _ => (h2 fun x => ?_).trans hs, fun x => absurd ⟨ho, List.mem_cons_self ..⟩ x, ?_⟩
        · have := x.1
          rw [hs] at this
          cases this
        · rw [h3]
          exact ⟨fun _ => .inr ⟨ho, List.mem_cons_self ..⟩, fun _ => .inl (List.mem_append_right _ (List.mem_singleton.mpr rfl))⟩
      · have hs : (st.1.set o (some s))[q]? = st.1[q]? := List.getElem?_set_ne (fun x => e x.symm)
        dsimp only at h1 h2 h3
        rw [hs] at h1 h2 h3
        have hm : q ∈ o :: os ↔ q ∈ os := by rw [List.mem_cons]; exact ⟨fun h => h.resolve_left e, .inr⟩
        rw [hm]
        refine ⟨h1, h2, ?_⟩
        rw [h3, List.mem_append, List.mem_singleton]
        exact ⟨fun h => h.elim (fun h => h.elim .inl fun h => absurd h e) .inr, fun h => h.elim (fun h => .inl (.inl h)) .inr⟩
    · rename_i ho
      obtain ⟨h1, h2, h3⟩ := vis_get s os st q
      have hm : (st.1[q]? = some none ∧ q ∈ o :: os) ↔ (st.1[q]? = some none ∧ q ∈ os) := by
        rw [List.mem_cons]
        refine ⟨fun h => ⟨h.1, h.2.resolve_left fun e => ho (e ▸ h.1)⟩, fun h => ⟨h.1, .inr h.2⟩⟩
      rw [hm]
      exact ⟨h1, h2, h3⟩
theorem lev_get (s : Nat) : ∀ (hs : List Nat) (st : List (Option Nat) × List Nat) (q : Nat), ((st.1[q]? = some none ∧ ∃ h ∈ hs, q ∈ nearN m ls h) → (lev m ls s hs st).1[q]? = some (some s)) ∧ (¬ (st.1[q]? = some none ∧ ∃ h ∈ hs, q ∈ nearN m ls h) → (lev m ls s hs st).1[q]? = st.1[q]?) ∧ (q ∈ (lev m ls s hs st).2 ↔ q ∈ st.2 ∨ (st.1[q]? = some none ∧ ∃ h ∈ hs, q ∈ nearN m ls h))
  | [], st, q => ⟨fun ⟨_, h, x, _⟩ => absurd x List.not_mem_nil, fun _ => rfl, ⟨.inl, fun h => h.elim id fun ⟨_, h, x, _⟩ => absurd x List.not_mem_nil⟩⟩
  | h :: hs, st, q => by
    rw [lev]
    obtain ⟨h1, h2, h3⟩ := lev_get s hs (vis s (nearN m ls h) st) q
    obtain ⟨v1, v2, v3⟩ := vis_get s (nearN m ls h) st q
    by_cases hx : st.1[q]? = some none ∧ q ∈ nearN m ls h
    · have hv := v1 hx
      have hn : ¬ ((vis s (nearN m ls h) st).1[q]? = some none ∧ ∃ h ∈ hs, q ∈ nearN m ls h) := fun x => by
        have := x.1
        rw [hv] at this
        cases this
      refine ⟨fun _ => (h2 hn).trans hv, fun x => absurd ⟨hx.1, h, List.mem_cons_self .., hx.2⟩ x, ?_⟩
      rw [h3, v3]
      exact ⟨fun _ => .inr ⟨hx.1, h, List.mem_cons_self .., hx.2⟩, fun _ => .inl (.inr hx)⟩
    · have hv := v2 hx
      rw [hv] at h1 h2 h3
      have hm : (st.1[q]? = some none ∧ ∃ h' ∈ h :: hs, q ∈ nearN m ls h') ↔ (st.1[q]? = some none ∧ ∃ h ∈ hs, q ∈ nearN m ls h) := by
        constructor
        · rintro ⟨a, h', b, c⟩
          rcases List.mem_cons.mp b with rfl | b
          · exact absurd ⟨a, c⟩ hx
          · exact ⟨a, h', b, c⟩
        · rintro ⟨a, h', b, c⟩
          exact ⟨a, h', List.mem_cons_of_mem _ b, c⟩
      rw [hm]
      refine ⟨h1, h2, ?_⟩
      rw [h3, v3]
      exact ⟨fun x => x.elim (fun x => x.elim .inl fun x => absurd x hx) .inr, fun x => x.elim (fun x => .inl (.inl x)) .inr⟩
structure Inv (m : Nat) (ls : List Nat) (p s : Nat) (here : List Nat) (F : List (Option Nat)) : Prop where
  len : F.length = m
  found : ∀ q t, F[q]? = some (some t) ↔ IsD m ls p q t ∧ t ≤ s
  now : ∀ q, q ∈ here ↔ IsD m ls p q s
theorem Inv.next (hp : p < m) {s : Nat} {here : List Nat} {F : List (Option Nat)} (I : Inv m ls p s here F) : Inv m ls p (s + 1) (lev m ls (s + 1) here (F, [])).2 (lev m ls (s + 1) here (F, [])).1 := by
  have new : ∀ q, (F[q]? = some none ∧ ∃ h ∈ here, q ∈ nearN m ls h) ↔ IsD m ls p q (s + 1) := by
    intro q
    constructor
    · rintro ⟨a, h, b, c⟩
      have hd := (I.now h).mp b
      refine ⟨⟨h, hd.1, c⟩, fun k hk hw => ?_⟩
      obtain ⟨t, ht, hd'⟩ := wk_min k hw
      have := (I.found q t).mpr ⟨hd', by omega⟩
      rw [a] at this
      cases this
    · intro hd
      obtain ⟨r, hr, hq⟩ := isD_pred hd
      refine ⟨?_, r, (I.now r).mpr hr, hq⟩
      have hl : q < F.length := by rw [I.len]; exact near_lt hq
      cases e : F[q] with
      | none => rw [List.getElem?_eq_getElem hl, e]
      | some t =>
        have h1 := (I.found q t).mp (by rw [List.getElem?_eq_getElem hl, e])
        have := isD_unique h1.1 hd
        omega
  refine ⟨(lev_len m ls (s + 1) here (F, [])).1.trans I.len, fun q t => ?_, fun q => ?_⟩
  · obtain ⟨h1, h2, _⟩ := lev_get (m := m) (ls := ls) (s + 1) here (F, []) q
    by_cases hx : F[q]? = some none ∧ ∃ h ∈ here, q ∈ nearN m ls h
    · rw [h1 hx]
      have hd := (new q).mp hx
      constructor
      · intro e
        cases e
        exact ⟨hd, Nat.le_refl _⟩
      · rintro ⟨e, _⟩
        rw [isD_unique e hd]
    · rw [h2 hx]
      show F[q]? = some (some t) ↔ _
      rw [I.found]
      refine ⟨fun h => ⟨h.1, by omega⟩, fun h => ⟨h.1, ?_⟩⟩
      have : t ≠ s + 1 := fun e => hx ((new q).mpr (e ▸ h.1))
      omega
  · obtain ⟨_, _, h3⟩ := lev_get (m := m) (ls := ls) (s + 1) here (F, []) q
    rw [h3, ← new q]
    exact ⟨fun x => x.elim (fun x => absurd x List.not_mem_nil) id, .inr⟩
structure Dist (m : Nat) (ls : List Nat) (p : Nat) (F : List (Option Nat)) : Prop where
  len : F.length = m
  at_ : ∀ q t, F[q]? = some (some t) ↔ IsD m ls p q t
theorem inv_start (hp : p < m) : Inv m ls p 0 [p] ((List.replicate m none).set p (some 0)) := by
  have z : ∀ q, IsD m ls p q 0 ↔ q = p := fun q => ⟨fun h => (show p = q from h.1).symm, fun h => ⟨show p = q from h.symm, fun k hk => absurd hk (Nat.not_lt_zero _)⟩⟩
  refine ⟨by rw [List.length_set, List.length_replicate], fun q t => ?_, fun q => by rw [List.mem_singleton, z]⟩
  by_cases e : q = p
  · subst e
    rw [List.getElem?_set_self (by rw [List.length_replicate]; exact hp)]
    constructor
    · intro h
      cases h
      exact ⟨(z q).mpr rfl, Nat.le_refl _⟩
    · rintro ⟨_, h⟩
      rw [show t = 0 by omega]
  · rw [List.getElem?_set_ne (fun x => e x.symm), List.getElem?_replicate]
    constructor
    · intro h
      split at h <;> cases h
    · rintro ⟨h, h0⟩
      obtain rfl : t = 0 := by omega
      exact absurd ((z q).mp h) e
end
def qwC : Gm → R Bool := isB (e2 (dCmp .Lt) (rVar 3) (rd (eCall fLen (seqR [rVar 2]))))
def qwI : Gm → R Out := sSeq (sIf (isB (e2 (dCmp .Is) (rd (e2 dIx (rVar 1) (rVar 4))) (rd (eC .non)))) (sSeq (sSto 1 (vl (e2 (dBin .Add) (rd (e2 dIx (rVar 1) (rd (e2 dIx (rVar 2) (rVar 3))))) (rd (eC (.int 1))))) (rVar 4))
  (sSeq (sApp 2 (vl (eVar 4)))
  (sNext))) (sNext))
  (sNext)
def qwB : Gm → R Out := sSeq (sFor (iF (vl (eUser d_beside (seqR [uVar 0, uVal (vl (e2 dIx (rVar 2) (rVar 3)))])))) (.nm 4) qwI)
  (sSeq (sSet false 3 (e2 (dBin .Add) (rVar 3) (rd (eC (.int 1)))))
  (sNext))
section
variable {m : Nat} {ls : List Nat} (R : Ring m ls)
include R
end
end Pd

set_option Elab.async false
set_option linter.all false
set_option maxRecDepth 100000
set_option maxHeartbeats 1000000
namespace Pd
open PySem PySem.Spec L2 Pr

section
variable {m : Nat} {ls : List Nat}
theorem near_tr {p q t : Nat} (hm : 0 < m) (h : q ∈ nearN m ls p) : (q + t) % m ∈ nearN m ls ((p + t) % m) := by
  obtain ⟨_, l, hl, h⟩ := mem_near.mp h
  refine mem_near.mpr ⟨Nat.mod_lt _ hm, l, hl, ?_⟩
  rcases h with rfl | rfl
  · left
    rw [Nat.mod_add_mod, Nat.mod_add_mod, show p + t + l = p + l + t by omega]
  · right
    rw [Nat.mod_add_mod, Nat.mod_add_mod, show p + t + (m - l) = p + (m - l) + t by omega]
theorem wk_tr (hm : 0 < m) (t : Nat) : ∀ {n p q : Nat}, Wk m ls n p q → Wk m ls n ((p + t) % m) ((q + t) % m)
  | 0, p, q, h => by
    have : p = q := h
    rw [this]
    rfl
  | n + 1, p, q, ⟨r, hw, h⟩ => ⟨(r + t) % m, wk_tr hm t hw, near_tr hm h⟩
def certB (m : Nat) (ls : List Nat) (p : Nat) (g : Nat → Nat) : Bool := g p == 0 && (List.range m).all fun q => (g q != 0 || q == p) && ((nearN m ls q).all (fun r => decide (g r ≤ g q + 1)) && (g q == 0 || (nearN m ls q).any fun r => g r + 1 == g q))
end
theorem head_v (ns : List Int) {K : Int} (h1 : 1 ≤ K) (h2 : K ≤ 60) (rest : Gm) : ∃ n : Nat, iOf rngF1 (seqR [rd (eCall fMax (seqR [rd (eC (.int 1)), rd (eCall fMin (seqR [rd (eCall fLen (seqR [rVar 0])), rd (eC (.int K))]))]))]) (.val (.scr ns) :: rest) = .ok (nD (List.range n)) := by
  by_cases h3 : K < ns.length
  · by_cases h4 : (1 : Int) < K
    · obtain ⟨n, hn⟩ : ∃ n : Nat, K = (n : Int) := ⟨K.toNat, by omega⟩
      subst hn
      refine ⟨n, ?_⟩
      have := rng1 (n := n) (by omega)
      simp (implicitDefEqProofs := false) (disch := omega) only [↓r_seq, ↓r_next, ↓r_if, ↓r_eif, ↓r_set, ↓r_ret, ↓r_retV, ↓r_expr, ↓r_asg, ↓r_par, ↓r_app, ↓r_ext, ↓r_sto, ↓r_or1, ↓r_or, ↓r_and1, ↓r_and, ↓r_vor1, ↓r_vor, ↓r_vand1, ↓r_vand, ↓r_not, ↓r_tru, ↓r_isB, ↓r_eC, ↓r_rd, ↓r_vl, ↓r_rV, ↓r_eV, ↓r_uV, ↓r_uVl, ↓r_sq0, ↓r_sq, ↓r_e2, ↓r_e3, ↓r_call, ↓r_user, ↓r_enot, ↓r_eneg, ↓r_tup, ↓r_lst, ↓r_sl, ↓r_noP, ↓r_aP, ↓r_iOf, ↓r_iF, ↓r_def, ↓r_ref, r_seqNx, r_seqRt, r_seqBk, r_seqCt, r_ifT, r_ifF, r_setV, r_setOt, r_setOl, r_setOd, r_setOs, r_retK, r_retVv, r_retVo, r_asgK, r_tgN, r_tgT, r_tgL, r_tgs0, r_tgs, r_parK, r_ownL, r_ownLo, r_ownD, r_ownDo, r_appK, r_appJ, r_extK, r_extJ, r_stoK, r_stoI, r_stoJ, r_stoL, r_orT, r_orF, r_andT, r_andF, r_vorK, r_vorT, r_vorF, r_vandK, r_vandT, r_vandF, r_notK, r_truK, r_truB, r_truI, r_truL, r_truT, r_truN, r_isBK, r_rdV, r_rdO, r_dV, r_dO, r_valV, r_valL, r_valD, r_rVv, r_rVo, r_rVb, r_eVv, r_uVv, r_uVo, r_uVb, r_uVlK, r_sqK, r_consK, r_opK, r_opJ, r_chK, r_chJ, r_chT, r_chF, r_clK, r_ntK, r_ngK, r_tpK, r_lsK, r_slK, r_slJ, r_slI, r_slL, r_slT, r_aPK, r_sqL, r_sqT, r_sqS, r_rtR, r_rtN, r_refO, r_refE, r_wdK, r_bAdd, r_bSub, r_bMul, r_bDiv, r_bMod, r_bPow, r_cLt, r_cLe, r_cGt, r_cGe, r_cEq, r_cNe, r_ixL, r_ixT, r_of, r_lenL, r_lenT, r_lenS, Pd.R.bind_ok, Pd.R.bind_err, Pd.R.bind_stuck, noE_ok', mul_r, div_i, mod_i, add_i, sub_i, lt_i, le_i, gt_i, ge_i, eq_i, ne_i, pow18, List.cons_append, List.nil_append, List.getElem?_cons_zero, List.getElem?_cons_succ, List.replicate_succ, List.replicate_zero, List.set_cons_zero, List.set_cons_succ, List.length_cons, List.length_nil, if_true, if_false, Bool.not_true, Bool.not_false, Bool.false_eq_true, ↓reduceIte, Nat.reduceAdd, Nat.reduceLeDiff, Nat.reduceLT, Nat.zero_add, Option.map_some, Int.cast_ofNat_Int, Int.natCast_one, Int.natCast_zero, Int.reduceBEq, Int.reduceLT, Int.reduceLE, Int.reduceAdd, Int.reduceSub, Int.reduceMul, Int.reduceNeg, Int.reduceDiv, Int.reduceMod, decide_true, decide_false, max_i, min_i, h3, h4, gt_iff_lt, this]
    · obtain rfl : K = 1 := by omega
      refine ⟨1, ?_⟩
      have := rng1 (n := 1) (by omega)
      rw [Int.natCast_one] at this
      simp (implicitDefEqProofs := false) (disch := omega) only [↓r_seq, ↓r_next, ↓r_if, ↓r_eif, ↓r_set, ↓r_ret, ↓r_retV, ↓r_expr, ↓r_asg, ↓r_par, ↓r_app, ↓r_ext, ↓r_sto, ↓r_or1, ↓r_or, ↓r_and1, ↓r_and, ↓r_vor1, ↓r_vor, ↓r_vand1, ↓r_vand, ↓r_not, ↓r_tru, ↓r_isB, ↓r_eC, ↓r_rd, ↓r_vl, ↓r_rV, ↓r_eV, ↓r_uV, ↓r_uVl, ↓r_sq0, ↓r_sq, ↓r_e2, ↓r_e3, ↓r_call, ↓r_user, ↓r_enot, ↓r_eneg, ↓r_tup, ↓r_lst, ↓r_sl, ↓r_noP, ↓r_aP, ↓r_iOf, ↓r_iF, ↓r_def, ↓r_ref, r_seqNx, r_seqRt, r_seqBk, r_seqCt, r_ifT, r_ifF, r_setV, r_setOt, r_setOl, r_setOd, r_setOs, r_retK, r_retVv, r_retVo, r_asgK, r_tgN, r_tgT, r_tgL, r_tgs0, r_tgs, r_parK, r_ownL, r_ownLo, r_ownD, r_ownDo, r_appK, r_appJ, r_extK, r_extJ, r_stoK, r_stoI, r_stoJ, r_stoL, r_orT, r_orF, r_andT, r_andF, r_vorK, r_vorT, r_vorF, r_vandK, r_vandT, r_vandF, r_notK, r_truK, r_truB, r_truI, r_truL, r_truT, r_truN, r_isBK, r_rdV, r_rdO, r_dV, r_dO, r_valV, r_valL, r_valD, r_rVv, r_rVo, r_rVb, r_eVv, r_uVv, r_uVo, r_uVb, r_uVlK, r_sqK, r_consK, r_opK, r_opJ, r_chK, r_chJ, r_chT, r_chF, r_clK, r_ntK, r_ngK, r_tpK, r_lsK, r_slK, r_slJ, r_slI, r_slL, r_slT, r_aPK, r_sqL, r_sqT, r_sqS, r_rtR, r_rtN, r_refO, r_refE, r_wdK, r_bAdd, r_bSub, r_bMul, r_bDiv, r_bMod, r_bPow, r_cLt, r_cLe, r_cGt, r_cGe, r_cEq, r_cNe, r_ixL, r_ixT, r_of, r_lenL, r_lenT, r_lenS, Pd.R.bind_ok, Pd.R.bind_err, Pd.R.bind_stuck, noE_ok', mul_r, div_i, mod_i, add_i, sub_i, lt_i, le_i, gt_i, ge_i, eq_i, ne_i, pow18, List.cons_append, List.nil_append, List.getElem?_cons_zero, List.getElem?_cons_succ, List.replicate_succ, List.replicate_zero, List.set_cons_zero, List.set_cons_succ, List.length_cons, List.length_nil, if_true, if_false, Bool.not_true, Bool.not_false, Bool.false_eq_true, ↓reduceIte, Nat.reduceAdd, Nat.reduceLeDiff, Nat.reduceLT, Nat.zero_add, Option.map_some, Int.cast_ofNat_Int, Int.natCast_one, Int.natCast_zero, Int.reduceBEq, Int.reduceLT, Int.reduceLE, Int.reduceAdd, Int.reduceSub, Int.reduceMul, Int.reduceNeg, Int.reduceDiv, Int.reduceMod, decide_true, decide_false, max_i, min_i, h3, gt_iff_lt, this]
  · by_cases h4 : (1 : Int) < ns.length
    · refine ⟨ns.length, ?_⟩
      have := rng1 (n := ns.length) (by omega)
      simp (implicitDefEqProofs := false) (disch := omega) only [↓r_seq, ↓r_next, ↓r_if, ↓r_eif, ↓r_set, ↓r_ret, ↓r_retV, ↓r_expr, ↓r_asg, ↓r_par, ↓r_app, ↓r_ext, ↓r_sto, ↓r_or1, ↓r_or, ↓r_and1, ↓r_and, ↓r_vor1, ↓r_vor, ↓r_vand1, ↓r_vand, ↓r_not, ↓r_tru, ↓r_isB, ↓r_eC, ↓r_rd, ↓r_vl, ↓r_rV, ↓r_eV, ↓r_uV, ↓r_uVl, ↓r_sq0, ↓r_sq, ↓r_e2, ↓r_e3, ↓r_call, ↓r_user, ↓r_enot, ↓r_eneg, ↓r_tup, ↓r_lst, ↓r_sl, ↓r_noP, ↓r_aP, ↓r_iOf, ↓r_iF, ↓r_def, ↓r_ref, r_seqNx, r_seqRt, r_seqBk, r_seqCt, r_ifT, r_ifF, r_setV, r_setOt, r_setOl, r_setOd, r_setOs, r_retK, r_retVv, r_retVo, r_asgK, r_tgN, r_tgT, r_tgL, r_tgs0, r_tgs, r_parK, r_ownL, r_ownLo, r_ownD, r_ownDo, r_appK, r_appJ, r_extK, r_extJ, r_stoK, r_stoI, r_stoJ, r_stoL, r_orT, r_orF, r_andT, r_andF, r_vorK, r_vorT, r_vorF, r_vandK, r_vandT, r_vandF, r_notK, r_truK, r_truB, r_truI, r_truL, r_truT, r_truN, r_isBK, r_rdV, r_rdO, r_dV, r_dO, r_valV, r_valL, r_valD, r_rVv, r_rVo, r_rVb, r_eVv, r_uVv, r_uVo, r_uVb, r_uVlK, r_sqK, r_consK, r_opK, r_opJ, r_chK, r_chJ, r_chT, r_chF, r_clK, r_ntK, r_ngK, r_tpK, r_lsK, r_slK, r_slJ, r_slI, r_slL, r_slT, r_aPK, r_sqL, r_sqT, r_sqS, r_rtR, r_rtN, r_refO, r_refE, r_wdK, r_bAdd, r_bSub, r_bMul, r_bDiv, r_bMod, r_bPow, r_cLt, r_cLe, r_cGt, r_cGe, r_cEq, r_cNe, r_ixL, r_ixT, r_of, r_lenL, r_lenT, r_lenS, Pd.R.bind_ok, Pd.R.bind_err, Pd.R.bind_stuck, noE_ok', mul_r, div_i, mod_i, add_i, sub_i, lt_i, le_i, gt_i, ge_i, eq_i, ne_i, pow18, List.cons_append, List.nil_append, List.getElem?_cons_zero, List.getElem?_cons_succ, List.replicate_succ, List.replicate_zero, List.set_cons_zero, List.set_cons_succ, List.length_cons, List.length_nil, if_true, if_false, Bool.not_true, Bool.not_false, Bool.false_eq_true, ↓reduceIte, Nat.reduceAdd, Nat.reduceLeDiff, Nat.reduceLT, Nat.zero_add, Option.map_some, Int.cast_ofNat_Int, Int.natCast_one, Int.natCast_zero, Int.reduceBEq, Int.reduceLT, Int.reduceLE, Int.reduceAdd, Int.reduceSub, Int.reduceMul, Int.reduceNeg, Int.reduceDiv, Int.reduceMod, decide_true, decide_false, max_i, min_i, h3, h4, gt_iff_lt, this]
    · refine ⟨1, ?_⟩
      have := rng1 (n := 1) (by omega)
      rw [Int.natCast_one] at this
      simp (implicitDefEqProofs := false) (disch := omega) only [↓r_seq, ↓r_next, ↓r_if, ↓r_eif, ↓r_set, ↓r_ret, ↓r_retV, ↓r_expr, ↓r_asg, ↓r_par, ↓r_app, ↓r_ext, ↓r_sto, ↓r_or1, ↓r_or, ↓r_and1, ↓r_and, ↓r_vor1, ↓r_vor, ↓r_vand1, ↓r_vand, ↓r_not, ↓r_tru, ↓r_isB, ↓r_eC, ↓r_rd, ↓r_vl, ↓r_rV, ↓r_eV, ↓r_uV, ↓r_uVl, ↓r_sq0, ↓r_sq, ↓r_e2, ↓r_e3, ↓r_call, ↓r_user, ↓r_enot, ↓r_eneg, ↓r_tup, ↓r_lst, ↓r_sl, ↓r_noP, ↓r_aP, ↓r_iOf, ↓r_iF, ↓r_def, ↓r_ref, r_seqNx, r_seqRt, r_seqBk, r_seqCt, r_ifT, r_ifF, r_setV, r_setOt, r_setOl, r_setOd, r_setOs, r_retK, r_retVv, r_retVo, r_asgK, r_tgN, r_tgT, r_tgL, r_tgs0, r_tgs, r_parK, r_ownL, r_ownLo, r_ownD, r_ownDo, r_appK, r_appJ, r_extK, r_extJ, r_stoK, r_stoI, r_stoJ, r_stoL, r_orT, r_orF, r_andT, r_andF, r_vorK, r_vorT, r_vorF, r_vandK, r_vandT, r_vandF, r_notK, r_truK, r_truB, r_truI, r_truL, r_truT, r_truN, r_isBK, r_rdV, r_rdO, r_dV, r_dO, r_valV, r_valL, r_valD, r_rVv, r_rVo, r_rVb, r_eVv, r_uVv, r_uVo, r_uVb, r_uVlK, r_sqK, r_consK, r_opK, r_opJ, r_chK, r_chJ, r_chT, r_chF, r_clK, r_ntK, r_ngK, r_tpK, r_lsK, r_slK, r_slJ, r_slI, r_slL, r_slT, r_aPK, r_sqL, r_sqT, r_sqS, r_rtR, r_rtN, r_refO, r_refE, r_wdK, r_bAdd, r_bSub, r_bMul, r_bDiv, r_bMod, r_bPow, r_cLt, r_cLe, r_cGt, r_cGe, r_cEq, r_cNe, r_ixL, r_ixT, r_of, r_lenL, r_lenT, r_lenS, Pd.R.bind_ok, Pd.R.bind_err, Pd.R.bind_stuck, noE_ok', mul_r, div_i, mod_i, add_i, sub_i, lt_i, le_i, gt_i, ge_i, eq_i, ne_i, pow18, List.cons_append, List.nil_append, List.getElem?_cons_zero, List.getElem?_cons_succ, List.replicate_succ, List.replicate_zero, List.set_cons_zero, List.set_cons_succ, List.length_cons, List.length_nil, if_true, if_false, Bool.not_true, Bool.not_false, Bool.false_eq_true, ↓reduceIte, Nat.reduceAdd, Nat.reduceLeDiff, Nat.reduceLT, Nat.zero_add, Option.map_some, Int.cast_ofNat_Int, Int.natCast_one, Int.natCast_zero, Int.reduceBEq, Int.reduceLT, Int.reduceLE, Int.reduceAdd, Int.reduceSub, Int.reduceMul, Int.reduceNeg, Int.reduceDiv, Int.reduceMod, decide_true, decide_false, max_i, min_i, h3, h4, gt_iff_lt, this]
end Pd

set_option Elab.async false
set_option linter.all false
set_option maxRecDepth 100000
set_option maxHeartbeats 1000000
namespace Pd
open PySem PySem.Spec L2 Pr

def gdC : Gm → R Bool := isB (e2 (dCmp .Gt) (rVar 1) (rd (eC (.int 0))))
def gdB : Gm → R Out := sSeq (sPar 0 1 (seqR [vl (eVar 1), vl (e2 (dBin .Mod) (rVar 0) (rVar 1))])) (sNext)
theorem gd_while : ∀ (n a b : Nat), b < n → whR gdC gdB n [.val (.int a), .val (.int b)] = .ok (.nx [.val (.int (Nat.gcd a b)), .val (.int (0 : Nat))])
  | 0, _, _, h => absurd h (Nat.not_lt_zero _)
  | n + 1, a, b, h => by
    by_cases h0 : b = 0
    · subst h0
      have e : gdC [.val (.int a), .val (.int (0 : Nat))] = .ok false := by
        unfold gdC
        simp (implicitDefEqProofs := false) (disch := omega) only [↓r_seq, ↓r_next, ↓r_if, ↓r_eif, ↓r_set, ↓r_ret, ↓r_retV, ↓r_expr, ↓r_asg, ↓r_par, ↓r_app, ↓r_ext, ↓r_sto, ↓r_or1, ↓r_or, ↓r_and1, ↓r_and, ↓r_vor1, ↓r_vor, ↓r_vand1, ↓r_vand, ↓r_not, ↓r_tru, ↓r_isB, ↓r_eC, ↓r_rd, ↓r_vl, ↓r_rV, ↓r_eV, ↓r_uV, ↓r_uVl, ↓r_sq0, ↓r_sq, ↓r_e2, ↓r_e3, ↓r_call, ↓r_user, ↓r_enot, ↓r_eneg, ↓r_tup, ↓r_lst, ↓r_sl, ↓r_noP, ↓r_aP, ↓r_iOf, ↓r_iF, ↓r_def, ↓r_ref, r_seqNx, r_seqRt, r_seqBk, r_seqCt, r_ifT, r_ifF, r_setV, r_setOt, r_setOl, r_setOd, r_setOs, r_retK, r_retVv, r_retVo, r_asgK, r_tgN, r_tgT, r_tgL, r_tgs0, r_tgs, r_parK, r_ownL, r_ownLo, r_ownD, r_ownDo, r_appK, r_appJ, r_extK, r_extJ, r_stoK, r_stoI, r_stoJ, r_stoL, r_orT, r_orF, r_andT, r_andF, r_vorK, r_vorT, r_vorF, r_vandK, r_vandT, r_vandF, r_notK, r_truK, r_truB, r_truI, r_truL, r_truT, r_truN, r_isBK, r_rdV, r_rdO, r_dV, r_dO, r_valV, r_valL, r_valD, r_rVv, r_rVo, r_rVb, r_eVv, r_uVv, r_uVo, r_uVb, r_uVlK, r_sqK, r_consK, r_opK, r_opJ, r_chK, r_chJ, r_chT, r_chF, r_clK, r_ntK, r_ngK, r_tpK, r_lsK, r_slK, r_slJ, r_slI, r_slL, r_slT, r_aPK, r_sqL, r_sqT, r_sqS, r_rtR, r_rtN, r_refO, r_refE, r_wdK, r_bAdd, r_bSub, r_bMul, r_bDiv, r_bMod, r_bPow, r_cLt, r_cLe, r_cGt, r_cGe, r_cEq, r_cNe, r_ixL, r_ixT, r_of, r_lenL, r_lenT, r_lenS, Pd.R.bind_ok, Pd.R.bind_err, Pd.R.bind_stuck, noE_ok', mul_r, div_i, mod_i, add_i, sub_i, lt_i, le_i, gt_i, ge_i, eq_i, ne_i, pow18, List.cons_append, List.nil_append, List.getElem?_cons_zero, List.getElem?_cons_succ, List.replicate_succ, List.replicate_zero, List.set_cons_zero, List.set_cons_succ, List.length_cons, List.length_nil, if_true, if_false, Bool.not_true, Bool.not_false, Bool.false_eq_true, ↓reduceIte, Nat.reduceAdd, Nat.reduceLeDiff, Nat.reduceLT, Nat.zero_add, Option.map_some, Int.cast_ofNat_Int, Int.natCast_one, Int.natCast_zero, Int.reduceBEq, Int.reduceLT, Int.reduceLE, Int.reduceAdd, Int.reduceSub, Int.reduceMul, Int.reduceNeg, Int.reduceDiv, Int.reduceMod, decide_true, decide_false]
      rw [whR, e, Pd.R.bind_ok, Nat.gcd_zero_right]
      rfl
    · have hb : (0 : Int) < b := by omega
      have e : gdC [.val (.int a), .val (.int b)] = .ok true := by
        unfold gdC
        simp (implicitDefEqProofs := false) (disch := omega) only [↓r_seq, ↓r_next, ↓r_if, ↓r_eif, ↓r_set, ↓r_ret, ↓r_retV, ↓r_expr, ↓r_asg, ↓r_par, ↓r_app, ↓r_ext, ↓r_sto, ↓r_or1, ↓r_or, ↓r_and1, ↓r_and, ↓r_vor1, ↓r_vor, ↓r_vand1, ↓r_vand, ↓r_not, ↓r_tru, ↓r_isB, ↓r_eC, ↓r_rd, ↓r_vl, ↓r_rV, ↓r_eV, ↓r_uV, ↓r_uVl, ↓r_sq0, ↓r_sq, ↓r_e2, ↓r_e3, ↓r_call, ↓r_user, ↓r_enot, ↓r_eneg, ↓r_tup, ↓r_lst, ↓r_sl, ↓r_noP, ↓r_aP, ↓r_iOf, ↓r_iF, ↓r_def, ↓r_ref, r_seqNx, r_seqRt, r_seqBk, r_seqCt, r_ifT, r_ifF, r_setV, r_setOt, r_setOl, r_setOd, r_setOs, r_retK, r_retVv, r_retVo, r_asgK, r_tgN, r_tgT, r_tgL, r_tgs0, r_tgs, r_parK, r_ownL, r_ownLo, r_ownD, r_ownDo, r_appK, r_appJ, r_extK, r_extJ, r_stoK, r_stoI, r_stoJ, r_stoL, r_orT, r_orF, r_andT, r_andF, r_vorK, r_vorT, r_vorF, r_vandK, r_vandT, r_vandF, r_notK, r_truK, r_truB, r_truI, r_truL, r_truT, r_truN, r_isBK, r_rdV, r_rdO, r_dV, r_dO, r_valV, r_valL, r_valD, r_rVv, r_rVo, r_rVb, r_eVv, r_uVv, r_uVo, r_uVb, r_uVlK, r_sqK, r_consK, r_opK, r_opJ, r_chK, r_chJ, r_chT, r_chF, r_clK, r_ntK, r_ngK, r_tpK, r_lsK, r_slK, r_slJ, r_slI, r_slL, r_slT, r_aPK, r_sqL, r_sqT, r_sqS, r_rtR, r_rtN, r_refO, r_refE, r_wdK, r_bAdd, r_bSub, r_bMul, r_bDiv, r_bMod, r_bPow, r_cLt, r_cLe, r_cGt, r_cGe, r_cEq, r_cNe, r_ixL, r_ixT, r_of, r_lenL, r_lenT, r_lenS, Pd.R.bind_ok, Pd.R.bind_err, Pd.R.bind_stuck, noE_ok', mul_r, div_i, mod_i, add_i, sub_i, lt_i, le_i, gt_i, ge_i, eq_i, ne_i, pow18, List.cons_append, List.nil_append, List.getElem?_cons_zero, List.getElem?_cons_succ, List.replicate_succ, List.replicate_zero, List.set_cons_zero, List.set_cons_succ, List.length_cons, List.length_nil, if_true, if_false, Bool.not_true, Bool.not_false, Bool.false_eq_true, ↓reduceIte, Nat.reduceAdd, Nat.reduceLeDiff, Nat.reduceLT, Nat.zero_add, Option.map_some, Int.cast_ofNat_Int, Int.natCast_one, Int.natCast_zero, Int.reduceBEq, Int.reduceLT, Int.reduceLE, Int.reduceAdd, Int.reduceSub, Int.reduceMul, Int.reduceNeg, Int.reduceDiv, Int.reduceMod, decide_true, decide_false, hb]
      have hm : (a : Int) % (b : Int) = ((a % b : Nat) : Int) := rfl
      have eb : gdB [.val (.int a), .val (.int b)] = .ok (.nx [.val (.int b), .val (.int ((a % b : Nat) : Int))]) := by
        unfold gdB
        simp (implicitDefEqProofs := false) (disch := omega) only [↓r_seq, ↓r_next, ↓r_if, ↓r_eif, ↓r_set, ↓r_ret, ↓r_retV, ↓r_expr, ↓r_asg, ↓r_par, ↓r_app, ↓r_ext, ↓r_sto, ↓r_or1, ↓r_or, ↓r_and1, ↓r_and, ↓r_vor1, ↓r_vor, ↓r_vand1, ↓r_vand, ↓r_not, ↓r_tru, ↓r_isB, ↓r_eC, ↓r_rd, ↓r_vl, ↓r_rV, ↓r_eV, ↓r_uV, ↓r_uVl, ↓r_sq0, ↓r_sq, ↓r_e2, ↓r_e3, ↓r_call, ↓r_user, ↓r_enot, ↓r_eneg, ↓r_tup, ↓r_lst, ↓r_sl, ↓r_noP, ↓r_aP, ↓r_iOf, ↓r_iF, ↓r_def, ↓r_ref, r_seqNx, r_seqRt, r_seqBk, r_seqCt, r_ifT, r_ifF, r_setV, r_setOt, r_setOl, r_setOd, r_setOs, r_retK, r_retVv, r_retVo, r_asgK, r_tgN, r_tgT, r_tgL, r_tgs0, r_tgs, r_parK, r_ownL, r_ownLo, r_ownD, r_ownDo, r_appK, r_appJ, r_extK, r_extJ, r_stoK, r_stoI, r_stoJ, r_stoL, r_orT, r_orF, r_andT, r_andF, r_vorK, r_vorT, r_vorF, r_vandK, r_vandT, r_vandF, r_notK, r_truK, r_truB, r_truI, r_truL, r_truT, r_truN, r_isBK, r_rdV, r_rdO, r_dV, r_dO, r_valV, r_valL, r_valD, r_rVv, r_rVo, r_rVb, r_eVv, r_uVv, r_uVo, r_uVb, r_uVlK, r_sqK, r_consK, r_opK, r_opJ, r_chK, r_chJ, r_chT, r_chF, r_clK, r_ntK, r_ngK, r_tpK, r_lsK, r_slK, r_slJ, r_slI, r_slL, r_slT, r_aPK, r_sqL, r_sqT, r_sqS, r_rtR, r_rtN, r_refO, r_refE, r_wdK, r_bAdd, r_bSub, r_bMul, r_bDiv, r_bMod, r_bPow, r_cLt, r_cLe, r_cGt, r_cGe, r_cEq, r_cNe, r_ixL, r_ixT, r_of, r_lenL, r_lenT, r_lenS, Pd.R.bind_ok, Pd.R.bind_err, Pd.R.bind_stuck, noE_ok', mul_r, div_i, mod_i, add_i, sub_i, lt_i, le_i, gt_i, ge_i, eq_i, ne_i, pow18, List.cons_append, List.nil_append, List.getElem?_cons_zero, List.getElem?_cons_succ, List.replicate_succ, List.replicate_zero, List.set_cons_zero, List.set_cons_succ, List.length_cons, List.length_nil, if_true, if_false, Bool.not_true, Bool.not_false, Bool.false_eq_true, ↓reduceIte, Nat.reduceAdd, Nat.reduceLeDiff, Nat.reduceLT, Nat.zero_add, Option.map_some, Int.cast_ofNat_Int, Int.natCast_one, Int.natCast_zero, Int.reduceBEq, Int.reduceLT, Int.reduceLE, Int.reduceAdd, Int.reduceSub, Int.reduceMul, Int.reduceNeg, Int.reduceDiv, Int.reduceMod, decide_true, decide_false, hm]
      have hl : a % b < b := Nat.mod_lt _ (by omega)
      rw [whR, e, Pd.R.bind_ok, if_pos rfl, eb, Pd.R.bind_ok]
      have ih := gd_while n b (a % b) (by omega)
      have hg : Nat.gcd b (a % b) = Nat.gcd a b := by rw [Nat.gcd_comm a b, Nat.gcd_rec b a, Nat.gcd_comm]
      rw [hg] at ih
      exact ih
theorem common_v (a b : Nat) (h : b < 1000000) : d_common [.val (.int a), .val (.int b)] = .ok (.v (.int (Nat.gcd a b))) := by
  have e := gd_while whN a b (by unfold whN; omega)
  unfold d_common
  refine def_rt ?_
  unfold f_common
  show sSeq _ _ [.val (.int a), .val (.int b)] = _
  refine seq_nx e ?_
  simp (implicitDefEqProofs := false) (disch := omega) only [↓r_seq, ↓r_next, ↓r_if, ↓r_eif, ↓r_set, ↓r_ret, ↓r_retV, ↓r_expr, ↓r_asg, ↓r_par, ↓r_app, ↓r_ext, ↓r_sto, ↓r_or1, ↓r_or, ↓r_and1, ↓r_and, ↓r_vor1, ↓r_vor, ↓r_vand1, ↓r_vand, ↓r_not, ↓r_tru, ↓r_isB, ↓r_eC, ↓r_rd, ↓r_vl, ↓r_rV, ↓r_eV, ↓r_uV, ↓r_uVl, ↓r_sq0, ↓r_sq, ↓r_e2, ↓r_e3, ↓r_call, ↓r_user, ↓r_enot, ↓r_eneg, ↓r_tup, ↓r_lst, ↓r_sl, ↓r_noP, ↓r_aP, ↓r_iOf, ↓r_iF, ↓r_def, ↓r_ref, r_seqNx, r_seqRt, r_seqBk, r_seqCt, r_ifT, r_ifF, r_setV, r_setOt, r_setOl, r_setOd, r_setOs, r_retK, r_retVv, r_retVo, r_asgK, r_tgN, r_tgT, r_tgL, r_tgs0, r_tgs, r_parK, r_ownL, r_ownLo, r_ownD, r_ownDo, r_appK, r_appJ, r_extK, r_extJ, r_stoK, r_stoI, r_stoJ, r_stoL, r_orT, r_orF, r_andT, r_andF, r_vorK, r_vorT, r_vorF, r_vandK, r_vandT, r_vandF, r_notK, r_truK, r_truB, r_truI, r_truL, r_truT, r_truN, r_isBK, r_rdV, r_rdO, r_dV, r_dO, r_valV, r_valL, r_valD, r_rVv, r_rVo, r_rVb, r_eVv, r_uVv, r_uVo, r_uVb, r_uVlK, r_sqK, r_consK, r_opK, r_opJ, r_chK, r_chJ, r_chT, r_chF, r_clK, r_ntK, r_ngK, r_tpK, r_lsK, r_slK, r_slJ, r_slI, r_slL, r_slT, r_aPK, r_sqL, r_sqT, r_sqS, r_rtR, r_rtN, r_refO, r_refE, r_wdK, r_bAdd, r_bSub, r_bMul, r_bDiv, r_bMod, r_bPow, r_cLt, r_cLe, r_cGt, r_cGe, r_cEq, r_cNe, r_ixL, r_ixT, r_of, r_lenL, r_lenT, r_lenS, Pd.R.bind_ok, Pd.R.bind_err, Pd.R.bind_stuck, noE_ok', mul_r, div_i, mod_i, add_i, sub_i, lt_i, le_i, gt_i, ge_i, eq_i, ne_i, pow18, List.cons_append, List.nil_append, List.getElem?_cons_zero, List.getElem?_cons_succ, List.replicate_succ, List.replicate_zero, List.set_cons_zero, List.set_cons_succ, List.length_cons, List.length_nil, if_true, if_false, Bool.not_true, Bool.not_false, Bool.false_eq_true, ↓reduceIte, Nat.reduceAdd, Nat.reduceLeDiff, Nat.reduceLT, Nat.zero_add, Option.map_some, Int.cast_ofNat_Int, Int.natCast_one, Int.natCast_zero, Int.reduceBEq, Int.reduceLT, Int.reduceLE, Int.reduceAdd, Int.reduceSub, Int.reduceMul, Int.reduceNeg, Int.reduceDiv, Int.reduceMod, decide_true, decide_false]
def foldN (m by_ l : Nat) : Nat := if m - l * by_ % m < l * by_ % m then m - l * by_ % m else l * by_ % m
def timesN (m : Nat) (ls : List Nat) (by_ : Nat) : List Nat := (List.range m).filter fun q => ls.any fun l => foldN m by_ l == q
section
variable {m : Nat} {ls : List Nat}
theorem nodup_map_of {α β : Type} {f : α → β} : ∀ {l : List α}, l.Nodup → (∀ a ∈ l, ∀ a' ∈ l, f a = f a' → a = a') → (l.map f).Nodup
  | [], _, _ => List.nodup_nil
  | a :: l, h, i => by
    rw [List.nodup_cons] at h
    rw [List.map_cons, List.nodup_cons]
    refine ⟨fun hm => ?_, nodup_map_of h.2 fun x hx y hy => i x (List.mem_cons_of_mem _ hx) y (List.mem_cons_of_mem _ hy)⟩
    obtain ⟨x, hx, e⟩ := List.mem_map.mp hm
    have := i x (List.mem_cons_of_mem _ hx) a (List.mem_cons_self ..) e
    exact h.1 (this ▸ hx)
theorem ring_ix (m : Nat) (ls : List Nat) : dIx (ringD m ls) (.int 0) = some (.v (.int m)) := rfl
def oneTo (m : Nat) : List Nat := (List.range (m - 1)).map (· + 1)
def isAlike (m : Nat) (ls : List Nat) (m' : Nat) (ls' : List Nat) (b : Nat) : Bool := decide (Nat.gcd m b = 1) && decide (m = m' ∧ timesN m ls b = ls')
def optD : Option Nat → D
  | some b => .int (b : Int)
  | none => .non
end
end Pd

set_option Elab.async false
set_option linter.all false
set_option maxRecDepth 100000
set_option maxHeartbeats 1000000
namespace Pd
open PySem PySem.Spec L2 Pr

section
variable {m : Nat} {ls : List Nat}
def tieD (t : Nat × Nat) : D := .tup [.int (t.1 : Int), .int (t.2 : Int)]
def upN (m : Nat) (ls : List Nat) (p : Nat) : List Nat := (nearN m ls p).filter fun q => decide (p < q)
def tiesOf (m : Nat) (ls : List Nat) (ps : List Nat) : List (Nat × Nat) := ps.flatMap fun p => (upN m ls p).map fun q => (p, q)
def tiesN (m : Nat) (ls : List Nat) : List (Nat × Nat) := tiesOf m ls (List.range m)
def gcdL (m : Nat) (ls : List Nat) : Nat := ls.foldl Nat.gcd m
theorem gcdL_le : ∀ (ls : List Nat) (m : Nat), 0 < m → 0 < gcdL m ls ∧ gcdL m ls ≤ m
  | [], m, h => ⟨h, Nat.le_refl _⟩
  | l :: ls, m, h => by
    have h1 : 0 < Nat.gcd m l := Nat.gcd_pos_of_pos_left _ h
    obtain ⟨a, b⟩ := gcdL_le ls (Nat.gcd m l) h1
    exact ⟨a, Nat.le_trans b (Nat.le_of_dvd h (Nat.gcd_dvd_left m l))⟩
theorem dvd_gcdL {d : Nat} : ∀ (ls : List Nat) (m : Nat), d ∣ gcdL m ls ↔ d ∣ m ∧ ∀ l ∈ ls, d ∣ l
  | [], m => ⟨fun h => ⟨h, fun l hl => absurd hl List.not_mem_nil⟩, fun h => h.1⟩
  | l :: ls, m => by
    show d ∣ gcdL (Nat.gcd m l) ls ↔ _
    rw [dvd_gcdL ls, Nat.dvd_gcd_iff]
    constructor
    · rintro ⟨⟨a, b⟩, c⟩
      exact ⟨a, fun x hx => (List.mem_cons.mp hx).elim (fun e => e ▸ b) (c x)⟩
    · rintro ⟨a, c⟩
      exact ⟨⟨a, c l (List.mem_cons_self ..)⟩, fun x hx => c x (List.mem_cons_of_mem _ hx)⟩
theorem pieces_of_v (R : Ring m ls) : d_pieces_of [.val (ringD m ls)] = .ok (.v (.int (gcdL m ls : Nat))) := by
  have h3 := R.m3
  have h100 := R.m100
  have ix := ring_ix m ls
  have ix1 : dIx (ringD m ls) (.int 1) = some (.v (.tup (nD ls))) := rfl
  unfold d_pieces_of
  refine def_rt ?_
  unfold f_pieces_of
  show sSeq _ _ [.val (ringD m ls), .un, .un] = _
  refine seq_nx (Γ1 := [.val (ringD m ls), .val (.int m), .un]) (by simp (implicitDefEqProofs := false) (disch := omega) only [↓r_seq, ↓r_next, ↓r_if, ↓r_eif, ↓r_set, ↓r_ret, ↓r_retV, ↓r_expr, ↓r_asg, ↓r_par, ↓r_app, ↓r_ext, ↓r_sto, ↓r_or1, ↓r_or, ↓r_and1, ↓r_and, ↓r_vor1, ↓r_vor, ↓r_vand1, ↓r_vand, ↓r_not, ↓r_tru, ↓r_isB, ↓r_eC, ↓r_rd, ↓r_vl, ↓r_rV, ↓r_eV, ↓r_uV, ↓r_uVl, ↓r_sq0, ↓r_sq, ↓r_e2, ↓r_e3, ↓r_call, ↓r_user, ↓r_enot, ↓r_eneg, ↓r_tup, ↓r_lst, ↓r_sl, ↓r_noP, ↓r_aP, ↓r_iOf, ↓r_iF, ↓r_def, ↓r_ref, r_seqNx, r_seqRt, r_seqBk, r_seqCt, r_ifT, r_ifF, r_setV, r_setOt, r_setOl, r_setOd, r_setOs, r_retK, r_retVv, r_retVo, r_asgK, r_tgN, r_tgT, r_tgL, r_tgs0, r_tgs, r_parK, r_ownL, r_ownLo, r_ownD, r_ownDo, r_appK, r_appJ, r_extK, r_extJ, r_stoK, r_stoI, r_stoJ, r_stoL, r_orT, r_orF, r_andT, r_andF, r_vorK, r_vorT, r_vorF, r_vandK, r_vandT, r_vandF, r_notK, r_truK, r_truB, r_truI, r_truL, r_truT, r_truN, r_isBK, r_rdV, r_rdO, r_dV, r_dO, r_valV, r_valL, r_valD, r_rVv, r_rVo, r_rVb, r_eVv, r_uVv, r_uVo, r_uVb, r_uVlK, r_sqK, r_consK, r_opK, r_opJ, r_chK, r_chJ, r_chT, r_chF, r_clK, r_ntK, r_ngK, r_tpK, r_lsK, r_slK, r_slJ, r_slI, r_slL, r_slT, r_aPK, r_sqL, r_sqT, r_sqS, r_rtR, r_rtN, r_refO, r_refE, r_wdK, r_bAdd, r_bSub, r_bMul, r_bDiv, r_bMod, r_bPow, r_cLt, r_cLe, r_cGt, r_cGe, r_cEq, r_cNe, r_ixL, r_ixT, r_of, r_lenL, r_lenT, r_lenS, Pd.R.bind_ok, Pd.R.bind_err, Pd.R.bind_stuck, noE_ok', mul_r, div_i, mod_i, add_i, sub_i, lt_i, le_i, gt_i, ge_i, eq_i, ne_i, pow18, List.cons_append, List.nil_append, List.getElem?_cons_zero, List.getElem?_cons_succ, List.replicate_succ, List.replicate_zero, List.set_cons_zero, List.set_cons_succ, List.length_cons, List.length_nil, if_true, if_false, Bool.not_true, Bool.not_false, Bool.false_eq_true, ↓reduceIte, Nat.reduceAdd, Nat.reduceLeDiff, Nat.reduceLT, Nat.zero_add, Option.map_some, Int.cast_ofNat_Int, Int.natCast_one, Int.natCast_zero, Int.reduceBEq, Int.reduceLT, Int.reduceLE, Int.reduceAdd, Int.reduceSub, Int.reduceMul, Int.reduceNeg, Int.reduceDiv, Int.reduceMod, decide_true, decide_false, ix]) ?_
  refine seq_go (fun Γ => ∃ s2, Γ = [.val (ringD m ls), .val (.int (gcdL m ls : Nat)), s2]) (go_of (φ := fun n : Nat => .int (n : Int)) (l := ls) (fun a Γ => ∃ s2, Γ = [.val (ringD m ls), .val (.int (gcdL m a : Nat)), s2]) ?_ ⟨_, rfl⟩ ?_) ?_
  · simp (implicitDefEqProofs := false) (disch := omega) only [↓r_seq, ↓r_next, ↓r_if, ↓r_eif, ↓r_set, ↓r_ret, ↓r_retV, ↓r_expr, ↓r_asg, ↓r_par, ↓r_app, ↓r_ext, ↓r_sto, ↓r_or1, ↓r_or, ↓r_and1, ↓r_and, ↓r_vor1, ↓r_vor, ↓r_vand1, ↓r_vand, ↓r_not, ↓r_tru, ↓r_isB, ↓r_eC, ↓r_rd, ↓r_vl, ↓r_rV, ↓r_eV, ↓r_uV, ↓r_uVl, ↓r_sq0, ↓r_sq, ↓r_e2, ↓r_e3, ↓r_call, ↓r_user, ↓r_enot, ↓r_eneg, ↓r_tup, ↓r_lst, ↓r_sl, ↓r_noP, ↓r_aP, ↓r_iOf, ↓r_iF, ↓r_def, ↓r_ref, r_seqNx, r_seqRt, r_seqBk, r_seqCt, r_ifT, r_ifF, r_setV, r_setOt, r_setOl, r_setOd, r_setOs, r_retK, r_retVv, r_retVo, r_asgK, r_tgN, r_tgT, r_tgL, r_tgs0, r_tgs, r_parK, r_ownL, r_ownLo, r_ownD, r_ownDo, r_appK, r_appJ, r_extK, r_extJ, r_stoK, r_stoI, r_stoJ, r_stoL, r_orT, r_orF, r_andT, r_andF, r_vorK, r_vorT, r_vorF, r_vandK, r_vandT, r_vandF, r_notK, r_truK, r_truB, r_truI, r_truL, r_truT, r_truN, r_isBK, r_rdV, r_rdO, r_dV, r_dO, r_valV, r_valL, r_valD, r_rVv, r_rVo, r_rVb, r_eVv, r_uVv, r_uVo, r_uVb, r_uVlK, r_sqK, r_consK, r_opK, r_opJ, r_chK, r_chJ, r_chT, r_chF, r_clK, r_ntK, r_ngK, r_tpK, r_lsK, r_slK, r_slJ, r_slI, r_slL, r_slT, r_aPK, r_sqL, r_sqT, r_sqS, r_rtR, r_rtN, r_refO, r_refE, r_wdK, r_bAdd, r_bSub, r_bMul, r_bDiv, r_bMod, r_bPow, r_cLt, r_cLe, r_cGt, r_cGe, r_cEq, r_cNe, r_ixL, r_ixT, r_of, r_lenL, r_lenT, r_lenS, Pd.R.bind_ok, Pd.R.bind_err, Pd.R.bind_stuck, noE_ok', mul_r, div_i, mod_i, add_i, sub_i, lt_i, le_i, gt_i, ge_i, eq_i, ne_i, pow18, List.cons_append, List.nil_append, List.getElem?_cons_zero, List.getElem?_cons_succ, List.replicate_succ, List.replicate_zero, List.set_cons_zero, List.set_cons_succ, List.length_cons, List.length_nil, if_true, if_false, Bool.not_true, Bool.not_false, Bool.false_eq_true, ↓reduceIte, Nat.reduceAdd, Nat.reduceLeDiff, Nat.reduceLT, Nat.zero_add, Option.map_some, Int.cast_ofNat_Int, Int.natCast_one, Int.natCast_zero, Int.reduceBEq, Int.reduceLT, Int.reduceLE, Int.reduceAdd, Int.reduceSub, Int.reduceMul, Int.reduceNeg, Int.reduceDiv, Int.reduceMod, decide_true, decide_false, ix1]
    rfl
  · rintro a c l Γ e ⟨s2, rfl⟩
    have hl : l ∈ ls := by rw [e]; exact List.mem_append_right _ (List.mem_cons_self ..)
    have ec := common_v (gcdL m a) l (by have := R.half l hl; omega)
    have hg : Nat.gcd (gcdL m a) l = gcdL m (a ++ [l]) := by unfold gcdL; rw [List.foldl_append]; rfl
    rw [hg] at ec
    exact go_eq (Γ' := [.val (ringD m ls), .val (.int (gcdL m (a ++ [l]) : Nat)), .val (.int l)]) (by simp (implicitDefEqProofs := false) (disch := omega) only [↓r_seq, ↓r_next, ↓r_if, ↓r_eif, ↓r_set, ↓r_ret, ↓r_retV, ↓r_expr, ↓r_asg, ↓r_par, ↓r_app, ↓r_ext, ↓r_sto, ↓r_or1, ↓r_or, ↓r_and1, ↓r_and, ↓r_vor1, ↓r_vor, ↓r_vand1, ↓r_vand, ↓r_not, ↓r_tru, ↓r_isB, ↓r_eC, ↓r_rd, ↓r_vl, ↓r_rV, ↓r_eV, ↓r_uV, ↓r_uVl, ↓r_sq0, ↓r_sq, ↓r_e2, ↓r_e3, ↓r_call, ↓r_user, ↓r_enot, ↓r_eneg, ↓r_tup, ↓r_lst, ↓r_sl, ↓r_noP, ↓r_aP, ↓r_iOf, ↓r_iF, ↓r_def, ↓r_ref, r_seqNx, r_seqRt, r_seqBk, r_seqCt, r_ifT, r_ifF, r_setV, r_setOt, r_setOl, r_setOd, r_setOs, r_retK, r_retVv, r_retVo, r_asgK, r_tgN, r_tgT, r_tgL, r_tgs0, r_tgs, r_parK, r_ownL, r_ownLo, r_ownD, r_ownDo, r_appK, r_appJ, r_extK, r_extJ, r_stoK, r_stoI, r_stoJ, r_stoL, r_orT, r_orF, r_andT, r_andF, r_vorK, r_vorT, r_vorF, r_vandK, r_vandT, r_vandF, r_notK, r_truK, r_truB, r_truI, r_truL, r_truT, r_truN, r_isBK, r_rdV, r_rdO, r_dV, r_dO, r_valV, r_valL, r_valD, r_rVv, r_rVo, r_rVb, r_eVv, r_uVv, r_uVo, r_uVb, r_uVlK, r_sqK, r_consK, r_opK, r_opJ, r_chK, r_chJ, r_chT, r_chF, r_clK, r_ntK, r_ngK, r_tpK, r_lsK, r_slK, r_slJ, r_slI, r_slL, r_slT, r_aPK, r_sqL, r_sqT, r_sqS, r_rtR, r_rtN, r_refO, r_refE, r_wdK, r_bAdd, r_bSub, r_bMul, r_bDiv, r_bMod, r_bPow, r_cLt, r_cLe, r_cGt, r_cGe, r_cEq, r_cNe, r_ixL, r_ixT, r_of, r_lenL, r_lenT, r_lenS, Pd.R.bind_ok, Pd.R.bind_err, Pd.R.bind_stuck, noE_ok', mul_r, div_i, mod_i, add_i, sub_i, lt_i, le_i, gt_i, ge_i, eq_i, ne_i, pow18, List.cons_append, List.nil_append, List.getElem?_cons_zero, List.getElem?_cons_succ, List.replicate_succ, List.replicate_zero, List.set_cons_zero, List.set_cons_succ, List.length_cons, List.length_nil, if_true, if_false, Bool.not_true, Bool.not_false, Bool.false_eq_true, ↓reduceIte, Nat.reduceAdd, Nat.reduceLeDiff, Nat.reduceLT, Nat.zero_add, Option.map_some, Int.cast_ofNat_Int, Int.natCast_one, Int.natCast_zero, Int.reduceBEq, Int.reduceLT, Int.reduceLE, Int.reduceAdd, Int.reduceSub, Int.reduceMul, Int.reduceNeg, Int.reduceDiv, Int.reduceMod, decide_true, decide_false, ec]) ⟨_, rfl⟩
  rintro Γ ⟨s2, rfl⟩
  simp (implicitDefEqProofs := false) (disch := omega) only [↓r_seq, ↓r_next, ↓r_if, ↓r_eif, ↓r_set, ↓r_ret, ↓r_retV, ↓r_expr, ↓r_asg, ↓r_par, ↓r_app, ↓r_ext, ↓r_sto, ↓r_or1, ↓r_or, ↓r_and1, ↓r_and, ↓r_vor1, ↓r_vor, ↓r_vand1, ↓r_vand, ↓r_not, ↓r_tru, ↓r_isB, ↓r_eC, ↓r_rd, ↓r_vl, ↓r_rV, ↓r_eV, ↓r_uV, ↓r_uVl, ↓r_sq0, ↓r_sq, ↓r_e2, ↓r_e3, ↓r_call, ↓r_user, ↓r_enot, ↓r_eneg, ↓r_tup, ↓r_lst, ↓r_sl, ↓r_noP, ↓r_aP, ↓r_iOf, ↓r_iF, ↓r_def, ↓r_ref, r_seqNx, r_seqRt, r_seqBk, r_seqCt, r_ifT, r_ifF, r_setV, r_setOt, r_setOl, r_setOd, r_setOs, r_retK, r_retVv, r_retVo, r_asgK, r_tgN, r_tgT, r_tgL, r_tgs0, r_tgs, r_parK, r_ownL, r_ownLo, r_ownD, r_ownDo, r_appK, r_appJ, r_extK, r_extJ, r_stoK, r_stoI, r_stoJ, r_stoL, r_orT, r_orF, r_andT, r_andF, r_vorK, r_vorT, r_vorF, r_vandK, r_vandT, r_vandF, r_notK, r_truK, r_truB, r_truI, r_truL, r_truT, r_truN, r_isBK, r_rdV, r_rdO, r_dV, r_dO, r_valV, r_valL, r_valD, r_rVv, r_rVo, r_rVb, r_eVv, r_uVv, r_uVo, r_uVb, r_uVlK, r_sqK, r_consK, r_opK, r_opJ, r_chK, r_chJ, r_chT, r_chF, r_clK, r_ntK, r_ngK, r_tpK, r_lsK, r_slK, r_slJ, r_slI, r_slL, r_slT, r_aPK, r_sqL, r_sqT, r_sqS, r_rtR, r_rtN, r_refO, r_refE, r_wdK, r_bAdd, r_bSub, r_bMul, r_bDiv, r_bMod, r_bPow, r_cLt, r_cLe, r_cGt, r_cGe, r_cEq, r_cNe, r_ixL, r_ixT, r_of, r_lenL, r_lenT, r_lenS, Pd.R.bind_ok, Pd.R.bind_err, Pd.R.bind_stuck, noE_ok', mul_r, div_i, mod_i, add_i, sub_i, lt_i, le_i, gt_i, ge_i, eq_i, ne_i, pow18, List.cons_append, List.nil_append, List.getElem?_cons_zero, List.getElem?_cons_succ, List.replicate_succ, List.replicate_zero, List.set_cons_zero, List.set_cons_succ, List.length_cons, List.length_nil, if_true, if_false, Bool.not_true, Bool.not_false, Bool.false_eq_true, ↓reduceIte, Nat.reduceAdd, Nat.reduceLeDiff, Nat.reduceLT, Nat.zero_add, Option.map_some, Int.cast_ofNat_Int, Int.natCast_one, Int.natCast_zero, Int.reduceBEq, Int.reduceLT, Int.reduceLE, Int.reduceAdd, Int.reduceSub, Int.reduceMul, Int.reduceNeg, Int.reduceDiv, Int.reduceMod, decide_true, decide_false]
end
end Pd

set_option Elab.async false
set_option linter.all false
set_option maxRecDepth 100000
set_option maxHeartbeats 1000000
namespace Pd
open PySem PySem.Spec L2 Pr

section
variable {m : Nat} {ls : List Nat}
def sumN (f : Nat → Nat) (l : List Nat) : Nat := (l.map f).sum
def adj (m : Nat) (ls : List Nat) (p q : Nat) : Bool := ls.any fun l => decide ((p + l) % m = q) || decide ((p + (m - l)) % m = q)
theorem perm_of_mem {a b : List Nat} (ha : a.Nodup) (hb : b.Nodup) (h : ∀ n, n ∈ a ↔ n ∈ b) : a.Perm b := (List.perm_ext_iff_of_nodup ha hb).mpr h
end
end Pd

set_option Elab.async false
set_option linter.all false
set_option maxRecDepth 100000
set_option maxHeartbeats 1000000
namespace Pd
open PySem PySem.Spec L2 Pr

section
variable {m : Nat} {ls : List Nat}
end
end Pd

set_option Elab.async false
set_option linter.all false
set_option maxRecDepth 100000
set_option maxHeartbeats 1000000
namespace Pd
open PySem PySem.Spec L2 Pr

def goodN (m : Nat) : List Nat := (oneTo m).filter fun b => decide (Nat.gcd m b = 1)
end Pd

set_option Elab.async false
set_option linter.all false
set_option maxRecDepth 100000
set_option maxHeartbeats 1000000
namespace Pd
open PySem PySem.Spec L2 Pr

section
variable {m : Nat} {ls : List Nat}
theorem wk_trans : ∀ (k : Nat) {n p q r : Nat}, Wk m ls n p q → Wk m ls k q r → Wk m ls (n + k) p r
  | 0, n, p, q, r, h1, h2 => by
    have : q = r := h2
    rw [← this]
    exact h1
  | k + 1, n, p, q, r, h1, ⟨x, h2, h3⟩ => ⟨x, wk_trans k h1 h2, h3⟩
def Rch (m : Nat) (ls : List Nat) (x : Nat) : Prop := ∃ n, Wk m ls n 0 (x % m)
theorem rch_add (hm : 0 < m) {x y : Nat} (hx : Rch m ls x) (hy : Rch m ls y) : Rch m ls (x + y) := by
  obtain ⟨n, h1⟩ := hx
  obtain ⟨k, h2⟩ := hy
  have h3 := wk_tr hm (x % m) h2
  rw [Nat.zero_add, Nat.mod_mod, ← Nat.add_mod, Nat.add_comm y x] at h3
  exact ⟨n + k, wk_trans k h1 h3⟩
theorem rch_mul (hm : 0 < m) {x : Nat} (hx : Rch m ls x) : ∀ k, Rch m ls (x * k)
  | 0 => ⟨0, by rw [Nat.mul_zero, Nat.zero_mod]; rfl⟩
  | k + 1 => by
    rw [Nat.mul_succ]
    exact rch_add hm (rch_mul hm hx k) hx
theorem rch_of {x y : Nat} (h : x % m = y % m) (hx : Rch m ls x) : Rch m ls y := by
  obtain ⟨n, h1⟩ := hx
  exact ⟨n, h ▸ h1⟩
theorem rch_mod (hm : 0 < m) {a b : Nat} (ha : Rch m ls a) (hb : Rch m ls b) : Rch m ls (b % a) := by
  have h := rch_add hm hb (rch_mul hm (rch_mul hm ha (b / a)) (m - 1))
  refine rch_of ?_ h
  have e : b + a * (b / a) * (m - 1) = b % a + a * (b / a) * m := by
    have h1 := Nat.div_add_mod b a
    obtain ⟨k, hk⟩ : ∃ k, m = k + 1 := ⟨m - 1, by omega⟩
    rw [hk, Nat.add_sub_cancel, Nat.mul_succ]
    omega
  rw [e, Nat.mul_comm, Nat.add_mul_mod_self_left]
theorem rch_gcd (hm : 0 < m) (a b : Nat) : Rch m ls a → Rch m ls b → Rch m ls (Nat.gcd a b) := by
  induction a, b using Nat.gcd.induction with
  | H0 b => intro _ h; rw [Nat.gcd_zero_left]; exact h
  | H1 a b ha ih =>
    intro h1 h2
    rw [Nat.gcd_rec]
    exact ih (rch_mod hm h1 h2) h1
theorem rch_gcdL (hm : 0 < m) : ∀ (l : List Nat) (a : Nat), Rch m ls a → (∀ x ∈ l, Rch m ls x) → Rch m ls (gcdL a l)
  | [], a, h, _ => h
  | x :: l, a, h, hl => rch_gcdL hm l (Nat.gcd a x) (rch_gcd hm a x h (hl x (List.mem_cons_self ..))) fun y hy => hl y (List.mem_cons_of_mem _ hy)
theorem dvd_wk (R : Ring m ls) : ∀ (n : Nat) {q : Nat}, Wk m ls n 0 q → gcdL m ls ∣ q
  | 0, q, h => by
    have : 0 = q := h
    rw [← this]
    exact Nat.dvd_zero _
  | n + 1, q, ⟨r, h, hq⟩ => by
    obtain ⟨gm, gl⟩ := (dvd_gcdL ls m).mp (Nat.dvd_refl (gcdL m ls))
    have hr := dvd_wk R n h
    obtain ⟨_, l, hl, e⟩ := mem_near.mp hq
    rcases e with rfl | rfl
    · exact (Nat.dvd_mod_iff gm).mpr (Nat.dvd_add hr (gl l hl))
    · exact (Nat.dvd_mod_iff gm).mpr (Nat.dvd_add hr (Nat.dvd_sub gm (gl l hl)))
end
end Pd

set_option Elab.async false
set_option linter.all false
set_option maxRecDepth 100000
set_option maxHeartbeats 1000000
namespace Pd
open PySem PySem.Spec L2 Pr

theorem nodup_len : ∀ (l G : List Nat), l.Nodup → (∀ a ∈ l, a ∈ G) → l.length ≤ G.length
  | [], _, _, _ => Nat.zero_le _
  | a :: l, G, hn, h => by
    rw [List.nodup_cons] at hn
    have ha := h a (List.mem_cons_self ..)
    have ih := nodup_len l (G.erase a) hn.2 fun b hb => (List.mem_erase_of_ne (fun e : b = a => hn.1 (by rw [← e]; exact hb))).mpr (h b (List.mem_cons_of_mem _ hb))
    rw [List.length_erase_of_mem ha] at ih
    have := List.length_pos_of_mem ha
    rw [List.length_cons]
    omega
section
variable {m : Nat} {ls : List Nat}
end
end Pd

set_option Elab.async false
set_option linter.all false
set_option maxRecDepth 100000
set_option maxHeartbeats 1000000
namespace Pd
open PySem PySem.Spec L2 Pr

section
variable {m : Nat} {ls : List Nat}
theorem rch_dvd (R : Ring m ls) {x : Nat} (h : gcdL m ls ∣ x) : Rch m ls x := by
  have hm : 0 < m := by have := R.m3; omega
  have h1 : Rch m ls (gcdL m ls) := rch_gcdL hm ls m ⟨0, by rw [Nat.mod_self]; rfl⟩ fun l hl => ⟨1, 0, rfl, mem_near.mpr ⟨Nat.mod_lt _ hm, l, hl, .inl (by rw [Nat.zero_add])⟩⟩
  obtain ⟨k, rfl⟩ := h
  exact rch_mul hm h1 k
theorem reach_iff (R : Ring m ls) {p q : Nat} (hp : p < m) (hq : q < m) : (∃ n, Wk m ls n p q) ↔ q % gcdL m ls = p % gcdL m ls := by
  have hm : 0 < m := by omega
  obtain ⟨g0, _⟩ := gcdL_le ls m hm
  have gm : gcdL m ls ∣ m := ((dvd_gcdL ls m).mp (Nat.dvd_refl _)).1
  have key : gcdL m ls ∣ (q + (m - p)) % m ↔ q % gcdL m ls = p % gcdL m ls := by
    rw [Nat.dvd_mod_iff gm]
    generalize gcdL m ls = g at g0 gm
    obtain ⟨k, rfl⟩ := gm
    constructor
    · intro h
      have h1 : (q + (g * k - p) + p) % g = p % g := by
        obtain ⟨t, ht⟩ := h
        rw [ht, Nat.mul_add_mod]
      rw [show q + (g * k - p) + p = q + g * k by omega, Nat.add_mul_mod_self_left] at h1
      exact h1
    · intro h
      have h1 := Nat.div_add_mod q g
      have h2 := Nat.div_add_mod p g
      refine Nat.dvd_of_mod_eq_zero ?_
      have hle : g * (p / g) ≤ g * k := by
        have : g * (p / g) ≤ p := Nat.mul_div_le p g
        omega
      have e : q + (g * k - p) = g * (q / g) + (g * k - g * (p / g)) := by omega
      rw [e, ← Nat.mul_sub, ← Nat.mul_add, Nat.mul_mod_right]
  rw [← key]
  constructor
  · rintro ⟨n, h⟩
    have h2 := wk_tr hm (m - p) h
    rw [show p + (m - p) = m by omega, Nat.mod_self] at h2
    exact dvd_wk R n h2
  · intro h
    obtain ⟨n, h2⟩ := rch_dvd R h
    rw [Nat.mod_mod] at h2
    have h3 := wk_tr hm p h2
    have e : ((q + (m - p)) % m + p) % m = q := by
      rw [Nat.mod_add_mod, show q + (m - p) + p = q + m by omega, Nat.add_mod_right, Nat.mod_eq_of_lt hq]
    rw [Nat.zero_add, Nat.mod_eq_of_lt hp, e] at h3
    exact ⟨n, h3⟩
end
def restN (m g i : Nat) : List Nat := (List.range m).filter fun q => decide (q % g = i)
end Pd

set_option Elab.async false
set_option linter.all false
set_option maxRecDepth 100000
set_option maxHeartbeats 1000000
namespace Pd
open PySem PySem.Spec L2 Pr

section
variable {m : Nat} {ls : List Nat}
def nxB (F : List (Option Nat)) (x q : Nat) : Bool := match F.getD x none, F.getD q none with
  | some t, some s => decide (s + 1 = t)
  | _, _ => false
def nxl (m : Nat) (ls : List Nat) (F : List (Option Nat)) (x : Nat) : List Nat := (nearN m ls x).filter (nxB F x)
def rtL (m : Nat) (ls : List Nat) (F : List (Option Nat)) : Nat → Nat → List Nat
  | 0, x => [x]
  | t + 1, x => x :: rtL m ls F t ((nxl m ls F x).headD 0)
end
end Pd

set_option Elab.async false
set_option linter.all false
set_option maxRecDepth 100000
set_option maxHeartbeats 1000000
namespace Pd
open PySem PySem.Spec L2
section
variable {X : Cx} {E : Ex T} {G : Gl5} {k : Nat} {N : List Str} {sc : Scope} {fnb : Str → Bool} {elt tg iter : PySem.Expr} {scope : Scope} {ifs : List PySem.Expr} {pos : Pos}
theorem Lok.blk {c P : Addr} (L : Lok X T c P) (s : Shared) (H : Hp) (scope : Scope) (C : Addr) (cl : List (Str × Addr)) (fp : List Addr) : Lok (X.blk s H scope (compEnvC scope cl C X.env) fp) T c P := ⟨L.code, L.tb, L.tm, L.tu⟩
end
end Pd

set_option Elab.async false
set_option linter.all false
set_option maxRecDepth 100000
set_option maxHeartbeats 1000000
namespace Pd
open PySem PySem.Spec L2 Pr
section
variable {m : Nat} {ls : List Nat}
end
end Pd

set_option Elab.async false
set_option linter.all false
set_option maxRecDepth 100000
set_option maxHeartbeats 1000000
namespace Pd
open PySem PySem.Spec L2 Pr

theorem go_tg {α : Type} {fi : Gm → R (List D)} {t : Tg} {b : Gm → R Out} {φ : α → D} {l : List α} (P : List α → Gm → Prop) {Γ : Gm} (e : fi Γ = .ok (l.map φ)) (p : P [] Γ)
    (h : ∀ (a c : List α) (x : α) (Γ : Gm), l = a ++ x :: c → P a Γ → ∃ Γ1, t.fn (φ x) Γ = .ok Γ1 ∧ Go (b Γ1) (P (a ++ [x]))) : Go (sFor fi t b Γ) (P l) := by
  rw [show sFor fi t b Γ = forR t b (l.map φ) Γ from sFor_eq e]
  have : ∀ (r pre : List α) (Γ : Gm), l = pre ++ r → P pre Γ → Go (forR t b (r.map φ) Γ) (P l) := by
    intro r
    induction r with
    | nil => intro pre Γ e p; rw [List.append_nil] at e; exact ⟨Γ, by rw [List.map_nil, forR], by rw [e]; exact p⟩
    | cons x r ih =>
      intro pre Γ e p
      obtain ⟨Γ0, e0, Γ1, e1, p1⟩ := h pre r x Γ e p
      obtain ⟨Γ2, e2, p2⟩ := ih (pre ++ [x]) Γ1 (by rw [e, List.append_assoc]; rfl) p1
      refine ⟨Γ2, ?_, p2⟩
      rw [List.map_cons, forR, e0, noE_ok', R.bind_ok, e1, R.bind_ok]
      exact e2
  exact this l [] Γ rfl p
def cntOk (m l : Nat) (d : D) : Bool := isNum d (if 2 * l = m then 0 else 0 - (m : Int)) (if 2 * l = m then 1 else (m : Int))
def isCounts (m : Nat) (ls : List Nat) : D → Bool
  | .tup ds => decide (ds.length = ls.length) && (ls.zip ds).all fun p => cntOk m p.1 p.2
  | _ => false
section
variable {m : Nat} {ls : List Nat}
def dot (ls : List Nat) (cs : List Int) : Int := ((ls.zip cs).map fun p => (p.1 : Int) * p.2).sum
end
end Pd

set_option Elab.async false
set_option linter.all false
set_option maxRecDepth 100000
set_option maxHeartbeats 1000000
namespace Pd
open PySem PySem.Spec L2
section
variable {X : Cx} {E : Ex T} {a b c d : PySem.Expr} {pos : Pos}
def tCh4 (r1 r2 r3 : R2) (ta tb tc td : TE) : TE := fun σ H Q => ta σ H fun x H1 => tb σ H1 fun y H2 => r1 x y H2 fun z H3 => ∃ k, z = .bl k ∧ (if k = true then tc σ H3 fun u H4 => r2 y u H4 fun z H5 => ∃ k, z = .bl k ∧ (if k = true then td σ H5 fun v H6 => r3 u v H6 Q else Q (.bl false) H5) else Q (.bl false) H3)
end
def c4M (o3 : D → D → Option O) (fd : Gm → R D) (Γ : Gm) (cc : D) : Option O → R O
  | some (.v (.bl true)) => (fd Γ).bind fun d => R.of (o3 cc d)
  | some (.v (.bl false)) => .ok (.v (.bl false))
  | _ => .stuck
def c4K (o2 o3 : D → D → Option O) (fc fd : Gm → R D) (Γ : Gm) (b : D) : Option O → R O
  | some (.v (.bl true)) => (fc Γ).bind fun c => c4M o3 fd Γ c (o2 b c)
  | some (.v (.bl false)) => .ok (.v (.bl false))
  | _ => .stuck
end Pd

set_option Elab.async false
set_option linter.all false
set_option maxRecDepth 100000
set_option maxHeartbeats 1000000
namespace Pd
open PySem PySem.Spec L2
section
variable {X : Cx} {E : Ex T} {a b : PySem.Expr} {pos : Pos}
def dict1 : D → D → R O
  | .int i, v => .ok (.o (.dct [(.int i, v)]))
  | _, _ => .stuck
def eDict1 (fk fv : Gm → R D) : Gm → R O := fun Γ => (fk Γ).bind fun k => (fv Γ).bind fun v => dict1 k v
theorem se_dict1 {fk fv : Gm → R D} (hk : SR X E a fk) (hv : SV X E b fv) : SE X E (.Dict [some a] [b] pos) (eDict1 fk fv) := by
  obtain ⟨tk, pk, gk⟩ := hk
  obtain ⟨tv, pv, gv⟩ := hv
  refine ⟨_, pe_disp (pps_cons pk pv pps_nil) rfl rfl (by simp) (by simp), fun Γ F0 H0 F H σ Q I q p hp => ?_⟩
  have g0 : Grow F H F (upd H p (.dK [])) := .newO I.sub hp
  have n0 : F p = none := I.sub.free hp
  refine gk Γ F0 H0 F _ σ _ (I.grow g0) (R.post_mono (R.post_bind q) (fun k _ q x F1 H1 g1 c1 => ?_) fun n e => e.on g0)
  refine gv Γ F0 H0 F1 H1 σ _ (I.grow (g0.trans g1)) (R.post_mono (R.post_bind q) (fun v _ q y F2 H2 g2 r2 => ?_) fun n e => e.on (g0.trans g1))
  have h1 : H1 p = some (.dK []) := g1.hh _ _ upd_same fun _ z => nomatch z
  have h2 : H2 p = some (.dK []) := g2.hh _ _ h1 fun _ z => nomatch z
  have n1 : F1 p = none := (g1.old p _ upd_same fun _ z => nomatch z).trans n0
  have n2 : F2 p = none := (g2.old p _ h1 fun _ z => nomatch z).trans n1
  have g12 := (g0.trans g1).trans g2
  cases k with
  | int i =>
    obtain rfl := c1.int
    refine ⟨h2, [(.inl i, y)], rfl, by simp, ?_⟩
    refine q _ F2 _ ⟨fun c o z n => ?_, g12.ff, g12.sub.upd h2 ⟨(fun _ z => nomatch z), fun _ z => nomatch z⟩ n2, g12.old⟩ ⟨p, rfl, .of hp, n2, .dctK upd_same (.cons r2 .nil) (by show 1 ≤ sizeLine; decide)⟩
    rw [upd_ne (fun z' => by rw [z', hp] at z; cases z)]
    exact g12.hh _ _ z n
  | _ => exact q.elim
end
def d1J (k v : D) : R O := dict1 k v
def d1K (fv : Gm → R D) (Γ : Gm) (k : D) : R O := (fv Γ).bind (d1J k)
theorem r_dict1 {fk fv : Gm → R D} {Γ : Gm} : eDict1 fk fv Γ = (fk Γ).bind (d1K fv Γ) := rfl
end Pd

set_option Elab.async false
set_option linter.all false
set_option maxRecDepth 100000
set_option maxHeartbeats 1000000
namespace Pd
open PySem PySem.Spec L2 Pr

def intKeys (kvs : List (D × D)) : Prop := ∀ p ∈ kvs, ∃ i : Int, p.1 = .int i
theorem kind_int {kvs : List (D × D)} (h : intKeys kvs) (k : Int) : kindK kvs (.int k) = true := by
  cases kvs with
  | nil => rfl
  | cons p r =>
    obtain ⟨i, e⟩ := h p (List.mem_cons_self ..)
    obtain ⟨a, b⟩ := p
    dsimp only at e
    subst e
    rfl
theorem sto_dct {kvs : List (D × D)} (h : intKeys kvs) (hl : kvs.length < 1000000) (k : Int) (v : D) : stoD (.dct kvs) (.int k) v = some (.dct (putD kvs (.int k) v)) := by
  unfold stoD
  dsimp only
  rw [if_pos ⟨rfl, kind_int h k, by unfold line; omega⟩]
theorem ix_dct {kvs : List (D × D)} (h : intKeys kvs) (k : Int) {v : D} (e : getK kvs (.int k) = some v) : dIx (.dct kvs) (.int k) = some (.v v) := by
  unfold dIx
  dsimp only
  rw [if_pos ⟨rfl, kind_int h k⟩, e]
  rfl
section
variable {m : Nat} {ls : List Nat}
def pcN (m : Nat) (ls : List Nat) (F : List (Option Nat)) : Nat → Nat → Nat
  | 0, _ => 1
  | t + 1, x => ((nxl m ls F x).map (pcN m ls F t)).sum
def cntN (m : Nat) (ls : List Nat) (F : List (Option Nat)) (x : Nat) : Nat := match F.getD x none with
  | none => 0
  | some t => pcN m ls F t x
def mirN (m o x : Nat) : Nat := (o + (m - x)) % m
end
end Pd

set_option Elab.async false
set_option linter.all false
set_option maxRecDepth 100000
set_option maxHeartbeats 1000000
namespace Pd
open PySem PySem.Spec L2 Pr
theorem sort_pairs (ps : List (Int × Int)) : fSorted [.lst (ps.map pairD)] = some (.o (.lst ((sortP ps).map pairD))) := by
  cases ps with
  | nil => rfl
  | cons t r =>
    have hi : intsOf ((t :: r).map pairD) = none := rfl
    unfold fSorted
    dsimp only
    rw [hi]
    dsimp only
    rw [pairsOf_map]
    rfl
section
variable {m : Nat} {ls : List Nat}
end
end Pd

set_option Elab.async false
set_option linter.all false
set_option maxRecDepth 100000
set_option maxHeartbeats 1000000
namespace Pr
open PySem PySem.Spec L2 Pd
def f__law_paths : Gm → R Out := sSeq (sSet false 3 (eUser d__law_steps (seqR [uVar 0, uVar 2])))
  (sSeq (sIf (isB (e2 (dCmp .Is) (rd (e2 dIx (rVar 3) (rVar 1))) (rd (eC .non)))) (sSeq (sRet (eLst (seqR [])))
  (sNext)) (sNext))
  (sSeq (sSet false 4 (eLst (seqR [vl (eTup (seqR [vl (eVar 1)]))])))
  (sSeq (sFor (iOf rngF1 (seqR [rd (e2 dIx (rVar 3) (rVar 1))])) (.nm 5) (sSeq (sSet true 6 (eLst (seqR [])))
  (sSeq (sFor (iF (vl (eVar 4))) (.nm 7) (sSeq (sSet false 8 (eLc (iF (rd (eUser d__law_near (seqR [uVar 0, uVal (vl (e2 dIx (rVar 7) (rd (eNeg (rd (eC (.int 1)))))))])))) (.nm 9) (isB (e2 (dCmp .Eq) (rd (e2 dIx (rVar 3) (rVar 9))) (rd (e2 (dBin .Sub) (rd (e2 dIx (rVar 3) (rd (e2 dIx (rVar 7) (rd (eNeg (rd (eC (.int 1))))))))) (rd (eC (.int 1))))))) (vl (eVar 9)) ([9])))
  (sSeq (sExt 6 (rd (eLc (iF (rVar 8)) (.nm 9) ((fun _ => .ok true)) (vl (e2 (dBin .Add) (rVar 7) (rd (eTup (seqR [vl (eVar 9)]))))) ([9]))))
  (sNext))))
  (sSeq ((fun Γ => (sSet false 4 (eVar 6)) (frz [6] Γ)))
  (sNext)))))
  (sSeq (sRetV 4)
  (sNext)))))
def d__law_paths : List Sl → R O := defF 7 f__law_paths
def f__law_count : Gm → R Out := sSeq (sSet false 3 (eUser d__law_steps (seqR [uVar 0, uVar 2])))
  (sSeq (sIf (isB (e2 (dCmp .Is) (rd (e2 dIx (rVar 3) (rVar 1))) (rd (eC .non)))) (sSeq (sRet (eC (.int 0)))
  (sNext)) (sNext))
  (sSeq (sSet true 4 (eDict1 (rVar 2) (vl (eC (.int 1)))))
  (sSeq (sFor (iOf rngF2 (seqR [rd (eC (.int 1)), rd (e2 (dBin .Add) (rd (e2 dIx (rVar 3) (rVar 1))) (rd (eC (.int 1))))])) (.nm 5) (sSeq (sFor (iOf rngF1 (seqR [rd (e2 dIx (rVar 0) (rd (eC (.int 0))))])) (.nm 6) (sSeq (sIf (isB (e2 (dCmp .Eq) (rd (e2 dIx (rVar 3) (rVar 6))) (rVar 5))) (sSeq (sSto 4 (vl (eCall fSum (seqR [rd (eLc (iF (rd (eUser d__law_near (seqR [uVar 0, uVar 6])))) (.nm 7) (isB (e2 (dCmp .Eq) (rd (e2 dIx (rVar 3) (rVar 7))) (rd (e2 (dBin .Sub) (rVar 5) (rd (eC (.int 1))))))) (vl (e2 dIx (rVar 4) (rVar 7))) ([7]))]))) (rVar 6))
  (sNext)) (sNext))
  (sNext)))
  (sNext)))
  (sSeq (sRet (e2 dIx (rVar 4) (rVar 1)))
  (sNext)))))
def d__law_count : List Sl → R O := defF 5 f__law_count
end Pr
namespace Pd
open PySem PySem.Spec L2 Pr
section
variable {m : Nat} {ls : List Nat} (R : Ring m ls)
include R
end
def stepW (m : Nat) (ls : List Nat) (F : List (Option Nat)) (W : List (List Nat × Nat)) : List (List Nat × Nat) := W.flatMap fun w => (nxl m ls F w.2).map fun q => (w.1 ++ [w.2], q)
def iterW (m : Nat) (ls : List Nat) (F : List (Option Nat)) : Nat → List (List Nat × Nat) → List (List Nat × Nat)
  | 0, W => W
  | n + 1, W => stepW m ls F (iterW m ls F n W)
def wyD (w : List Nat × Nat) : D := .tup (nD (w.1 ++ [w.2]))
def wysN (m : Nat) (ls : List Nat) (F : List (Option Nat)) : Nat → Nat → List (List Nat)
  | 0, x => [[x]]
  | t + 1, x => (nxl m ls F x).flatMap fun q => (wysN m ls F t q).map (x :: ·)
section
variable {m : Nat} {ls : List Nat} {F : List (Option Nat)}
def wpN (m : Nat) (ls : List Nat) (F : List (Option Nat)) (t : Nat) (W : List (List Nat × Nat)) : Nat := (W.map fun w => pcN m ls F t w.2).sum
variable (R : Ring m ls)
include R
end
end Pd

set_option Elab.async false
set_option linter.all false
set_option maxRecDepth 100000
set_option maxHeartbeats 1000000
namespace Pd
open PySem PySem.Spec L2 Pr
def natD : D → Nat
  | .int i => i.toNat
  | _ => 0
def wayB (m : Nat) (ls : List Nat) (ys : List Nat) : Bool := (List.range (ys.length - 1)).all fun k => decide (ys.getD (k + 1) 0 ∈ nearN m ls (ys.getD k 0))
def isWay (m : Nat) (ls : List Nat) : D → Bool
  | .tup ds => !ds.isEmpty && (ds.all (fun d => isNum d 0 ((m : Int) - 1)) && wayB m ls (ds.map natD))
  | _ => false
section
variable {m : Nat} {ls : List Nat}
end
end Pd

set_option Elab.async false
set_option linter.all false
set_option maxRecDepth 100000
set_option maxHeartbeats 1000000
namespace Pd
open PySem PySem.Spec L2 Pr
theorem depDs_all {k : Nat} : ∀ {ds : List D}, (∀ d ∈ ds, depD d ≤ k) → depDs ds ≤ k
  | [], _ => by rw [depDs]; exact Nat.zero_le _
  | d :: ds, h => by
    rw [depDs]
    exact Nat.max_le.mpr ⟨h d (List.mem_cons_self ..), depDs_all fun e he => h e (List.mem_cons_of_mem _ he)⟩
def gdT (d : D) : Prop := okD d = true ∧ ∀ ds, d = .tup ds → shp (.tup ds) = true ∧ ds.length ≤ 1000000
def flD (d : D) : Prop := okD d = true ∧ layD d = true ∧ depD d ≤ 2
section
variable {m : Nat} {ls : List Nat}
def oddWay (m : Nat) (ys : List Nat) (s : Nat) : List D := [D.int (((ys.getD s 0 : Nat) + 1 : Int) % (m : Int)), .int m, .int (-1), .bl true, .non, .str (toString ((ys.getD s 0 : Nat) : Int)), .tup [.int 0], .int 10000000000000000000000000000]
def bentWays (ys : List Nat) (s : Nat) (x : D) : List D := [.tup (cutG (nD ys) none (some (s : Int)) ++ [x] ++ cutG (nD ys) (some ((s : Int) + 1)) none), .tup (cutG (nD ys) none (some (s : Int)) ++ cutG (nD ys) (some ((s : Int) + 1)) none), .tup (cutG (nD ys) none (some ((s : Int) + 1)) ++ cutG (nD ys) (some (s : Int)) none), .tup (nD ys).reverse] ++ [.lst (nD ys), .tup [.tup (nD ys)], .non, .str "0 1", .dct [], .tup (nD ys ++ [.int (ys.getD 0 0 : Nat)]), .tup (nD ys ++ cutG (nD ys).reverse (some 1) none)]
end
end Pd

set_option Elab.async false
set_option linter.all false
set_option maxRecDepth 100000
set_option maxHeartbeats 1000000
namespace Pd
open PySem PySem.Spec L2 Pr
def gsN (m : Nat) (ys : List Nat) : List Nat := (List.range (ys.length - 1)).map fun k => (ys.getD (k + 1) 0 + (m - ys.getD k 0)) % m
def cOf1 (m : Nat) (ys : List Nat) (l : Nat) : Int := if 2 * l = m then ((gsN m ys).count l : Int) % 2 else ((gsN m ys).count l : Int) - ((gsN m ys).count (m - l) : Int)
def cOf (m : Nat) (ls ys : List Nat) : List Int := ls.map (cOf1 m ys)
section
variable {m : Nat} {ls : List Nat}
def dueF (m : Nat) (ps : List (Nat × Nat)) (l : Nat) : Int := (ps.map fun p => if (p.1 + l) % m = p.2 then (1 : Int) else if (p.2 + l) % m = p.1 then -1 else 0).sum
end
end Pd

set_option Elab.async false
set_option linter.all false
set_option maxRecDepth 100000
set_option maxHeartbeats 1000000
namespace Pd
open PySem PySem.Spec L2 Pr
section
variable {m : Nat} {ls : List Nat}
end
end Pd

set_option Elab.async false
set_option linter.all false
set_option maxRecDepth 100000
set_option maxHeartbeats 1000000
namespace Pd
open PySem PySem.Spec L2 Pr
section
variable {m : Nat} {ls : List Nat}
def rankN (m : Nat) (ls : List Nat) (F : List (Option Nat)) (t : Nat) (v : List Nat) (k : Nat) : Nat := (((nxl m ls F (v.getD k 0)).filter fun a => decide (a < v.getD (k + 1) 0)).map (pcN m ls F (t - k - 1))).sum
def endsB (F0 : List (Option Nat)) (m : Nat) (ys : List Nat) : Bool := decide (F0.getD ((ys.getD (ys.length - 1) 0 + (m - ys.getD 0 0)) % m) none = some (ys.length - 1))
def isShort (m : Nat) (ls : List Nat) (F0 : List (Option Nat)) : D → Bool
  | .tup ds => isWay m ls (.tup ds) && endsB F0 m (ds.map natD)
  | _ => false
end
end Pd

set_option Elab.async false
set_option linter.all false
set_option maxRecDepth 100000
set_option maxHeartbeats 1000000
namespace Pd
open PySem PySem.Spec L2 Pr
section
variable {m : Nat} {ls : List Nat}
def prsN (ys : List Nat) : List (Nat × Nat) := ys.zip (ys.drop 1)
def swP (p : Nat × Nat) : Nat × Nat := (p.2, p.1)
end
end Pd

set_option Elab.async false
set_option linter.all false
set_option maxRecDepth 100000
set_option maxHeartbeats 1000000
namespace Pd
open PySem PySem.Spec L2 Pr
section
variable {m : Nat} {ls : List Nat}
end
end Pd

set_option Elab.async false
set_option linter.all false
set_option maxRecDepth 100000
set_option maxHeartbeats 2000000
namespace Pd
open PySem PySem.Spec L2 PyProof.Rows

def RunC (P : Program) (w : World) (K : PySem.W.Frag) (mg : Str → Option Value) (base : Heap) (cx : CXT) (f : Addr) (fd : FuncData) (ps : List Str) (sp : Sp) : Prop :=
  ∀ (s : Shared) (H : Hp) (args : Args) (us : List Value) (vs : List V) (Q : VK) (E : XK), Env0 P w K mg base callerA [] s H → BindsTo s fd args (ps.zip us) → Vals vs us → sp vs H Q E →
    codeAny (model P w) callerA (.call (.ref f) args) (CR cx [] P w H s Q E) s
theorem run_c {cx : CXT} {P : Program} {w : World} {K : PySem.W.Frag} {mg : Str → Option Value} {base : Heap} {k : Nat} {f : Addr} {x : Str} {pa : Arguments} {body : List Stmt} {sc : Scope} {kV doc pm cd ct oc : Value} {an od : Option Addr} {osl : Array (Option Value)} {N ps : List Str} {sp : Sp}
    (lk : K.lookup f = some ⟨oc, od, .func (PySem.W.fnOf x x pa body sc .none kV doc pm an cd ct), osl⟩) (hcd : PySem.W.codeIn K cd x = true) (S : FnScope N ps sc) (room : Room (k + 1) callerA) (len : ∀ vs H Q E, sp vs H Q E → vs.length = ps.length)
    (go : ∀ (s : Shared) (H : Hp) (vs : List V) (Q : VK) (E : XK), Room k (callerA.deeper (envOfC x sc s.heap.objs.size f cd)) → sp vs H Q E → ∃ t, PSs (cxOf cx P w K mg base N x sc f cd callerA [] s H E) body t ∧ t { nx := fun _ H' => Q .non H', rt := Q } (L2.start N vs) H) :
    RunC P w K mg base cx f (PySem.W.fnOf x x pa body sc .none kV doc pm an cd ct) ps sp := by
  intro s H args us vs Q E e0 hb r h
  have lv := len vs H Q E h
  have old : ∀ b o, base.get? b = some o → s.heap.get? b = some o := fun b o e => (e0.bs b o e).1
  have kin := e0.mod.kin.keeps old
  have nolim := e0.mod.nolimit.keeps old
  have kinds : ∀ y ∈ ps.zip us, sc.names.lookup y.1 = some .local ∨ (sc.names.lookup y.1 = some .cell ∧ ((cellsFrom (s.heap.objs.size + 1) sc.names []).lookup y.1).isSome = true) := by
    rintro ⟨a, b⟩ hy
    exact (S.par a (List.of_mem_zip hy).1).imp id fun q => ⟨q, PySem.W.cellsFrom_some _ _ _ (.inl q)⟩
  have cr := PySem.W.codeRec_of kin hcd
  refine codeAny_call_function room.depth (kin _ _ lk) rfl S.co S.gen rfl cr (hb _ _ _ _ ?_)
  refine wpAny_newFunctionEnv_cells S.kind kinds fun env he s1 z => ?_
  subst he
  obtain ⟨t, ht, hq⟩ := go s H vs Q E (room.deeper _) h
  refine ⟨nolim.keeps z.toInCall.keep, codeAny_func (wpAny_mono (ht.run [] s1 (L2.start N vs) H _ (L2.inv_start S room.hd e0 lv r z) hq) (fun fl s' hs => ?_) fun _ _ e => e)⟩
  cases fl with
  | ret u =>
    obtain ⟨v, _, H', J, rv, q⟩ := hs
    exact ⟨v, H', J.os, J.bare, J.base, J.hok, rv, q⟩
  | next =>
    obtain ⟨_, H', J, q⟩ := hs
    exact ⟨V.non, H', J.os, J.bare, J.base, J.hok, rfl, q⟩
  | brk => exact (show False from hs.choose_spec.choose_spec.2).elim
  | cont => exact (show False from hs.choose_spec.choose_spec.2).elim

def LawC (l : PySem.W.OpenLaw) (w : World) (K : PySem.W.Frag) (cx : CXT) (n : Nat) (x : Str) (mg : Str → Option Value) (fa : Addr) (h : Heap) : Prop :=
  ∃ (fd : FuncData) (cs : List (Addr × Addr)) (sp : Sp),
    (∀ p ∈ cs, h.get? p.2 = some { cls := .none, data := .fields #[] } ∧ K.lookup p.2 = none ∧ PySem.W.CodeHd h p.1 p.2) ∧
    (∀ (s : Shared) (u : Value), BindsTo s fd ⟨[u], []⟩ [(x, u)]) ∧
    (∀ (H : Hp) (a : Addr) (ns : List Int), ns.length ≤ n → (∀ p ∈ cs, H p.2 = some (.tbl #[])) → SqL K H a (ns.map V.int) → sp [.ref a] H (fun v _ => v = .bl true) fun _ _ _ => False) ∧
    ∀ base : Heap, K.In base → base.Ns mainGlobals mg → (∀ p ∈ cs, LamX.TabB base mg p.1 p.2) → RunC l.prog w K mg base cx fa fd [x] sp
section
variable {K : PySem.W.Frag} {s : Shared} {a : Addr} {vs : List Value} {ns : List Int} {cs : List (Addr × Addr)}
def startHp (K : PySem.W.Frag) (a : Addr) (vs : List Value) (ns : List Int) (cs : List (Addr × Addr)) : Hp := fun b =>
  if b ∈ cs.map (·.2) then some (.tbl #[])
  else if b = a ∧ K.lookup a = none then some (.frz { cls := .type "list", data := .seq vs.toArray } (.lst (ns.map V.int)))
  else none
theorem start_tab {b : Addr} (hb : b ∈ cs.map (·.2)) : startHp K a vs ns cs b = some (.tbl #[]) := if_pos hb
theorem start_none {b : Addr} (hb : b ∉ cs.map (·.2)) (h : ¬ (b = a ∧ K.lookup a = none)) : startHp K a vs ns cs b = none := (if_neg hb).trans (if_neg h)
theorem start_scr {b : Addr} (hb : b ∉ cs.map (·.2)) (h : b = a ∧ K.lookup a = none) : startHp K a vs ns cs b = some (.frz { cls := .type "list", data := .seq vs.toArray } (.lst (ns.map V.int))) := (if_neg hb).trans (if_pos h)
theorem start_cases (b : Addr) : (b ∈ cs.map (·.2) ∧ startHp K a vs ns cs b = some (.tbl #[])) ∨ (b ∉ cs.map (·.2) ∧ (b = a ∧ K.lookup a = none) ∧ startHp K a vs ns cs b = some (.frz { cls := .type "list", data := .seq vs.toArray } (.lst (ns.map V.int)))) ∨ (b ∉ cs.map (·.2) ∧ startHp K a vs ns cs b = none) := by
  by_cases hb : b ∈ cs.map (·.2)
  · exact .inl ⟨hb, start_tab hb⟩
  · by_cases h : b = a ∧ K.lookup a = none
    · exact .inr (.inl ⟨hb, h, start_scr hb h⟩)
    · exact .inr (.inr ⟨hb, start_none hb h⟩)
end
theorem law_callC {P : Program} {w : World} {K : PySem.W.Frag} {mg mb : Str → Option Value} {cx : CXT} {fa a : Addr} {cs : List (Addr × Addr)} {fd : FuncData} {x : Str} {sp : Sp} {s : Shared} {vs : List Value} {ns : List Int}
    (kin : K.In s.heap) (glob : s.heap.Ns mainGlobals mg) (blt : s.heap.Ns builtinsNs mb) (boot : ∀ x : Str, x ≠ "__name__" → mb x = bootBuiltins x) (nolim : s.heap.NoLimit) (nog : s.gens = #[])
    (tabs : ∀ p ∈ cs, s.heap.get? p.2 = some { cls := .none, data := .fields #[] } ∧ K.lookup p.2 = none ∧ PySem.W.CodeHd s.heap p.1 p.2)
    (bmod : ∃ (bm : Addr) (ob : Obj), mg "__builtins__" = some (.ref bm) ∧ bm ≠ builtinsNs ∧ s.heap.get? bm = some ob ∧ ob.cls = .type "module" ∧ ob.dict = some builtinsNs ∧ ob.data = .plain)
    (scr : s.heap.get? a = some { cls := .type "list", data := .seq vs.toArray }) (hnum : IntsAre vs ns) (few : ns.length ≤ sizeLine)
    (F : ∀ base : Heap, K.In base → base.Ns mainGlobals mg → (∀ p ∈ cs, LamX.TabB base mg p.1 p.2) → RunC P w K mg base cx fa fd [x] sp) (binds : ∀ (s : Shared) (u : Value), BindsTo s fd ⟨[u], []⟩ [(x, u)])
    (wish : ∀ H : Hp, (∀ p ∈ cs, H p.2 = some (.tbl #[])) → SqL K H a (ns.map V.int) → sp [.ref a] H (fun v _ => v = .bl true) fun _ _ _ => False)
    (noX : ∀ H e s', cx [] H s (fun _ _ _ => False) e s' → False) :
    codeAny (model P w) callerA (.call (.ref fa) ⟨[.ref a], []⟩) (fun r s' => r = .ok (.ret (.bool true)) ∧ OldK s.heap s'.heap ∧ s'.os = s.os ∧ AllBare s'.gens) s := by
  have rv := vals_ints hnum
  have many := hnum.length
  have inT : ∀ p ∈ cs, p.2 ∈ cs.map (·.2) := fun p hp => List.mem_map.mpr ⟨p, hp, rfl⟩
  have atT : ∀ b ∈ cs.map (·.2), s.heap.get? b = some { cls := .none, data := .fields #[] } := fun b hb => by
    obtain ⟨p, hp, rfl⟩ := List.mem_map.mp hb
    exact (tabs p hp).1
  have aT : a ∉ cs.map (·.2) := fun z => by
    have q := (atT a z).symm.trans scr
    exact absurd (congrArg Obj.data (Option.some.inj q)) (by intro z; cases z)
  obtain ⟨H, hH⟩ : ∃ H, startHp K a vs ns cs = H := ⟨_, rfl⟩
  have tab0 : ∀ p ∈ cs, H p.2 = some (.tbl #[]) := fun p hp => by rw [← hH]; exact start_tab (inT p hp)
  have hok : HOk P w H s.heap := fun b u z => by
    rw [← hH] at z
    rcases start_cases (K := K) (a := a) (vs := vs) (ns := ns) (cs := cs) b with ⟨hb, e⟩ | ⟨_, ⟨rfl, _⟩, e⟩ | ⟨_, e⟩
    · cases e.symm.trans z
      exact atT b hb
    · cases e.symm.trans z
      exact ⟨scr, by rw [List.length_map]; exact few, vs, _, rv, scr⟩
    · cases e.symm.trans z
  have sq : SqL K H a (ns.map V.int) := by
    cases hk : K.lookup a with
    | none => exact .inl (.inr ⟨_, by rw [← hH]; exact start_scr aT ⟨rfl, hk⟩⟩)
    | some o =>
      obtain rfl := Option.some.inj ((kin a o hk).symm.trans scr)
      exact .inr ⟨_, vs.toArray, _, hk, rfl, rfl, rfl, by rw [List.size_toArray, many]; exact few, by simpa using rv⟩
  -- what is not tracked stays below
  have free : ∀ {b : Addr} {o : Obj}, s.heap.get? b = some o → (∀ us n, o.data ≠ .seq us n) → o.data ≠ .fields #[] → H b = none := fun {b o} e n1 n2 => by
    rw [← hH]
    rcases start_cases (K := K) (a := a) (vs := vs) (ns := ns) (cs := cs) b with ⟨hb, _⟩ | ⟨_, ⟨rfl, _⟩, _⟩ | ⟨_, z⟩
    · cases (atT b hb).symm.trans e
      exact absurd rfl n2
    · cases scr.symm.trans e
      exact absurd rfl (n1 _ _)
    · exact z
  have low : ∀ {b : Addr} {o : Obj}, s.heap.get? b = some o → H b = none → (L2.hidT s.heap H).get? b = some o := fun e n => hidT_get e n
  have lowNs : ∀ {b : Addr} {m : Str → Option Value}, s.heap.Ns b m → (L2.hidT s.heap H).Ns b m := fun {b m} ⟨o, es, ep, e, d, r⟩ =>
    ⟨o, es, ep, low e (free e (fun us n z => by cases d.symm.trans z) fun z => by cases d.symm.trans z), d, r⟩
  have lowK : K.In (L2.hidT s.heap H) := fun b o e => low (kin b o e) (by
    rw [← hH]
    rcases start_cases (K := K) (a := a) (vs := vs) (ns := ns) (cs := cs) b with ⟨hb, _⟩ | ⟨_, ⟨rfl, q⟩, _⟩ | ⟨_, z⟩
    · obtain ⟨p, hp, rfl⟩ := List.mem_map.mp hb
      cases (tabs p hp).2.1.symm.trans e
    · cases q.symm.trans e
    · exact z)
  have lowM : Mod K mg (L2.hidT s.heap H) := ⟨lowK, lowNs glob, ⟨mb, lowNs blt, boot⟩, let ⟨mc, h1, h2⟩ := nolim; ⟨mc, lowNs h1, h2⟩⟩
  have TB : ∀ p ∈ cs, LamX.TabB (L2.hidT s.heap H) mg p.1 p.2 := fun p hp => by
    obtain ⟨t0, _, oc, us, file, tf, flags, tg, inF, text, tt, e1, r1, r2, r3, rest⟩ := tabs p hp
    refine ⟨⟨oc, us, file, tf, flags, tg, inF, text, tt, low e1 (free e1 (fun us n z => by cases r2.symm.trans z) fun z => ?_), r1, r2, r3, rest⟩, ?_, fun z => ?_⟩
    · cases r2.symm.trans z
      simp at r3
    · obtain ⟨bm, ob, b1, b2, b3, b4, b5, b6⟩ := bmod
      refine ⟨bm, ob, b1, b2, fun q => ?_, fun q => ?_, low b3 (free b3 (fun us n z => by cases b6.symm.trans z) fun z => by cases b6.symm.trans z), b4, b5, b6⟩
      · obtain ⟨o, es, ep, e, d, _⟩ := glob
        rw [q] at b3
        cases b3.symm.trans e
        cases b6.symm.trans d
      · rw [q] at b3
        cases b3.symm.trans t0
        cases b6
    · obtain ⟨o, es, ep, e, d, _⟩ := glob
      rw [z] at e
      cases e.symm.trans t0
      cases d
  have e0 : Env0 P w K mg (L2.hidT s.heap H) callerA [] s H :=
    ⟨rfl, lowM, fun b o e => of_hidT e, Nat.le_of_eq (hidT_size _ _), trivial, fun b hb => absurd (show b ∈ ([] : List Addr) from hb) (by simp), hok, .of_eq nog⟩
  have run := F _ lowK (lowNs glob) TB s H ⟨[.ref a], []⟩ [.ref a] [.ref a] _ _ e0 (binds s (.ref a)) (.cons rfl .nil) (wish H tab0 sq)
  refine codeAny_mono run fun r s' h => ?_
  have tr : ∃ u, r = .ok (.ret u) ∧ CE [] P w H s (fun v _ => v = .bl true) u s' := by
    cases r with
    | error e => exact (noX H e s' h).elim
    | ok fl =>
      cases fl with
      | ret u => exact ⟨u, rfl, h⟩
      | next => exact False.elim h
      | brk => exact False.elim h
      | cont => exact False.elim h
  obtain ⟨u, rfl, v, H', os, bare, un, hok', r', q⟩ := tr
  obtain rfl : v = .bl true := q
  obtain rfl : u = Value.bool true := r'
  have stay : ∀ b o, b ∉ cs.map (·.2) → s.heap.get? b = some o → s'.heap.get? b = some o := fun b o nb e => by
    rcases start_cases (K := K) (a := a) (vs := vs) (ns := ns) (cs := cs) b with ⟨hb, _⟩ | ⟨_, _, z⟩ | ⟨_, z⟩
    · exact absurd hb nb
    · rw [hH] at z
      obtain ⟨g1, _⟩ := hok b _ z
      obtain ⟨g2, _⟩ := hok' b _ (un.frzs b _ _ z)
      cases g1.symm.trans e
      exact g2
    · rw [hH] at z
      exact un.keep b o e z (fun z => absurd (show b ∈ ([] : List Addr) from z) (by simp)) (by simp)
  have more : ∀ p ∈ cs, ∃ xs : Array Value, s'.heap.get? p.2 = some { cls := .none, data := .fields xs } := fun p hp => by
    obtain ⟨ys, z⟩ := un.tbls p.2 #[] (tab0 p hp)
    exact ⟨_, hok' p.2 _ z⟩
  refine ⟨rfl, ⟨fun b o e => ?_, fun b o e => ?_⟩, os, bare⟩
  · by_cases hb : b ∈ cs.map (·.2)
    · obtain ⟨p, hp, rfl⟩ := List.mem_map.mp hb
      obtain ⟨xs, hx⟩ := more p hp
      obtain ⟨t0, _, hd⟩ := tabs p hp
      cases t0.symm.trans e
      exact .inr (.inl ⟨(hd.tab t0).isCodeTable, rfl, #[], xs, rfl, by rw [Array.empty_append]; exact hx⟩)
    · exact .inl (stay b o hb e)
  · by_cases hb : b ∈ cs.map (·.2)
    · obtain ⟨p, hp, rfl⟩ := List.mem_map.mp hb
      obtain ⟨xs, hx⟩ := more p hp
      exact ⟨_, hx⟩
    · exact ⟨o, stay b o hb e⟩
theorem walk_c {l : PySem.W.OpenLaw} {n : Nat} {q : Program} {loose : List Str} {XP : (Str → Option Value) → Heap → Prop} {YP : World → Heap → Prop} {d : DefRec} {K : Params → PySem.W.Frag} {cx : World → CXT} {x : Str} (names : List Str)
    (hn : l.most = some n) (hn2 : n ≤ sizeLine) (hdf : d.params.defaults = []) (hrec : (names.all fun y => (recsOf q).any fun e => e.name == y) = true) (hY : ∀ (w : World) (h : Heap), YP w h → (K w.params).In h)
    (F : ∀ (w : World) (mg : Str → Option Value) (fa : Addr) (h : Heap), YP w h → (K w.params).In h → h.Ns mainGlobals mg → mg d.name = some (.ref fa) → (∀ y ∈ names, ∀ fb : Addr, mg y = some (.ref fb) → LamX.OwnTab (K w.params) fb h) → LawC l w (K w.params) (cx w) n x mg fa h)
    (noX : ∀ (w : World) (H : Hp) (s : Shared) (e : Value) (s' : Shared), cx w [] H s (fun _ _ _ => False) e s' → False) :
    PySem.W.WalkO q loose XP YP l.row.toRowW d [] (fun f vs => PySem.call f vs) := by
  refine Att.attach_callB hn hdf fun w s0 s1 mg mb fa o pm cd doc a vs ns G Y ho hd hcd hmg hobj hints hlen hbits hg => ?_
  have kin := hY w _ Y
  have own : ∀ y ∈ names, ∀ fb : Addr, mg y = some (.ref fb) → LamX.OwnTab (K w.params) fb s1.heap := by
    intro y hy fb hfb c P ob fdb e dd us sl k1 k2 k3 k4 k5
    obtain ⟨dR, hm, hnm⟩ := List.any_eq_true.mp (List.all_eq_true.mp hrec y hy)
    obtain ⟨_, _, _, _, _, g1, g2, g3, g4, _, g6⟩ := G.T.tab dR hm
    obtain ⟨⟨oc, vc, c1, _, c3, c4⟩, hP⟩ := g6
    rw [beq_iff_eq.mp hnm, hfb] at g1
    cases g1
    cases (kin _ _ k1).symm.trans g2
    cases k2.symm.trans g3
    cases k3.symm.trans g4
    cases (kin _ _ k4).symm.trans c1
    cases c3
    cases k5.symm.trans c4
    exact hP
  obtain ⟨fd, cs, sp, tabs, binds, wish, run⟩ := F w mg fa _ Y kin G.T.g hmg own
  exact law_callC kin G.T.g G.T.b G.T.builtins G.T.nolimit hg tabs G.T.bmain hobj hints (Nat.le_trans hlen hn2) run binds (fun H hH hS => wish H a ns hlen hH hS) fun H e s' => noX w H s1 e s'
end Pd

set_option Elab.async false
set_option linter.all false
set_option maxRecDepth 100000
set_option maxHeartbeats 2000000
namespace Pd
open PySem PySem.Spec L2

def spTm (K : PySem.W.Frag) (mg : Str → Option Value) (T : List (Addr × Str)) (n : Nat) (φ : List Sl → R O) : Sp := fun vs H Q E => vs.length = n ∧ ∃ (F : Fz T) (ss : List Sl), Sub F H ∧ SlVs K F H vs ss ∧
  (φ ss).post (fun o => ∀ v F' H', Grow F H F' H' → ORep K H F' H' v o → Q v H') (Erp mg (⟨E⟩ : Ex T) F H)
structure DefGT (G : Gl5) (T : List (Addr × Str)) (k : Nat) (x : Str) (n : Nat) (φ : List Sl → R O) : Prop where
  ex : ∃ (f : Addr) (fd : FuncData) (ps : List Str), FnOk G.P G.w G.K G.mg G.base (L2.CX G.P G.w) k f fd ps (spTm G.K G.mg T n φ) ∧ G.mg x = some (.ref f) ∧ PySem.W.keepIn G.K (.ref f) = true ∧ Binds G.K fd ps []
section
variable {X : Cx} {E : Ex T} {G : Gl5} {k m n : Nat} {N : List Str} {sc : Scope} {fnb : Str → Bool} {φ : List Sl → R O} {x : Str} {es : List PySem.Expr} {p pos : Pos}
end
section
variable {P : Program} {w : World} {K : PySem.W.Frag} {mg : Str → Option Value} {base : Heap} {T : List (Addr × Str)}
theorem def_c {x : Str} {st : Stmt} {f : Addr} {oc kV doc pm cd ct : Value} {od an : Option Addr} {osl : Array (Option Value)} {N ps : List Str} {k n m : Nat} {fn : Gm → R Out}
    (lk : K.lookup f = some ⟨oc, od, .func (PySem.W.fnOf x x (L2.defArgs st) (L2.defBody st) (L2.defScope st) .none kV doc pm an cd ct), osl⟩) (hcd : PySem.W.codeIn K cd x = true) (S : FnScope N ps (L2.defScope st)) (hn : ps.length = n) (hm : N.length = n + m) (room : Room (k + 1) callerA)
    (hb : ∀ (X : Cx) (E : Ex T), Cok X E ⟨P, w, K, mg, base⟩ k N (L2.defScope st) fnAll → Sok X → X.env.code = cd → X.env.qual ++ "<lambda>" = lamQ x → X.base = base → X.mg = mg → X.A.guards = some [] → SB X E (L2.defBody st) fn) :
    RunC P w K mg base (L2.CX P w) f (PySem.W.fnOf x x (L2.defArgs st) (L2.defBody st) (L2.defScope st) .none kV doc pm an cd ct) ps (spT K T n (defF m fn)) := by
  refine run_c lk hcd S room (fun vs H Q E h => by rw [hn]; exact h.1) fun s H vs Q E hr h => ?_
  obtain ⟨hl, h⟩ := h
  obtain ⟨F0, ss, sb, sv, q⟩ := h mg
  have C : Cok (cxOf (L2.CX P w) P w K mg base N x (L2.defScope st) f cd callerA [] s H E) (⟨E⟩ : Ex T) ⟨P, w, K, mg, base⟩ k N (L2.defScope st) fnAll :=
    ⟨rfl, rfl, rfl, S.nd, rfl, fun _ _ => rfl, room100 hr, hr, takes_of rfl rfl rfl rfl⟩
  obtain ⟨t, p, g⟩ := hb _ ⟨E⟩ C ⟨passes_of rfl⟩ rfl rfl rfl rfl rfl
  refine ⟨t, p, g _ F0 H F0 H _ _ (start_ok sb sv (by omega)) (R.post_mono (R.post_bind q) (fun o _ q => ?_) fun n e => e)⟩
  cases o with
  | nx Γ => exact fun σ F' H' I => q .non F' H' I.all .non
  | bk Γ => exact q.elim
  | ct Γ => exact q.elim
  | rt o => exact q
theorem law_Tm {φ : List Sl → R O} {H : Hp} {a : Addr} {ns : List Int} (hP : ∀ p ∈ T, H p.1 = some (.tbl #[])) (hS : SqL K H a (ns.map V.int)) (hl : ns.length ≤ 63) (h : φ [.val (.scr ns)] = .ok (.v (.bl true))) : spT K T 1 φ [.ref a] H (fun v _ => v = .bl true) fun _ _ _ => False := by
  have hT : LamX.Tabs T H := fun p hp => LamX.TabS.nil (hP p hp)
  refine ⟨rfl, fun mg => ⟨⟨hidT H⟩, [.val (.scr ns)], hid_sub hT, .cons (.scr (hid_seq hS) (Nat.le_trans hl (by rw [line_eq]; decide))) .nil, ?_⟩⟩
  rw [h]
  intro v F' H' g r
  cases (show Rep K F' v (.bl true) from r)
  rfl
theorem lawC_at {l : PySem.W.OpenLaw} {h : Heap} {f : Addr} {fd : FuncData} {p : Str} {φ : List Sl → R O} (cs : List (Addr × Addr)) (T : List (Addr × Str)) (tabs : ∀ p ∈ cs, h.get? p.2 = some { cls := .none, data := .fields #[] } ∧ K.lookup p.2 = none ∧ PySem.W.CodeHd h p.1 p.2)
    (hT : ∀ p ∈ T, p.1 ∈ cs.map (·.2)) (hb : ∀ (s : Shared) (u : Value), BindsTo s fd ⟨[u], []⟩ [(p, u)]) (good : ∀ ns : List Int, ns.length ≤ 63 → φ [.val (.scr ns)] = .ok (.v (.bl true)))
    (F : ∀ base : Heap, K.In base → base.Ns mainGlobals mg → (∀ p ∈ cs, LamX.TabB base mg p.1 p.2) → RunC l.prog w K mg base (L2.CX l.prog w) f fd [p] (spT K T 1 φ)) : LawC l w K (L2.CX l.prog w) 63 p mg f h :=
  ⟨fd, cs, spT K T 1 φ, tabs, hb, fun H a ns hl hH hS => law_Tm (fun p hp => by
    obtain ⟨q, hq, e⟩ := List.mem_map.mp (hT p hp)
    rw [← e]
    exact hH q hq) hS hl (good ns hl), F⟩
end
end Pd

set_option Elab.async false
set_option linter.all false
set_option maxRecDepth 100000
set_option maxHeartbeats 2000000
namespace Pd
open PySem PySem.Spec L2

def sgOk (l : List Nat) : Prop := ∀ c ∈ l, c < 1114112
theorem strOk_iff {x : Str} : PyData.strOk x = true ↔ sgOk x.cps.toList := by
  unfold PyData.strOk sgOk
  rw [← Array.all_toList, List.all_eq_true]
  simp
theorem char_lt (c : Char) : c.toNat < 1114112 := by
  have h : c.val.toNat < 55296 ∨ (57343 < c.val.toNat ∧ c.val.toNat < 1114112) := c.valid
  show c.val.toNat < 1114112
  omega
theorem sg_chars (l : List Char) : sgOk (l.map Char.toNat) := fun c h => by
  obtain ⟨d, _, rfl⟩ := List.mem_map.mp h
  exact char_lt d
theorem sg_app {a b : List Nat} (ha : sgOk a) (hb : sgOk b) : sgOk (a ++ b) := fun c h => (List.mem_append.mp h).elim (ha c) (hb c)
theorem ok_ofString (s : String) : PyData.strOk (Str.ofString s) = true := by
  rw [strOk_iff, Str.ofString_eq_toList]
  exact sg_chars _
theorem ok_app {a b : Str} (ha : PyData.strOk a = true) (hb : PyData.strOk b = true) : PyData.strOk (a ++ b) = true := by
  rw [strOk_iff] at ha hb ⊢
  show sgOk (a.cps ++ b.cps).toList
  rw [Array.toList_append]
  exact sg_app ha hb
theorem ok_join {sep : Str} (hs : PyData.strOk sep = true) : ∀ {l : List Str}, (∀ x ∈ l, PyData.strOk x = true) → PyData.strOk (Str.join sep l) = true
  | [], _ => by rw [Str.join]; decide +kernel
  | [x], h => by rw [Str.join]; exact h x (List.mem_cons_self ..)
  | x :: y :: r, h => by
    rw [Str.join]
    · exact ok_app (ok_app (h x (List.mem_cons_self ..)) hs) (ok_join hs fun z hz => h z (List.mem_cons_of_mem _ hz))
    · simp
theorem sg_rep (n : Nat) : sgOk (List.replicate n 48) := fun c h => by
  rw [List.eq_of_mem_replicate h]
  omega
theorem sg_one {a : Nat} (h : a < 1114112) : sgOk [a] := fun c hc => by
  rw [List.mem_singleton.mp hc]
  exact h
theorem sg_two {a b : Nat} (h : a < 1114112) (h2 : b < 1114112) : sgOk [a, b] := fun c hc => by
  simp only [List.mem_cons, List.not_mem_nil, or_false] at hc
  rcases hc with rfl | rfl <;> assumption
theorem sg_reprChar (q : Nat) {c : Nat} (h : c < 1114112) : sgOk (Builtin.Str.reprChar q c) := by
  unfold Builtin.Str.reprChar
  dsimp only
  have hx : ∀ w, sgOk (List.replicate (w - ((Nat.toDigits 16 c).map Char.toNat).length) 48 ++ (Nat.toDigits 16 c).map Char.toNat) := fun w => sg_app (sg_rep _) (sg_chars _)
  split
  · exact sg_two (by omega) h
  split
  · exact sg_two (by omega) (by omega)
  split
  · exact sg_two (by omega) (by omega)
  split
  · exact sg_two (by omega) (by omega)
  split
  · exact sg_one h
  split
  · exact sg_app (sg_two (by omega) (by omega)) (hx 2)
  split
  · exact sg_app (sg_two (by omega) (by omega)) (hx 4)
  · exact sg_app (sg_two (by omega) (by omega)) (hx 8)
theorem sg_fold (q : Nat) : ∀ (l : List Nat) (acc : Array Nat), sgOk acc.toList → sgOk l → sgOk (l.foldl (fun out c => out ++ (Builtin.Str.reprChar q c).toArray) acc).toList
  | [], _, h, _ => h
  | c :: r, acc, h, hl => by
    rw [List.foldl_cons]
    refine sg_fold q r _ ?_ fun d hd => hl d (List.mem_cons_of_mem _ hd)
    rw [Array.toList_append]
    exact sg_app h (sg_reprChar q (hl c (List.mem_cons_self ..)))
theorem ok_reprText {x : Str} (h : PyData.strOk x = true) : PyData.strOk (reprText x) = true := by
  rw [strOk_iff] at h ⊢
  have hq : reprQuote x < 1114112 := by
    unfold reprQuote
    split <;> omega
  unfold reprText
  show sgOk (Array.push _ _).toList
  rw [Array.toList_push, ← Array.foldl_toList]
  exact sg_app (sg_fold _ _ _ (sg_one hq) h) (sg_one hq)
theorem ok_from : ∀ (l : List Str) (k : Nat) (acc : Str), PyData.strOk acc = true → (∀ x ∈ l, PyData.strOk x = true) → PyData.strOk (textFrom k acc l) = true
  | [], _, _, h, _ => h
  | t :: r, k, acc, h, hl => by
    rw [textFrom]
    exact ok_from r _ _ (ok_app (ok_app h (ok_ofString _)) (hl t (List.mem_cons_self ..))) fun x hx => hl x (List.mem_cons_of_mem _ hx)
mutual
/-- data whose text is told: whole numbers that are not too great, texts of signs -/
def shwD : D → Bool
  | .non => true
  | .bl _ => true
  | .int i => decide (i.natAbs.log2 < 1920)
  | .str x => PyData.strOk x
  | .tup ds => shwDs ds
  | .lst ds => shwDs ds
  | _ => false
def shwDs : List D → Bool
  | [] => true
  | d :: ds => shwD d && shwDs ds
end
mutual
theorem shw_lay : ∀ d : D, shwD d = true → layD d = true
  | .non, _ => by rw [layD]
  | .bl _, _ => by rw [layD]
  | .int _, _ => by rw [layD]
  | .str x, h => by rw [shwD] at h; rw [layD]; exact h
  | .tup ds, h => by rw [shwD] at h; rw [layD]; exact shw_lays ds h
  | .lst ds, h => by rw [shwD] at h; rw [layD]; exact shw_lays ds h
theorem shw_lays : ∀ ds : List D, shwDs ds = true → layDs ds = true
  | [], _ => by rw [layDs]
  | d :: ds, h => by
    rw [shwDs, Bool.and_eq_true] at h
    rw [layDs, shw_lay d h.1, shw_lays ds h.2]
    rfl
end
mutual
theorem shw_ok : ∀ d : D, shwD d = true → (pyD d).showable = true
  | .non, _ => by rw [pyD, PyData.showable]
  | .bl _, _ => by rw [pyD, PyData.showable]
  | .int _, h => by rw [shwD] at h; rw [pyD, PyData.showable]; exact h
  | .str x, h => by rw [pyD, PyData.showable]
  | .tup ds, h => by rw [shwD] at h; rw [pyD, PyData.showable]; exact shw_oks ds h
  | .lst ds, h => by rw [shwD] at h; rw [pyD, PyData.showable]; exact shw_oks ds h
theorem shw_oks : ∀ ds : List D, shwDs ds = true → PyData.showableAll (pyDs ds) = true
  | [], _ => by rw [pyDs, PyData.showableAll]
  | d :: ds, h => by
    rw [shwDs, Bool.and_eq_true] at h
    rw [pyDs, PyData.showableAll, shw_ok d h.1, shw_oks ds h.2]
    rfl
end
mutual
theorem shown_ok : ∀ d : D, shwD d = true → PyData.strOk (pyD d).shown = true
  | .non, _ => by rw [pyD, PyData.shown]; exact ok_ofString _
  | .bl b, _ => by rw [pyD, PyData.shown]; cases b <;> exact ok_ofString _
  | .int _, _ => by rw [pyD, PyData.shown]; exact ok_ofString _
  | .str x, h => by rw [shwD] at h; rw [pyD, PyData.shown]; exact ok_reprText h
  | .tup ds, h => by
    rw [shwD] at h
    rw [pyD, PyData.shown]
    unfold tupleText
    exact ok_app (ok_app (ok_ofString _) (ok_join (ok_ofString _) (shown_oks ds h))) (ok_ofString _)
  | .lst ds, h => by
    rw [shwD] at h
    rw [pyD, PyData.shown]
    unfold listText
    exact ok_app (ok_from _ _ _ (ok_ofString _) (shown_oks ds h)) (ok_ofString _)
theorem shown_oks : ∀ ds : List D, shwDs ds = true → ∀ x ∈ PyData.shownAll (pyDs ds), PyData.strOk x = true
  | [], _ => fun x hx => by rw [pyDs, PyData.shownAll] at hx; cases hx
  | d :: ds, h => fun x hx => by
    rw [shwDs, Bool.and_eq_true] at h
    rw [pyDs, PyData.shownAll] at hx
    rcases List.mem_cons.mp hx with rfl | hx
    · exact shown_ok d h.1
    · exact shown_oks ds h.2 x hx
end
mutual
def lenD : D → Nat
  | .non => 4
  | .bl _ => 5
  | .int _ => 1921
  | .str x => 10 * x.length + 2
  | .tup ds => lenDs ds + 3
  | .lst ds => lenDs ds + 3
  | _ => 0
def lenDs : List D → Nat
  | [] => 0
  | d :: ds => lenD d + 2 + lenDs ds
end
theorem sl_app (a b : Str) : (a ++ b).length = a.length + b.length := by
  show (a.cps ++ b.cps).size = a.cps.size + b.cps.size
  rw [Array.size_append]
theorem sl_join : ∀ l : List Str, (Str.join ", " l).length ≤ (l.map fun x => x.length + 2).sum
  | [] => by rw [Str.join]; exact Nat.zero_le _
  | [x] => by rw [Str.join]; simp
  | x :: y :: r => by
    rw [Str.join]
    · have ih := sl_join (y :: r)
      have e : ((", " : String) : Str).length = 2 := by decide +kernel
      rw [sl_app, sl_app, e, List.map_cons, List.sum_cons]
      omega
    · simp
theorem sl_from : ∀ (l : List Str) (k : Nat) (acc : Str), (textFrom k acc l).length ≤ acc.length + (l.map fun x => x.length + 2).sum
  | [], _, acc => by rw [textFrom]; exact Nat.le_add_right _ _
  | t :: r, k, acc => by
    rw [textFrom]
    have ih := sl_from r (k + 1) (acc ++ ((if k > 0 then ", " else "" : String) : Str) ++ t)
    have e : (((if k > 0 then ", " else "" : String)) : Str).length ≤ 2 := by
      split
      · decide +kernel
      · decide +kernel
    rw [sl_app, sl_app] at ih
    rw [List.map_cons, List.sum_cons]
    omega
mutual
theorem shown_len : ∀ d : D, shwD d = true → (pyD d).shown.length ≤ lenD d
  | .non, _ => by rw [pyD, PyData.shown, lenD]; decide +kernel
  | .bl b, _ => by rw [pyD, PyData.shown, lenD]; cases b <;> decide +kernel
  | .int i, h => by
    rw [shwD, decide_eq_true_eq] at h
    rw [pyD, PyData.shown, lenD]
    exact PyProof.Rows.int_text_len_1921 h
  | .str x, h => by
    rw [shwD, strOk_iff] at h
    rw [pyD, PyData.shown, lenD]
    exact StrLaws.reprText_len x fun c hc => Nat.lt_of_lt_of_le (h c hc) (by decide)
  | .tup ds, h => by
    rw [shwD] at h
    rw [pyD, PyData.shown, lenD]
    unfold tupleText
    have e1 := shown_lens ds h
    have e2 := sl_join (PyData.shownAll (pyDs ds))
    have e3 : (("(" : String) : Str).length = 1 := by decide +kernel
    have e4 : ∀ b : Bool, (((if b = true then ",)" else ")" : String)) : Str).length ≤ 2 := by
      intro b
      cases b <;> decide +kernel
    rw [sl_app, sl_app, e3]
    have e5 := e4 ((PyData.shownAll (pyDs ds)).length == 1)
    omega
  | .lst ds, h => by
    rw [shwD] at h
    rw [pyD, PyData.shown, lenD]
    unfold listText
    have e1 := shown_lens ds h
    have e2 := sl_from (PyData.shownAll (pyDs ds)) 0 "["
    have e3 : (("[" : String) : Str).length = 1 := by decide +kernel
    have e4 : (("]" : String) : Str).length = 1 := by decide +kernel
    rw [sl_app, e4]
    omega
theorem shown_lens : ∀ ds : List D, shwDs ds = true → ((PyData.shownAll (pyDs ds)).map fun x => x.length + 2).sum ≤ lenDs ds
  | [], _ => by rw [pyDs, PyData.shownAll, lenDs]; exact Nat.le_refl _
  | d :: ds, h => by
    rw [shwDs, Bool.and_eq_true] at h
    rw [pyDs, PyData.shownAll, lenDs, List.map_cons, List.sum_cons]
    have e1 := shown_len d h.1
    have e2 := shown_lens ds h.2
    omega
end
def rReprD (K : PySem.W.Frag) : List V → Hp → VK → Prop := fun xs H Q => ∃ x d, xs = [x] ∧ Dp K H x d ∧ d.showable = true ∧ d.canLay0 = true ∧ d.depth ≤ 64 ∧ d.shown.length ≤ sizeLine ∧ Q (.str d.shown) H
theorem call_reprD {X : Cx} (hg : X.A.guards = some []) (hu : X.A.units + 100 < cLine) : CallR X (.builtin "repr") (rReprD X.K) := by
  intro pins s σ H xs us Q I r h
  obtain ⟨x, d, rfl, hd, hs, hc, hdep, hz, q⟩ := h
  obtain ⟨u, rfl, ru⟩ := vals1 r
  obtain ⟨as, rd⟩ := Dp.reads I d x u hd ru
  have hn := PyData.noDict_hsm (as := as) (PyData.hasDict_of_canLay d hc)
  cases rd with
  | none => exact PySem.P.repr_of_none ⟨.str _, H, I.tok _, ⟨_, rfl⟩, q⟩
  | bool b => exact PySem.P.repr_of_bool ⟨.str _, H, I.tok _, ⟨_, rfl⟩, q⟩
  | int i t => exact PySem.P.repr_of_int (of_decide_eq_true hs) ⟨.str _, H, I.tok _, ⟨_, rfl⟩, q⟩
  | str x t => exact PySem.P.repr_of_str ⟨.str _, H, I.tok _, ⟨_, rfl⟩, q⟩ hz
  | list h1 h2 h3 h4 =>
    exact PySem.repr_of_reads' (.list h1 h2 h3 h4) hs hn hg (by omega) (fun _ _ e => e) (fun h' u tk keep => ⟨.str _, H, I.kept keep, ⟨_, rfl⟩, q⟩) hz
  | tuple h1 h2 h3 h4 =>
    exact PySem.repr_of_reads' (.tuple h1 h2 h3 h4) hs hn hg (by omega) (fun _ _ e => e) (fun h' u tk keep => ⟨.str _, H, I.kept keep, ⟨_, rfl⟩, q⟩) hz
  | dict h1 h2 h3 h4 h5 => cases hd
def rRepr0 : List V → Hp → VK → Prop := fun xs H Q => ∃ p, xs = [.ref p] ∧ (Rd H p (.dK []) ∨ Rd H p (.dT [])) ∧ Q (.str "{}") H
theorem call_repr0 {X : Cx} (hg : X.A.guards = some []) (hu : X.A.units + 100 < cLine) : CallR X (.builtin "repr") rRepr0 := by
  intro pins s σ H xs us Q I r h
  obtain ⟨p, rfl, hd, q⟩ := h
  rw [Vals.ref1 r]
  have key : (p == sysModules) = false ∧ ∃ o n, s.heap.get? p = some o ∧ o.ExactDict ∧ o.data = .dict #[] n := by
    rcases hd with hd | hd
    · obtain ⟨_, hp, vs, rel, o, es, ep, e1, e2, e3, e4⟩ := dk_rd I.hok hd
      cases vs with
      | cons a b => cases rel
      | nil =>
        have : es = #[] := by
          rw [← Array.toList_eq_nil_iff]
          have h5 := e4.2.1
          generalize es.toList = l at h5 ⊢
          cases h5
          rfl
        exact ⟨hp, o, ep, e1, e2, by rw [e3, this]⟩
    · obtain ⟨_, hp, vs, rel, o, es, ep, e1, e2, e3, e4, _⟩ := dt_rd I.hok hd
      cases vs with
      | cons a b => cases rel
      | nil =>
        have : es = #[] := by
          rw [← Array.toList_eq_nil_iff]
          simpa using e4
        exact ⟨hp, o, ep, e1, e2, by rw [e3, this]⟩
  obtain ⟨hp, o, n, e1, e2, e3⟩ := key
  have rd : Reads s.heap (.ref p) (.dict []) (p :: [] ++ []) := .dict e1 e2.1 e3 .nil .nil
  exact PySem.repr_of_reads' rd (by decide +kernel) (fun _ hm => by
    rw [List.append_nil, List.mem_singleton] at hm
    rw [hm, beq_self_eq_true] at hp
    cases hp) hg (by show X.A.units + (1 + 1) < cLine; omega) (fun _ _ e => e) (fun h' u tk keep => ⟨.str _, H, I.kept keep, ⟨_, rfl⟩, q⟩) (by decide +kernel)
def fRepr : List D → Option O
  | [.dct []] => some (.v (.str "{}"))
  | [d] => if shwD d = true ∧ depD d ≤ 60 ∧ lenD d ≤ 10000000 then some (.v (.str (pyD d).shown)) else none
  | _ => none
section
variable {X : Cx} {E : Ex T} {G : Gl5} {k : Nat} {N : List Str} {sc : Scope} {fnb : Str → Bool} {e : PySem.Expr} {es : List PySem.Expr} {p pos : Pos}
theorem cd_repr {K : PySem.W.Frag} : CallD K (fun xs H Q => rReprD K xs H Q ∨ rRepr0 xs H Q) fRepr := fun xs ds o F H Q s cs eo q => by
  unfold fRepr at eo
  split at eo
  · cases eo
    obtain ⟨x, rfl, c⟩ := cs.one
    obtain ⟨l, a, rfl, hd⟩ := c.dct s
    refine .inr ⟨a, rfl, ?_, q _ F H (.refl s) (.str _)⟩
    rcases hd with ⟨w, hw, r⟩ | ⟨w, hw, r⟩
    · cases w with
      | nil => exact .inl hw
      | cons a b => cases r
    · cases w with
      | nil => exact .inr hw
      | cons a b => cases r
  · split at eo
    · rename_i d _ h
      cases eo
      obtain ⟨x, rfl, c⟩ := cs.one
      have hs : shp d = true := shp_of (shw_lay d h.1) (by omega)
      have hl := shown_len d h.1
      refine .inl ⟨x, pyD d, rfl, c.dp s hs, shw_ok d h.1, lay_can d (shw_lay d h.1), ?_, ?_, q _ F H (.refl s) (.str _)⟩
      · rw [dep_py d (shw_lay d h.1)]
        omega
      · rw [line_eq]
        unfold line
        omega
    · cases eo
  · cases eo
theorem c_repr (C : Cok X E G k N sc fnb) (hg : X.A.guards = some []) (h : gloB sc "repr" = true) (hb : BltG G "repr") {fs : List (Gm → R D)} (ha : SRs X E (e :: es) fs) : SE X E (.Call (.Name "repr" p) (e :: es) [] pos) (eCall fRepr (seqR fs)) :=
  se_call (.inl ⟨"repr", _, by decide +kernel, (call_reprD hg C.hu).or (call_repr0 hg C.hu), cd_repr⟩) (by decide) (C.glo h).2 (C.glo h).1 (C.no hb) ha
end
theorem repr_v {d : D} (h : shwD d = true) (h2 : depD d ≤ 60) (h3 : lenD d ≤ 10000000) : ∃ s, fRepr [d] = some (.v (.str s)) ∧ PyData.strOk s = true := by
  refine ⟨(pyD d).shown, ?_, shown_ok d h⟩
  cases d with
  | dct kvs => simp [shwD] at h
  | _ =>
    unfold fRepr
    exact if_pos ⟨h, h2, h3⟩
end Pd

set_option Elab.async false
set_option linter.all false
set_option maxRecDepth 100000
set_option maxHeartbeats 1000000
set_option exponentiation.threshold 4000
namespace Pd
open PySem PySem.Spec L2 Pr
theorem shwDs_all : ∀ {ds : List D}, (∀ d ∈ ds, shwD d = true) → shwDs ds = true
  | [], _ => by rw [shwDs]
  | d :: ds, h => by
    rw [shwDs, h d (List.mem_cons_self ..), shwDs_all fun e he => h e (List.mem_cons_of_mem _ he)]
    rfl
theorem lenDs_le {k : Nat} : ∀ {ds : List D}, (∀ d ∈ ds, lenD d ≤ k) → lenDs ds ≤ ds.length * (k + 2)
  | [], _ => by rw [lenDs]; exact Nat.zero_le _
  | d :: ds, h => by
    have h1 := h d (List.mem_cons_self ..)
    have h2 := lenDs_le fun e he => h e (List.mem_cons_of_mem _ he)
    rw [lenDs, List.length_cons, Nat.add_mul]
    omega
def rpD (d : D) : Prop := ∃ s, fRepr [d] = some (.v (.str s)) ∧ PyData.strOk s = true
def flR (d : D) : Prop := shwD d = true ∧ depD d ≤ 1 ∧ lenD d ≤ 2000
def midR (d : D) : Prop := shwD d = true ∧ depD d ≤ 2 ∧ lenD d ≤ 900000
theorem log_lt {i : Int} (h : i.natAbs < 2 ^ 200) : i.natAbs.log2 < 1920 := by
  by_cases h0 : i.natAbs = 0
  · rw [h0]
    decide
  · exact (Nat.log2_lt h0).mpr (Nat.lt_of_lt_of_le h (Nat.pow_le_pow_right (by omega) (by omega)))
theorem fl_int {i : Int} (h : i.natAbs < 2 ^ 200) : flR (.int i) := ⟨by rw [shwD, decide_eq_true_eq]; exact log_lt h, Nat.zero_le _, by rw [lenD]; omega⟩
theorem fl_small {i : Int} (h1 : -1000000 ≤ i) (h2 : i ≤ 1000000) : flR (.int i) := fl_int (Nat.lt_of_lt_of_le (show i.natAbs < 2 ^ 20 by omega) (Nat.pow_le_pow_right (by omega) (by omega)))
theorem mid_tup {ds : List D} (h : ∀ d ∈ ds, flR d) (hl : ds.length ≤ 400) : midR (.tup ds) := by
  have h1 := depDs_all fun d hd => (h d hd).2.1
  have h2 := lenDs_le fun d hd => (h d hd).2.2
  have h3 : ds.length * 2002 ≤ 400 * 2002 := Nat.mul_le_mul_right _ hl
  exact ⟨by rw [shwD]; exact shwDs_all fun d hd => (h d hd).1, by rw [depD]; omega, by rw [lenD]; omega⟩
theorem rp_tup {ds : List D} (h : ∀ d ∈ ds, midR d) (hl : ds.length ≤ 8) : rpD (.tup ds) := by
  have h1 := depDs_all fun d hd => (h d hd).2.1
  have h2 := lenDs_le fun d hd => (h d hd).2.2
  have h3 : ds.length * 900002 ≤ 8 * 900002 := Nat.mul_le_mul_right _ hl
  exact repr_v (by rw [shwD]; exact shwDs_all fun d hd => (h d hd).1) (by rw [depD]; omega) (by rw [lenD]; omega)
section
variable {m : Nat} {ls : List Nat}
def rgD (d : D) : Prop := rpD d ∧ ∀ a xs, d = .tup [a, .tup xs] → xs.length ≤ 1000
end
theorem repr_ne {s : Str} (h : PyData.strOk s = true) : dNe (.str s) (.str s) = some (.v (.bl false)) := ne_same (by rw [purD]; exact h) (Nat.zero_le _)
end Pd

set_option Elab.async false
set_option linter.all false
set_option maxRecDepth 100000
set_option maxHeartbeats 1000000
namespace Pd
open PySem PySem.Spec L2
section
variable {X : Cx} {E : Ex T} {G : Gl5} {k : Nat} {N : List Str} {sc : Scope} {fnb : Str → Bool} {x y : Str} {a b : PySem.Expr} {px py pt pt2 pos : Pos} {kt k2 : Nat}
def celB (sc : Scope) (x y : Str) : Bool := !(sc.names.lookup x == some .local && sc.names.lookup y == some .local)
end
end Pd

set_option Elab.async false
set_option linter.all false
set_option maxRecDepth 100000
set_option maxHeartbeats 1000000
namespace Pr
open PySem PySem.Spec L2 Pd
def f_good_heights : Gm → R Out := sSeq (sIf (tOrF [tNotF (tTru (rd (eCall fIsi (seqR [rVar 1, rd (eC (.ty "tuple"))])))), isB (e2 (dCmp .NotEq) (rd (eCall fLen (seqR [rVar 1]))) (rd (e2 dIx (rVar 0) (rd (eC (.int 0))))))]) (sSeq (sRet (eC (.bl false)))
  (sNext)) (sNext))
  (sSeq (sIf (tOrF [tNotF (tTru (rd (eCall fAll (seqR [rd (eLc (iF (rVar 1)) (.nm 4) ((fun _ => .ok true)) (vl (eUser d_is_number (seqR [uVar 4, uVal (vl (eC (.int 0))), uVal (vl (eC (.int 10000000000000000000000000000000000000000)))]))) ([4]))])))), isB (e2 (dCmp .NotEq) (rd (e2 dIx (rVar 1) (rd (eC (.int 0))))) (rd (eC (.int 0))))]) (sSeq (sRet (eC (.bl false)))
  (sNext)) (sNext))
  (sSeq (sFor (iOf enumF (seqR [vl (eVar 1)])) (.tp [.nm 2, .nm 3]) (sSeq (sIf (tNotF (tTru (rd (eCall fAll (seqR [rd (eLc (iF (rd (eUser d_beside (seqR [uVar 0, uVar 2])))) (.nm 5) ((fun _ => .ok true)) (vl (e2 (dCmp .Lt) (rd (eCall fAbs (seqR [rd (e2 (dBin .Sub) (rVar 3) (rd (e2 dIx (rVar 1) (rVar 5))))]))) (rd (eC (.int 2))))) ([5]))]))))) (sSeq (sRet (eC (.bl false)))
  (sNext)) (sNext))
  (sNext)))
  (sSeq (sRet (eC (.bl true)))
  (sNext))))
def d_good_heights : List Sl → R O := defF 4 f_good_heights
def f_is_height_paper : Gm → R Out := sSeq (sExpr (rd (eUser d_need_ring (seqR [uVar 0]))))
  (sSeq (sRet (eUser d_good_heights (seqR [uVar 0, uVar 1])))
  (sNext))
def d_is_height_paper : List Sl → R O := defF 0 f_is_height_paper
def f_bound_by : Gm → R Out := sSeq (sExpr (rd (eUser d_need_two (seqR [uVar 0, uVar 1, uVar 2]))))
  (sSeq (sIf (tNotF (tTru (rd (eUser d_good_heights (seqR [uVar 0, uVar 3]))))) (sSeq ((fun _ => .err "NoPaper"))
  (sNext)) (sNext))
  (sSeq (sRet (e2 dIx (rVar 3) (rd (e2 (dBin .Mod) (rd (e2 (dBin .Sub) (rVar 2) (rVar 1))) (rd (e2 dIx (rVar 0) (rd (eC (.int 0)))))))))
  (sNext)))
def d_bound_by : List Sl → R O := defF 0 f_bound_by
end Pr
namespace Pd
open PySem PySem.Spec L2 Pr
def intV : D → Int
  | .int i => i
  | _ => 0
theorem abs_i (z : Int) : fAbs [.int z] = some (.v (.int (z.natAbs : Nat))) := by
  unfold fAbs
  dsimp only
  refine congrArg (fun i : Int => some (O.v (.int i))) ?_
  split <;> omega
def tieB (m : Nat) (ls : List Nat) (l : List Int) (p : Nat) : Bool := (nearN m ls p).all fun q => decide ((l.getD p 0 - l.getD q 0).natAbs < 2)
def paperB (m : Nat) (ls : List Nat) (l : List Int) : Bool := decide (l.getD 0 0 = 0) && (List.range m).all (tieB m ls l)
def isPaper (m : Nat) (ls : List Nat) : D → Bool
  | .tup ds => decide (ds.length = m) && (ds.all (fun d => isNum d 0 10000000000000000000000000000000000000000) && paperB m ls (ds.map intV))
  | _ => false
section
variable {m : Nat} {ls : List Nat}
end
end Pd

set_option Elab.async false
set_option linter.all false
set_option maxRecDepth 100000
set_option maxHeartbeats 1000000
namespace Pr
open PySem PySem.Spec L2 Pd
def f_need_two_leaps : Gm → R Out := sSeq (sExpr (rd (eUser d_need_ring (seqR [uVar 0]))))
  (sSeq (sIf (isB (e2 (dCmp .NotEq) (rd (eCall fLen (seqR [rd (e2 dIx (rVar 0) (rd (eC (.int 1))))]))) (rd (eC (.int 2))))) (sSeq ((fun _ => .err "NotTwo"))
  (sNext)) (sNext))
  (sNext))
def d_need_two_leaps : List Sl → R O := defF 0 f_need_two_leaps
def f_is_cell : Gm → R Out := sSeq (sIf (tOrF [tNotF (tTru (rd (eCall fIsi (seqR [rVar 0, rd (eC (.ty "tuple"))])))), isB (e2 (dCmp .NotEq) (rd (eCall fLen (seqR [rVar 0]))) (rd (eC (.int 2))))]) (sSeq (sRet (eC (.bl false)))
  (sNext)) (sNext))
  (sSeq (sRet (eCall fAll (seqR [rd (eLc (iF (rVar 0)) (.nm 2) ((fun _ => .ok true)) (vl (eUser d_is_number (seqR [uVar 2, uVal (vl (e2 (dBin .Sub) (rd (eC (.int 0))) (rVar 1))), uVar 1]))) ([2]))])))
  (sNext))
def d_is_cell : List Sl → R O := defF 1 f_is_cell
def f_need_cell : Gm → R Out := sSeq (sIf (tNotF (tTru (rd (eUser d_is_cell (seqR [uVar 0, uVal (vl (eC (.int 999999999999)))]))))) (sSeq ((fun _ => .err "NoCell"))
  (sNext)) (sNext))
  (sNext)
def d_need_cell : List Sl → R O := defF 0 f_need_cell
def f_place_of : Gm → R Out := sSeq (sRet (e2 (dBin .Mod) (rd (e2 (dBin .Add) (rd (e2 (dBin .Mult) (rd (e2 dIx (rVar 1) (rd (eC (.int 0))))) (rd (e2 dIx (rd (e2 dIx (rVar 0) (rd (eC (.int 1))))) (rd (eC (.int 0))))))) (rd (e2 (dBin .Mult) (rd (e2 dIx (rVar 1) (rd (eC (.int 1))))) (rd (e2 dIx (rd (e2 dIx (rVar 0) (rd (eC (.int 1))))) (rd (eC (.int 1))))))))) (rd (e2 dIx (rVar 0) (rd (eC (.int 0)))))))
  (sNext)
def d_place_of : List Sl → R O := defF 0 f_place_of
def f_lies_on : Gm → R Out := sSeq (sExpr (rd (eUser d_need_two_leaps (seqR [uVar 0]))))
  (sSeq (sExpr (rd (eUser d_need_cell (seqR [uVar 1]))))
  (sSeq (sRet (eUser d_place_of (seqR [uVar 0, uVar 1])))
  (sNext)))
def d_lies_on : List Sl → R O := defF 0 f_lies_on
def f_net_of : Gm → R Out := sSeq (sSet false 1 (e2 dIx (rVar 0) (rd (eC (.int 0)))))
  (sSeq (sSet false 2 (e2 dIx (rd (eLc (iOf rngF2 (seqR [rd (eC (.int 1)), rd (e2 (dBin .Add) (rVar 1) (rd (eC (.int 1))))])) (.nm 5) (isB (e2 (dCmp .Eq) (rd (eUser d_place_of (seqR [uVar 0, uVal (vl (eTup (seqR [vl (eVar 5), vl (eC (.int 0))])))]))) (rd (eC (.int 0))))) (vl (eVar 5)) ([5]))) (rd (eC (.int 0)))))
  (sSeq (sSet false 3 (eC (.int 1)))
  (sSeq (whR (tTru (rd (eCall fAll (seqR [rd (eLc (iOf rngF1 (seqR [rVar 2])) (.nm 5) ((fun _ => .ok true)) (vl (e2 (dCmp .NotEq) (rd (eUser d_place_of (seqR [uVar 0, uVal (vl (eTup (seqR [vl (eVar 5), vl (eVar 3)])))]))) (rd (eC (.int 0))))) ([5]))])))) (sSeq (sSet false 3 (e2 (dBin .Add) (rVar 3) (rd (eC (.int 1)))))
  (sNext)) whN)
  (sSeq (sSet false 4 (e2 dIx (rd (eLc (iOf rngF1 (seqR [rVar 2])) (.nm 5) (isB (e2 (dCmp .Eq) (rd (eUser d_place_of (seqR [uVar 0, uVal (vl (eTup (seqR [vl (eVar 5), vl (eVar 3)])))]))) (rd (eC (.int 0))))) (vl (eVar 5)) ([5]))) (rd (eC (.int 0)))))
  (sSeq (sRet (eTup (seqR [vl (eTup (seqR [vl (eVar 2), vl (eC (.int 0))])), vl (eTup (seqR [vl (eVar 4), vl (eVar 3)]))])))
  (sNext))))))
def d_net_of : List Sl → R O := defF 5 f_net_of
def f_net : Gm → R Out := sSeq (sExpr (rd (eUser d_need_two_leaps (seqR [uVar 0]))))
  (sSeq (sRet (eUser d_net_of (seqR [uVar 0])))
  (sNext))
def d_net : List Sl → R O := defF 0 f_net
def f_cells_of : Gm → R Out := sSeq (sSet true 1 (eLst (seqR [])))
  (sSeq (sFor (iOf rngF2 (seqR [rd (e2 (dBin .Sub) (rd (eC (.int 0))) (rVar 0)), rd (e2 (dBin .Add) (rVar 0) (rd (eC (.int 1))))])) (.nm 2) (sSeq (sSet false 3 (e2 (dBin .Sub) (rVar 0) (rd (eCall fAbs (seqR [rVar 2])))))
  (sSeq (sExt 1 (rd (eIf (isB (e2 (dCmp .Gt) (rVar 3) (rd (eC (.int 0))))) (eLst (seqR [vl (eTup (seqR [vl (eVar 2), vl (e2 (dBin .Sub) (rd (eC (.int 0))) (rVar 3))])), vl (eTup (seqR [vl (eVar 2), vl (eVar 3)]))])) (eLst (seqR [vl (eTup (seqR [vl (eVar 2), vl (eC (.int 0))]))])))))
  (sNext))))
  (sSeq (sRetV 1)
  (sNext)))
def d_cells_of : List Sl → R O := defF 3 f_cells_of
def f_least_steps : Gm → R Out := sSeq (sExpr (rd (eUser d_need_two_leaps (seqR [uVar 0]))))
  (sSeq (sSet false 1 (eC (.int 1)))
  (sSeq (sSet true 2 (eLst (seqR [])))
  (sSeq (whR (isB (e2 (dCmp .Eq) (rVar 2) (rd (eLst (seqR []))))) (sSeq (sSet true 2 (eLc (iF (rd (eUser d_cells_of (seqR [uVar 1])))) (.nm 3) (isB (e2 (dCmp .Eq) (rd (eUser d_place_of (seqR [uVar 0, uVar 3]))) (rd (eC (.int 0))))) (vl (eVar 3)) ([3])))
  (sSeq (sSet false 1 (e2 (dBin .Add) (rVar 1) (rd (eC (.int 1)))))
  (sNext))) whN)
  (sSeq (sRetV 2)
  (sNext)))))
def d_least_steps : List Sl → R O := defF 3 f_least_steps
def f__law_two_leaps : Gm → R Out := sSeq (sSet false 2 (e2 (dBin .Add) (rd (eC (.int 4))) (rd (eUser d__law_draw (seqR [uVar 0, uVal (vl (eC (.int 0))), uVal (vl (e2 (dBin .Sub) (rVar 1) (rd (eC (.int 3)))))])))))
  (sSeq (sSet false 3 (e2 (dBin .Add) (rd (eC (.int 1))) (rd (eUser d__law_draw (seqR [uVar 0, uVal (vl (eC (.int 1))), uVal (vl (e2 (dBin .FloorDiv) (rVar 2) (rd (eC (.int 2)))))])))))
  (sSeq (sSet false 4 (e2 (dBin .Add) (rd (eC (.int 1))) (rd (e2 (dBin .Mod) (rd (e2 (dBin .Add) (rVar 3) (rd (eUser d__law_draw (seqR [uVar 0, uVal (vl (eC (.int 2))), uVal (vl (e2 (dBin .Sub) (rd (e2 (dBin .FloorDiv) (rVar 2) (rd (eC (.int 2))))) (rd (eC (.int 1)))))]))))) (rd (e2 (dBin .FloorDiv) (rVar 2) (rd (eC (.int 2)))))))))
  (sSeq (sIf (isB (e2 (dCmp .Eq) (rd (eUser d__law_draw (seqR [uVar 0, uVal (vl (eC (.int 6))), uVal (vl (eC (.int 5)))]))) (rd (eC (.int 0))))) (sSeq (sPar 3 4 (seqR [vl (e2 dIx (rd (eLst (seqR [vl (eC (.int 1)), vl (e2 (dBin .Sub) (rd (e2 (dBin .FloorDiv) (rVar 2) (rd (eC (.int 2))))) (rd (eC (.int 1))))]))) (rd (eCall fInt (seqR [rd (e2 (dCmp .Eq) (rVar 4) (rd (eC (.int 1))))])))), vl (e2 (dBin .FloorDiv) (rVar 2) (rd (eC (.int 2))))]))
  (sNext)) (sNext))
  (sSeq (sRet (eTup (seqR [vl (eVar 2), vl (eTup (seqR [vl (eCall fMin (seqR [rVar 3, rVar 4])), vl (eCall fMax (seqR [rVar 3, rVar 4]))]))])))
  (sNext)))))
def d__law_two_leaps : List Sl → R O := defF 3 f__law_two_leaps
def f__law_lies : Gm → R Out := sSeq (sRet (e2 (dBin .Mod) (rd (e2 (dBin .Add) (rd (e2 (dBin .Mult) (rVar 1) (rd (e2 dIx (rd (e2 dIx (rVar 0) (rd (eC (.int 1))))) (rd (eC (.int 0))))))) (rd (e2 (dBin .Mult) (rVar 2) (rd (e2 dIx (rd (e2 dIx (rVar 0) (rd (eC (.int 1))))) (rd (eC (.int 1))))))))) (rd (e2 dIx (rVar 0) (rd (eC (.int 0)))))))
  (sNext)
def d__law_lies : List Sl → R O := defF 0 f__law_lies
def f__law_sized : Gm → R Out := sSeq (sSet true 1 (eLst (seqR [])))
  (sSeq (sFor (iOf rngF2 (seqR [rd (eNeg (rVar 0)), rd (e2 (dBin .Add) (rVar 0) (rd (eC (.int 1))))])) (.nm 2) (sSeq (sSet false 3 (e2 (dBin .Sub) (rVar 0) (rd (eCall fAbs (seqR [rVar 2])))))
  (sSeq (sApp 1 (vl (eTup (seqR [vl (eVar 2), vl (eNeg (rVar 3))]))))
  (sSeq (sIf (isB (e2 (dCmp .Gt) (rVar 3) (rd (eC (.int 0))))) (sSeq (sApp 1 (vl (eTup (seqR [vl (eVar 2), vl (eVar 3)]))))
  (sNext)) (sNext))
  (sNext)))))
  (sSeq (sRetV 1)
  (sNext)))
def d__law_sized : List Sl → R O := defF 3 f__law_sized
end Pr
namespace Pd
open PySem PySem.Spec L2 Pr
abbrev Cel := Int × Int
def cD (c : Cel) : D := .tup [.int c.1, .int c.2]
def plZ (m a b : Nat) (c : Cel) : Int := (c.1 * (a : Int) + c.2 * (b : Int)) % (m : Int)
def rowC (n : Nat) (x : Int) : List Cel := if 0 < (n : Int) - (x.natAbs : Int) then [(x, -((n : Int) - (x.natAbs : Int))), (x, (n : Int) - (x.natAbs : Int))] else [(x, 0)]
def rgZ (lo : Int) (n : Nat) : List Int := (List.range n).map fun k : Nat => lo + (k : Int)
def szC (n : Nat) : List Cel := (rgZ (-(n : Int)) (2 * n + 1)).flatMap (rowC n)
theorem rngD_rgZ : ∀ (n : Nat) (lo : Int), rngD lo n = iD (rgZ lo n)
  | 0, _ => rfl
  | n + 1, lo => by
    rw [rngD, rngD_rgZ n (lo + 1)]
    unfold rgZ iD
    rw [List.range_succ_eq_map, List.map_cons, List.map_cons, List.map_map, List.map_map, List.map_map]
    congr 1
    · rw [Int.natCast_zero, Int.add_zero]
    · refine List.map_congr_left fun k _ => ?_
      show D.int (lo + 1 + (k : Int)) = .int (lo + ((k + 1 : Nat) : Int))
      congr 1
      omega
theorem rng2_z {i j : Int} (h1 : -1000000 ≤ i) (h2 : i ≤ 1000000) (h3 : -1000000 ≤ j) (h4 : j ≤ 1000000) : rngF2 [.int i, .int j] = .ok (iD (rgZ i (j - i).toNat)) := by
  have a1 : smallI i = true := decide_eq_true ⟨by omega, by omega⟩
  have a2 : smallI j = true := decide_eq_true ⟨by omega, by omega⟩
  unfold rngF2
  dsimp only
  rw [if_pos ⟨a1, a2, by unfold line; omega⟩, rngD_rgZ]
theorem mem_rgZ {lo x : Int} {n : Nat} : x ∈ rgZ lo n ↔ lo ≤ x ∧ x < lo + (n : Int) := by
  unfold rgZ
  rw [List.mem_map]
  constructor
  · rintro ⟨k, hk, rfl⟩
    have := List.mem_range.mp hk
    omega
  · rintro ⟨h1, h2⟩
    exact ⟨(x - lo).toNat, List.mem_range.mpr (by omega), by omega⟩
theorem len_rgZ (lo : Int) (n : Nat) : (rgZ lo n).length = n := by
  unfold rgZ
  rw [List.length_map, List.length_range]
theorem row_len (n : Nat) (x : Int) : (rowC n x).length ≤ 2 := by
  unfold rowC
  split <;> simp
theorem rows_len (n : Nat) : ∀ l : List Int, (l.flatMap (rowC n)).length ≤ 2 * l.length
  | [] => Nat.zero_le _
  | x :: r => by
    have h1 := row_len n x
    have h2 := rows_len n r
    rw [List.flatMap_cons, List.length_append, List.length_cons]
    omega
theorem mem_row {n : Nat} {x : Int} {c : Cel} (h : c ∈ rowC n x) (hx : x.natAbs ≤ n) : c.1 = x ∧ c.1.natAbs + c.2.natAbs = n := by
  unfold rowC at h
  split at h
  · simp only [List.mem_cons, List.not_mem_nil, or_false] at h
    rcases h with rfl | rfl
    · exact ⟨rfl, by dsimp only; omega⟩
    · exact ⟨rfl, by dsimp only; omega⟩
  · obtain rfl := List.mem_singleton.mp h
    exact ⟨rfl, by dsimp only; omega⟩
theorem mem_sz {n : Nat} {c : Cel} : c ∈ szC n ↔ c.1.natAbs + c.2.natAbs = n := by
  unfold szC
  rw [List.mem_flatMap]
  constructor
  · rintro ⟨x, hx, hc⟩
    have := mem_rgZ.mp hx
    exact (mem_row hc (by omega)).2
  · intro h
    refine ⟨c.1, mem_rgZ.mpr (by omega), ?_⟩
    obtain ⟨x, y⟩ := c
    dsimp only at h ⊢
    unfold rowC
    split
    · simp only [List.mem_cons, List.not_mem_nil, or_false, Prod.mk.injEq, true_and]
      omega
    · refine List.mem_singleton.mpr ?_
      rw [Prod.mk.injEq]
      exact ⟨rfl, by omega⟩
theorem extJ_l {i : Nat} {Γ : Gm} {ds es : List D} (h : ds.length + es.length ≤ 16777216) : extJ i Γ ds (.lst es) = .ok (.nx (Γ.set i (.own (.lst (ds ++ es))))) := if_pos h
theorem cells_v {n : Nat} (hn : n ≤ 1000) : d_cells_of [.val (.int n)] = .ok (.o (.lst ((szC n).map cD))) := by
  unfold d_cells_of f_cells_of
  refine def_rt ?_
  refine seq_nx (Γ1 := [.val (.int n), .own (.lst []), .un, .un]) (by simp (implicitDefEqProofs := false) (disch := omega) only [↓r_seq, ↓r_next, ↓r_if, ↓r_eif, ↓r_set, ↓r_ret, ↓r_retV, ↓r_expr, ↓r_asg, ↓r_par, ↓r_app, ↓r_ext, ↓r_sto, ↓r_or1, ↓r_or, ↓r_and1, ↓r_and, ↓r_vor1, ↓r_vor, ↓r_vand1, ↓r_vand, ↓r_not, ↓r_tru, ↓r_isB, ↓r_eC, ↓r_rd, ↓r_vl, ↓r_rV, ↓r_eV, ↓r_uV, ↓r_uVl, ↓r_sq0, ↓r_sq, ↓r_e2, ↓r_e3, ↓r_call, ↓r_user, ↓r_enot, ↓r_eneg, ↓r_tup, ↓r_lst, ↓r_sl, ↓r_noP, ↓r_aP, ↓r_iOf, ↓r_iF, ↓r_def, ↓r_ref, r_seqNx, r_seqRt, r_seqBk, r_seqCt, r_ifT, r_ifF, r_setV, r_setOt, r_setOl, r_setOd, r_setOs, r_retK, r_retVv, r_retVo, r_asgK, r_tgN, r_tgT, r_tgL, r_tgs0, r_tgs, r_parK, r_ownL, r_ownLo, r_ownD, r_ownDo, r_appK, r_appJ, r_extK, r_extJ, r_stoK, r_stoI, r_stoJ, r_stoL, r_orT, r_orF, r_andT, r_andF, r_vorK, r_vorT, r_vorF, r_vandK, r_vandT, r_vandF, r_notK, r_truK, r_truB, r_truI, r_truL, r_truT, r_truN, r_isBK, r_rdV, r_rdO, r_dV, r_dO, r_valV, r_valL, r_valD, r_rVv, r_rVo, r_rVb, r_eVv, r_uVv, r_uVo, r_uVb, r_uVlK, r_sqK, r_consK, r_opK, r_opJ, r_chK, r_chJ, r_chT, r_chF, r_clK, r_ntK, r_ngK, r_tpK, r_lsK, r_slK, r_slJ, r_slI, r_slL, r_slT, r_aPK, r_sqL, r_sqT, r_sqS, r_rtR, r_rtN, r_refO, r_refE, r_wdK, r_bAdd, r_bSub, r_bMul, r_bDiv, r_bMod, r_bPow, r_cLt, r_cLe, r_cGt, r_cGe, r_cEq, r_cNe, r_ixL, r_ixT, r_of, r_lenL, r_lenT, r_lenS, Pd.R.bind_ok, Pd.R.bind_err, Pd.R.bind_stuck, noE_ok', mul_r, div_i, mod_i, add_i, sub_i, lt_i, le_i, gt_i, ge_i, eq_i, ne_i, pow18, List.cons_append, List.nil_append, List.getElem?_cons_zero, List.getElem?_cons_succ, List.replicate_succ, List.replicate_zero, List.set_cons_zero, List.set_cons_succ, List.length_cons, List.length_nil, if_true, if_false, Bool.not_true, Bool.not_false, Bool.false_eq_true, ↓reduceIte, Nat.reduceAdd, Nat.reduceLeDiff, Nat.reduceLT, Nat.zero_add, Option.map_some, Int.cast_ofNat_Int, Int.natCast_one, Int.natCast_zero, Int.reduceBEq, Int.reduceLT, Int.reduceLE, Int.reduceAdd, Int.reduceSub, Int.reduceMul, Int.reduceNeg, Int.reduceDiv, Int.reduceMod, decide_true, decide_false]) ?_
  refine seq_go (fun Γ => ∃ s2 s3, Γ = [.val (.int n), .own (.lst ((szC n).map cD)), s2, s3]) ?_ ?_
  · refine go_of (l := rgZ (-(n : Int)) (2 * n + 1)) (φ := fun x : Int => .int x) (fun l Γ => ∃ s2 s3, Γ = [.val (.int n), .own (.lst ((l.flatMap (rowC n)).map cD)), s2, s3]) (by
      have := rng2_z (i := -(n : Int)) (j := (n : Int) + 1) (by omega) (by omega) (by omega) (by omega)
      rw [show ((n : Int) + 1 - -(n : Int)).toNat = 2 * n + 1 by omega] at this
      simp (implicitDefEqProofs := false) (disch := omega) only [↓r_seq, ↓r_next, ↓r_if, ↓r_eif, ↓r_set, ↓r_ret, ↓r_retV, ↓r_expr, ↓r_asg, ↓r_par, ↓r_app, ↓r_ext, ↓r_sto, ↓r_or1, ↓r_or, ↓r_and1, ↓r_and, ↓r_vor1, ↓r_vor, ↓r_vand1, ↓r_vand, ↓r_not, ↓r_tru, ↓r_isB, ↓r_eC, ↓r_rd, ↓r_vl, ↓r_rV, ↓r_eV, ↓r_uV, ↓r_uVl, ↓r_sq0, ↓r_sq, ↓r_e2, ↓r_e3, ↓r_call, ↓r_user, ↓r_enot, ↓r_eneg, ↓r_tup, ↓r_lst, ↓r_sl, ↓r_noP, ↓r_aP, ↓r_iOf, ↓r_iF, ↓r_def, ↓r_ref, r_seqNx, r_seqRt, r_seqBk, r_seqCt, r_ifT, r_ifF, r_setV, r_setOt, r_setOl, r_setOd, r_setOs, r_retK, r_retVv, r_retVo, r_asgK, r_tgN, r_tgT, r_tgL, r_tgs0, r_tgs, r_parK, r_ownL, r_ownLo, r_ownD, r_ownDo, r_appK, r_appJ, r_extK, r_extJ, r_stoK, r_stoI, r_stoJ, r_stoL, r_orT, r_orF, r_andT, r_andF, r_vorK, r_vorT, r_vorF, r_vandK, r_vandT, r_vandF, r_notK, r_truK, r_truB, r_truI, r_truL, r_truT, r_truN, r_isBK, r_rdV, r_rdO, r_dV, r_dO, r_valV, r_valL, r_valD, r_rVv, r_rVo, r_rVb, r_eVv, r_uVv, r_uVo, r_uVb, r_uVlK, r_sqK, r_consK, r_opK, r_opJ, r_chK, r_chJ, r_chT, r_chF, r_clK, r_ntK, r_ngK, r_tpK, r_lsK, r_slK, r_slJ, r_slI, r_slL, r_slT, r_aPK, r_sqL, r_sqT, r_sqS, r_rtR, r_rtN, r_refO, r_refE, r_wdK, r_bAdd, r_bSub, r_bMul, r_bDiv, r_bMod, r_bPow, r_cLt, r_cLe, r_cGt, r_cGe, r_cEq, r_cNe, r_ixL, r_ixT, r_of, r_lenL, r_lenT, r_lenS, Pd.R.bind_ok, Pd.R.bind_err, Pd.R.bind_stuck, noE_ok', mul_r, div_i, mod_i, add_i, sub_i, lt_i, le_i, gt_i, ge_i, eq_i, ne_i, pow18, List.cons_append, List.nil_append, List.getElem?_cons_zero, List.getElem?_cons_succ, List.replicate_succ, List.replicate_zero, List.set_cons_zero, List.set_cons_succ, List.length_cons, List.length_nil, if_true, if_false, Bool.not_true, Bool.not_false, Bool.false_eq_true, ↓reduceIte, Nat.reduceAdd, Nat.reduceLeDiff, Nat.reduceLT, Nat.zero_add, Option.map_some, Int.cast_ofNat_Int, Int.natCast_one, Int.natCast_zero, Int.reduceBEq, Int.reduceLT, Int.reduceLE, Int.reduceAdd, Int.reduceSub, Int.reduceMul, Int.reduceNeg, Int.reduceDiv, Int.reduceMod, decide_true, decide_false, Int.zero_sub]
      exact this) ⟨_, _, rfl⟩ ?_
    rintro a c x Γ e ⟨s2, s3, rfl⟩
    have hal : a.length ≤ 2 * n + 1 := by
      have := congrArg List.length e
      rw [len_rgZ, List.length_append, List.length_cons] at this
      omega
    have hab := abs_i x
    have hl := rows_len n a
    have hx := mem_rgZ.mp (show x ∈ rgZ (-(n : Int)) (2 * n + 1) by rw [e]; exact List.mem_append_right _ (List.mem_cons_self ..))
    have hz : (List.map cD (List.flatMap (rowC n) a)).length ≤ 4002 := by rw [List.length_map]; omega
    rw [List.flatMap_append, List.map_append]
    refine go_seq (Γ1 := [.val (.int n), .own (.lst ((a.flatMap (rowC n)).map cD)), .val (.int x), .val (.int ((n : Int) - (x.natAbs : Int)))]) (by simp (implicitDefEqProofs := false) (disch := omega) only [↓r_seq, ↓r_next, ↓r_if, ↓r_eif, ↓r_set, ↓r_ret, ↓r_retV, ↓r_expr, ↓r_asg, ↓r_par, ↓r_app, ↓r_ext, ↓r_sto, ↓r_or1, ↓r_or, ↓r_and1, ↓r_and, ↓r_vor1, ↓r_vor, ↓r_vand1, ↓r_vand, ↓r_not, ↓r_tru, ↓r_isB, ↓r_eC, ↓r_rd, ↓r_vl, ↓r_rV, ↓r_eV, ↓r_uV, ↓r_uVl, ↓r_sq0, ↓r_sq, ↓r_e2, ↓r_e3, ↓r_call, ↓r_user, ↓r_enot, ↓r_eneg, ↓r_tup, ↓r_lst, ↓r_sl, ↓r_noP, ↓r_aP, ↓r_iOf, ↓r_iF, ↓r_def, ↓r_ref, r_seqNx, r_seqRt, r_seqBk, r_seqCt, r_ifT, r_ifF, r_setV, r_setOt, r_setOl, r_setOd, r_setOs, r_retK, r_retVv, r_retVo, r_asgK, r_tgN, r_tgT, r_tgL, r_tgs0, r_tgs, r_parK, r_ownL, r_ownLo, r_ownD, r_ownDo, r_appK, r_appJ, r_extK, r_extJ, r_stoK, r_stoI, r_stoJ, r_stoL, r_orT, r_orF, r_andT, r_andF, r_vorK, r_vorT, r_vorF, r_vandK, r_vandT, r_vandF, r_notK, r_truK, r_truB, r_truI, r_truL, r_truT, r_truN, r_isBK, r_rdV, r_rdO, r_dV, r_dO, r_valV, r_valL, r_valD, r_rVv, r_rVo, r_rVb, r_eVv, r_uVv, r_uVo, r_uVb, r_uVlK, r_sqK, r_consK, r_opK, r_opJ, r_chK, r_chJ, r_chT, r_chF, r_clK, r_ntK, r_ngK, r_tpK, r_lsK, r_slK, r_slJ, r_slI, r_slL, r_slT, r_aPK, r_sqL, r_sqT, r_sqS, r_rtR, r_rtN, r_refO, r_refE, r_wdK, r_bAdd, r_bSub, r_bMul, r_bDiv, r_bMod, r_bPow, r_cLt, r_cLe, r_cGt, r_cGe, r_cEq, r_cNe, r_ixL, r_ixT, r_of, r_lenL, r_lenT, r_lenS, Pd.R.bind_ok, Pd.R.bind_err, Pd.R.bind_stuck, noE_ok', mul_r, div_i, mod_i, add_i, sub_i, lt_i, le_i, gt_i, ge_i, eq_i, ne_i, pow18, List.cons_append, List.nil_append, List.getElem?_cons_zero, List.getElem?_cons_succ, List.replicate_succ, List.replicate_zero, List.set_cons_zero, List.set_cons_succ, List.length_cons, List.length_nil, if_true, if_false, Bool.not_true, Bool.not_false, Bool.false_eq_true, ↓reduceIte, Nat.reduceAdd, Nat.reduceLeDiff, Nat.reduceLT, Nat.zero_add, Option.map_some, Int.cast_ofNat_Int, Int.natCast_one, Int.natCast_zero, Int.reduceBEq, Int.reduceLT, Int.reduceLE, Int.reduceAdd, Int.reduceSub, Int.reduceMul, Int.reduceNeg, Int.reduceDiv, Int.reduceMod, decide_true, decide_false, hab]) ?_
    by_cases g : 0 < (n : Int) - (x.natAbs : Int)
    · have er : (List.flatMap (rowC n) [x]).map cD = [.tup [.int x, .int (0 - ((n : Int) - (x.natAbs : Int)))], .tup [.int x, .int ((n : Int) - (x.natAbs : Int))]] := by
        rw [List.flatMap_cons, List.flatMap_nil, List.append_nil]
        unfold rowC
        rw [if_pos g, Int.zero_sub]
        rfl
      rw [er]
      generalize (n : Int) - (x.natAbs : Int) = y at g ⊢
      have hj := extJ_l (i := 1) (Γ := [.val (.int n), .own (.lst ((a.flatMap (rowC n)).map cD)), .val (.int x), .val (.int y)]) (ds := (a.flatMap (rowC n)).map cD) (es := [.tup [.int x, .int (0 - y)], .tup [.int x, .int y]]) (by simp only [List.length_cons, List.length_nil]; omega)
      exact go_seq (Γ1 := [.val (.int n), .own (.lst ((a.flatMap (rowC n)).map cD ++ [.tup [.int x, .int (0 - y)], .tup [.int x, .int y]])), .val (.int x), .val (.int y)]) (by simp (implicitDefEqProofs := false) (disch := omega) only [↓r_seq, ↓r_next, ↓r_if, ↓r_eif, ↓r_set, ↓r_ret, ↓r_retV, ↓r_expr, ↓r_asg, ↓r_par, ↓r_app, ↓r_ext, ↓r_sto, ↓r_or1, ↓r_or, ↓r_and1, ↓r_and, ↓r_vor1, ↓r_vor, ↓r_vand1, ↓r_vand, ↓r_not, ↓r_tru, ↓r_isB, ↓r_eC, ↓r_rd, ↓r_vl, ↓r_rV, ↓r_eV, ↓r_uV, ↓r_uVl, ↓r_sq0, ↓r_sq, ↓r_e2, ↓r_e3, ↓r_call, ↓r_user, ↓r_enot, ↓r_eneg, ↓r_tup, ↓r_lst, ↓r_sl, ↓r_noP, ↓r_aP, ↓r_iOf, ↓r_iF, ↓r_def, ↓r_ref, r_seqNx, r_seqRt, r_seqBk, r_seqCt, r_ifT, r_ifF, r_setV, r_setOt, r_setOl, r_setOd, r_setOs, r_retK, r_retVv, r_retVo, r_asgK, r_tgN, r_tgT, r_tgL, r_tgs0, r_tgs, r_parK, r_ownL, r_ownLo, r_ownD, r_ownDo, r_appK, r_appJ, r_extK, r_extJ, r_stoK, r_stoI, r_stoJ, r_stoL, r_orT, r_orF, r_andT, r_andF, r_vorK, r_vorT, r_vorF, r_vandK, r_vandT, r_vandF, r_notK, r_truK, r_truB, r_truI, r_truL, r_truT, r_truN, r_isBK, r_rdV, r_rdO, r_dV, r_dO, r_valV, r_valL, r_valD, r_rVv, r_rVo, r_rVb, r_eVv, r_uVv, r_uVo, r_uVb, r_uVlK, r_sqK, r_consK, r_opK, r_opJ, r_chK, r_chJ, r_chT, r_chF, r_clK, r_ntK, r_ngK, r_tpK, r_lsK, r_slK, r_slJ, r_slI, r_slL, r_slT, r_aPK, r_sqL, r_sqT, r_sqS, r_rtR, r_rtN, r_refO, r_refE, r_wdK, r_bAdd, r_bSub, r_bMul, r_bDiv, r_bMod, r_bPow, r_cLt, r_cLe, r_cGt, r_cGe, r_cEq, r_cNe, r_ixL, r_ixT, r_of, r_lenL, r_lenT, r_lenS, Pd.R.bind_ok, Pd.R.bind_err, Pd.R.bind_stuck, noE_ok', mul_r, div_i, mod_i, add_i, sub_i, lt_i, le_i, gt_i, ge_i, eq_i, ne_i, pow18, List.cons_append, List.nil_append, List.getElem?_cons_zero, List.getElem?_cons_succ, List.replicate_succ, List.replicate_zero, List.set_cons_zero, List.set_cons_succ, List.length_cons, List.length_nil, if_true, if_false, Bool.not_true, Bool.not_false, Bool.false_eq_true, ↓reduceIte, Nat.reduceAdd, Nat.reduceLeDiff, Nat.reduceLT, Nat.zero_add, Option.map_some, Int.cast_ofNat_Int, Int.natCast_one, Int.natCast_zero, Int.reduceBEq, Int.reduceLT, Int.reduceLE, Int.reduceAdd, Int.reduceSub, Int.reduceMul, Int.reduceNeg, Int.reduceDiv, Int.reduceMod, decide_true, decide_false, g, r_extK, hj]) (go_next ⟨_, _, rfl⟩)
    · have er : (List.flatMap (rowC n) [x]).map cD = [.tup [.int x, .int 0]] := by
        rw [List.flatMap_cons, List.flatMap_nil, List.append_nil]
        unfold rowC
        rw [if_neg g]
        rfl
      rw [er]
      generalize (n : Int) - (x.natAbs : Int) = y at g ⊢
      have hj := extJ_l (i := 1) (Γ := [.val (.int n), .own (.lst ((a.flatMap (rowC n)).map cD)), .val (.int x), .val (.int y)]) (ds := (a.flatMap (rowC n)).map cD) (es := [.tup [.int x, .int 0]]) (by simp only [List.length_cons, List.length_nil]; omega)
      exact go_seq (Γ1 := [.val (.int n), .own (.lst ((a.flatMap (rowC n)).map cD ++ [.tup [.int x, .int 0]])), .val (.int x), .val (.int y)]) (by simp (implicitDefEqProofs := false) (disch := omega) only [↓r_seq, ↓r_next, ↓r_if, ↓r_eif, ↓r_set, ↓r_ret, ↓r_retV, ↓r_expr, ↓r_asg, ↓r_par, ↓r_app, ↓r_ext, ↓r_sto, ↓r_or1, ↓r_or, ↓r_and1, ↓r_and, ↓r_vor1, ↓r_vor, ↓r_vand1, ↓r_vand, ↓r_not, ↓r_tru, ↓r_isB, ↓r_eC, ↓r_rd, ↓r_vl, ↓r_rV, ↓r_eV, ↓r_uV, ↓r_uVl, ↓r_sq0, ↓r_sq, ↓r_e2, ↓r_e3, ↓r_call, ↓r_user, ↓r_enot, ↓r_eneg, ↓r_tup, ↓r_lst, ↓r_sl, ↓r_noP, ↓r_aP, ↓r_iOf, ↓r_iF, ↓r_def, ↓r_ref, r_seqNx, r_seqRt, r_seqBk, r_seqCt, r_ifT, r_ifF, r_setV, r_setOt, r_setOl, r_setOd, r_setOs, r_retK, r_retVv, r_retVo, r_asgK, r_tgN, r_tgT, r_tgL, r_tgs0, r_tgs, r_parK, r_ownL, r_ownLo, r_ownD, r_ownDo, r_appK, r_appJ, r_extK, r_extJ, r_stoK, r_stoI, r_stoJ, r_stoL, r_orT, r_orF, r_andT, r_andF, r_vorK, r_vorT, r_vorF, r_vandK, r_vandT, r_vandF, r_notK, r_truK, r_truB, r_truI, r_truL, r_truT, r_truN, r_isBK, r_rdV, r_rdO, r_dV, r_dO, r_valV, r_valL, r_valD, r_rVv, r_rVo, r_rVb, r_eVv, r_uVv, r_uVo, r_uVb, r_uVlK, r_sqK, r_consK, r_opK, r_opJ, r_chK, r_chJ, r_chT, r_chF, r_clK, r_ntK, r_ngK, r_tpK, r_lsK, r_slK, r_slJ, r_slI, r_slL, r_slT, r_aPK, r_sqL, r_sqT, r_sqS, r_rtR, r_rtN, r_refO, r_refE, r_wdK, r_bAdd, r_bSub, r_bMul, r_bDiv, r_bMod, r_bPow, r_cLt, r_cLe, r_cGt, r_cGe, r_cEq, r_cNe, r_ixL, r_ixT, r_of, r_lenL, r_lenT, r_lenS, Pd.R.bind_ok, Pd.R.bind_err, Pd.R.bind_stuck, noE_ok', mul_r, div_i, mod_i, add_i, sub_i, lt_i, le_i, gt_i, ge_i, eq_i, ne_i, pow18, List.cons_append, List.nil_append, List.getElem?_cons_zero, List.getElem?_cons_succ, List.replicate_succ, List.replicate_zero, List.set_cons_zero, List.set_cons_succ, List.length_cons, List.length_nil, if_true, if_false, Bool.not_true, Bool.not_false, Bool.false_eq_true, ↓reduceIte, Nat.reduceAdd, Nat.reduceLeDiff, Nat.reduceLT, Nat.zero_add, Option.map_some, Int.cast_ofNat_Int, Int.natCast_one, Int.natCast_zero, Int.reduceBEq, Int.reduceLT, Int.reduceLE, Int.reduceAdd, Int.reduceSub, Int.reduceMul, Int.reduceNeg, Int.reduceDiv, Int.reduceMod, decide_true, decide_false, g, r_extK, hj]) (go_next ⟨_, _, rfl⟩)
  · rintro Γ ⟨s2, s3, rfl⟩
    simp (implicitDefEqProofs := false) (disch := omega) only [↓r_seq, ↓r_next, ↓r_if, ↓r_eif, ↓r_set, ↓r_ret, ↓r_retV, ↓r_expr, ↓r_asg, ↓r_par, ↓r_app, ↓r_ext, ↓r_sto, ↓r_or1, ↓r_or, ↓r_and1, ↓r_and, ↓r_vor1, ↓r_vor, ↓r_vand1, ↓r_vand, ↓r_not, ↓r_tru, ↓r_isB, ↓r_eC, ↓r_rd, ↓r_vl, ↓r_rV, ↓r_eV, ↓r_uV, ↓r_uVl, ↓r_sq0, ↓r_sq, ↓r_e2, ↓r_e3, ↓r_call, ↓r_user, ↓r_enot, ↓r_eneg, ↓r_tup, ↓r_lst, ↓r_sl, ↓r_noP, ↓r_aP, ↓r_iOf, ↓r_iF, ↓r_def, ↓r_ref, r_seqNx, r_seqRt, r_seqBk, r_seqCt, r_ifT, r_ifF, r_setV, r_setOt, r_setOl, r_setOd, r_setOs, r_retK, r_retVv, r_retVo, r_asgK, r_tgN, r_tgT, r_tgL, r_tgs0, r_tgs, r_parK, r_ownL, r_ownLo, r_ownD, r_ownDo, r_appK, r_appJ, r_extK, r_extJ, r_stoK, r_stoI, r_stoJ, r_stoL, r_orT, r_orF, r_andT, r_andF, r_vorK, r_vorT, r_vorF, r_vandK, r_vandT, r_vandF, r_notK, r_truK, r_truB, r_truI, r_truL, r_truT, r_truN, r_isBK, r_rdV, r_rdO, r_dV, r_dO, r_valV, r_valL, r_valD, r_rVv, r_rVo, r_rVb, r_eVv, r_uVv, r_uVo, r_uVb, r_uVlK, r_sqK, r_consK, r_opK, r_opJ, r_chK, r_chJ, r_chT, r_chF, r_clK, r_ntK, r_ngK, r_tpK, r_lsK, r_slK, r_slJ, r_slI, r_slL, r_slT, r_aPK, r_sqL, r_sqT, r_sqS, r_rtR, r_rtN, r_refO, r_refE, r_wdK, r_bAdd, r_bSub, r_bMul, r_bDiv, r_bMod, r_bPow, r_cLt, r_cLe, r_cGt, r_cGe, r_cEq, r_cNe, r_ixL, r_ixT, r_of, r_lenL, r_lenT, r_lenS, Pd.R.bind_ok, Pd.R.bind_err, Pd.R.bind_stuck, noE_ok', mul_r, div_i, mod_i, add_i, sub_i, lt_i, le_i, gt_i, ge_i, eq_i, ne_i, pow18, List.cons_append, List.nil_append, List.getElem?_cons_zero, List.getElem?_cons_succ, List.replicate_succ, List.replicate_zero, List.set_cons_zero, List.set_cons_succ, List.length_cons, List.length_nil, if_true, if_false, Bool.not_true, Bool.not_false, Bool.false_eq_true, ↓reduceIte, Nat.reduceAdd, Nat.reduceLeDiff, Nat.reduceLT, Nat.zero_add, Option.map_some, Int.cast_ofNat_Int, Int.natCast_one, Int.natCast_zero, Int.reduceBEq, Int.reduceLT, Int.reduceLE, Int.reduceAdd, Int.reduceSub, Int.reduceMul, Int.reduceNeg, Int.reduceDiv, Int.reduceMod, decide_true, decide_false]
theorem sized_v {n : Nat} (hn : n ≤ 1000) : d__law_sized [.val (.int n)] = .ok (.o (.lst ((szC n).map cD))) := by
  unfold d__law_sized f__law_sized
  refine def_rt ?_
  refine seq_nx (Γ1 := [.val (.int n), .own (.lst []), .un, .un]) (by simp (implicitDefEqProofs := false) (disch := omega) only [↓r_seq, ↓r_next, ↓r_if, ↓r_eif, ↓r_set, ↓r_ret, ↓r_retV, ↓r_expr, ↓r_asg, ↓r_par, ↓r_app, ↓r_ext, ↓r_sto, ↓r_or1, ↓r_or, ↓r_and1, ↓r_and, ↓r_vor1, ↓r_vor, ↓r_vand1, ↓r_vand, ↓r_not, ↓r_tru, ↓r_isB, ↓r_eC, ↓r_rd, ↓r_vl, ↓r_rV, ↓r_eV, ↓r_uV, ↓r_uVl, ↓r_sq0, ↓r_sq, ↓r_e2, ↓r_e3, ↓r_call, ↓r_user, ↓r_enot, ↓r_eneg, ↓r_tup, ↓r_lst, ↓r_sl, ↓r_noP, ↓r_aP, ↓r_iOf, ↓r_iF, ↓r_def, ↓r_ref, r_seqNx, r_seqRt, r_seqBk, r_seqCt, r_ifT, r_ifF, r_setV, r_setOt, r_setOl, r_setOd, r_setOs, r_retK, r_retVv, r_retVo, r_asgK, r_tgN, r_tgT, r_tgL, r_tgs0, r_tgs, r_parK, r_ownL, r_ownLo, r_ownD, r_ownDo, r_appK, r_appJ, r_extK, r_extJ, r_stoK, r_stoI, r_stoJ, r_stoL, r_orT, r_orF, r_andT, r_andF, r_vorK, r_vorT, r_vorF, r_vandK, r_vandT, r_vandF, r_notK, r_truK, r_truB, r_truI, r_truL, r_truT, r_truN, r_isBK, r_rdV, r_rdO, r_dV, r_dO, r_valV, r_valL, r_valD, r_rVv, r_rVo, r_rVb, r_eVv, r_uVv, r_uVo, r_uVb, r_uVlK, r_sqK, r_consK, r_opK, r_opJ, r_chK, r_chJ, r_chT, r_chF, r_clK, r_ntK, r_ngK, r_tpK, r_lsK, r_slK, r_slJ, r_slI, r_slL, r_slT, r_aPK, r_sqL, r_sqT, r_sqS, r_rtR, r_rtN, r_refO, r_refE, r_wdK, r_bAdd, r_bSub, r_bMul, r_bDiv, r_bMod, r_bPow, r_cLt, r_cLe, r_cGt, r_cGe, r_cEq, r_cNe, r_ixL, r_ixT, r_of, r_lenL, r_lenT, r_lenS, Pd.R.bind_ok, Pd.R.bind_err, Pd.R.bind_stuck, noE_ok', mul_r, div_i, mod_i, add_i, sub_i, lt_i, le_i, gt_i, ge_i, eq_i, ne_i, pow18, List.cons_append, List.nil_append, List.getElem?_cons_zero, List.getElem?_cons_succ, List.replicate_succ, List.replicate_zero, List.set_cons_zero, List.set_cons_succ, List.length_cons, List.length_nil, if_true, if_false, Bool.not_true, Bool.not_false, Bool.false_eq_true, ↓reduceIte, Nat.reduceAdd, Nat.reduceLeDiff, Nat.reduceLT, Nat.zero_add, Option.map_some, Int.cast_ofNat_Int, Int.natCast_one, Int.natCast_zero, Int.reduceBEq, Int.reduceLT, Int.reduceLE, Int.reduceAdd, Int.reduceSub, Int.reduceMul, Int.reduceNeg, Int.reduceDiv, Int.reduceMod, decide_true, decide_false]) ?_
  refine seq_go (fun Γ => ∃ s2 s3, Γ = [.val (.int n), .own (.lst ((szC n).map cD)), s2, s3]) ?_ ?_
  · refine go_of (l := rgZ (-(n : Int)) (2 * n + 1)) (φ := fun x : Int => .int x) (fun l Γ => ∃ s2 s3, Γ = [.val (.int n), .own (.lst ((l.flatMap (rowC n)).map cD)), s2, s3]) (by
      have := rng2_z (i := -(n : Int)) (j := (n : Int) + 1) (by omega) (by omega) (by omega) (by omega)
      rw [show ((n : Int) + 1 - -(n : Int)).toNat = 2 * n + 1 by omega] at this
      simp (implicitDefEqProofs := false) (disch := omega) only [↓r_seq, ↓r_next, ↓r_if, ↓r_eif, ↓r_set, ↓r_ret, ↓r_retV, ↓r_expr, ↓r_asg, ↓r_par, ↓r_app, ↓r_ext, ↓r_sto, ↓r_or1, ↓r_or, ↓r_and1, ↓r_and, ↓r_vor1, ↓r_vor, ↓r_vand1, ↓r_vand, ↓r_not, ↓r_tru, ↓r_isB, ↓r_eC, ↓r_rd, ↓r_vl, ↓r_rV, ↓r_eV, ↓r_uV, ↓r_uVl, ↓r_sq0, ↓r_sq, ↓r_e2, ↓r_e3, ↓r_call, ↓r_user, ↓r_enot, ↓r_eneg, ↓r_tup, ↓r_lst, ↓r_sl, ↓r_noP, ↓r_aP, ↓r_iOf, ↓r_iF, ↓r_def, ↓r_ref, r_seqNx, r_seqRt, r_seqBk, r_seqCt, r_ifT, r_ifF, r_setV, r_setOt, r_setOl, r_setOd, r_setOs, r_retK, r_retVv, r_retVo, r_asgK, r_tgN, r_tgT, r_tgL, r_tgs0, r_tgs, r_parK, r_ownL, r_ownLo, r_ownD, r_ownDo, r_appK, r_appJ, r_extK, r_extJ, r_stoK, r_stoI, r_stoJ, r_stoL, r_orT, r_orF, r_andT, r_andF, r_vorK, r_vorT, r_vorF, r_vandK, r_vandT, r_vandF, r_notK, r_truK, r_truB, r_truI, r_truL, r_truT, r_truN, r_isBK, r_rdV, r_rdO, r_dV, r_dO, r_valV, r_valL, r_valD, r_rVv, r_rVo, r_rVb, r_eVv, r_uVv, r_uVo, r_uVb, r_uVlK, r_sqK, r_consK, r_opK, r_opJ, r_chK, r_chJ, r_chT, r_chF, r_clK, r_ntK, r_ngK, r_tpK, r_lsK, r_slK, r_slJ, r_slI, r_slL, r_slT, r_aPK, r_sqL, r_sqT, r_sqS, r_rtR, r_rtN, r_refO, r_refE, r_wdK, r_bAdd, r_bSub, r_bMul, r_bDiv, r_bMod, r_bPow, r_cLt, r_cLe, r_cGt, r_cGe, r_cEq, r_cNe, r_ixL, r_ixT, r_of, r_lenL, r_lenT, r_lenS, Pd.R.bind_ok, Pd.R.bind_err, Pd.R.bind_stuck, noE_ok', mul_r, div_i, mod_i, add_i, sub_i, lt_i, le_i, gt_i, ge_i, eq_i, ne_i, pow18, List.cons_append, List.nil_append, List.getElem?_cons_zero, List.getElem?_cons_succ, List.replicate_succ, List.replicate_zero, List.set_cons_zero, List.set_cons_succ, List.length_cons, List.length_nil, if_true, if_false, Bool.not_true, Bool.not_false, Bool.false_eq_true, ↓reduceIte, Nat.reduceAdd, Nat.reduceLeDiff, Nat.reduceLT, Nat.zero_add, Option.map_some, Int.cast_ofNat_Int, Int.natCast_one, Int.natCast_zero, Int.reduceBEq, Int.reduceLT, Int.reduceLE, Int.reduceAdd, Int.reduceSub, Int.reduceMul, Int.reduceNeg, Int.reduceDiv, Int.reduceMod, decide_true, decide_false]
      exact this) ⟨_, _, rfl⟩ ?_
    rintro a c x Γ e ⟨s2, s3, rfl⟩
    have hal : a.length ≤ 2 * n + 1 := by
      have := congrArg List.length e
      rw [len_rgZ, List.length_append, List.length_cons] at this
      omega
    have hab := abs_i x
    have hl := rows_len n a
    have hx := mem_rgZ.mp (show x ∈ rgZ (-(n : Int)) (2 * n + 1) by rw [e]; exact List.mem_append_right _ (List.mem_cons_self ..))
    have hz : (List.map cD (List.flatMap (rowC n) a)).length ≤ 4002 := by rw [List.length_map]; omega
    rw [List.flatMap_append, List.map_append]
    refine go_seq (Γ1 := [.val (.int n), .own (.lst ((a.flatMap (rowC n)).map cD)), .val (.int x), .val (.int ((n : Int) - (x.natAbs : Int)))]) (by simp (implicitDefEqProofs := false) (disch := omega) only [↓r_seq, ↓r_next, ↓r_if, ↓r_eif, ↓r_set, ↓r_ret, ↓r_retV, ↓r_expr, ↓r_asg, ↓r_par, ↓r_app, ↓r_ext, ↓r_sto, ↓r_or1, ↓r_or, ↓r_and1, ↓r_and, ↓r_vor1, ↓r_vor, ↓r_vand1, ↓r_vand, ↓r_not, ↓r_tru, ↓r_isB, ↓r_eC, ↓r_rd, ↓r_vl, ↓r_rV, ↓r_eV, ↓r_uV, ↓r_uVl, ↓r_sq0, ↓r_sq, ↓r_e2, ↓r_e3, ↓r_call, ↓r_user, ↓r_enot, ↓r_eneg, ↓r_tup, ↓r_lst, ↓r_sl, ↓r_noP, ↓r_aP, ↓r_iOf, ↓r_iF, ↓r_def, ↓r_ref, r_seqNx, r_seqRt, r_seqBk, r_seqCt, r_ifT, r_ifF, r_setV, r_setOt, r_setOl, r_setOd, r_setOs, r_retK, r_retVv, r_retVo, r_asgK, r_tgN, r_tgT, r_tgL, r_tgs0, r_tgs, r_parK, r_ownL, r_ownLo, r_ownD, r_ownDo, r_appK, r_appJ, r_extK, r_extJ, r_stoK, r_stoI, r_stoJ, r_stoL, r_orT, r_orF, r_andT, r_andF, r_vorK, r_vorT, r_vorF, r_vandK, r_vandT, r_vandF, r_notK, r_truK, r_truB, r_truI, r_truL, r_truT, r_truN, r_isBK, r_rdV, r_rdO, r_dV, r_dO, r_valV, r_valL, r_valD, r_rVv, r_rVo, r_rVb, r_eVv, r_uVv, r_uVo, r_uVb, r_uVlK, r_sqK, r_consK, r_opK, r_opJ, r_chK, r_chJ, r_chT, r_chF, r_clK, r_ntK, r_ngK, r_tpK, r_lsK, r_slK, r_slJ, r_slI, r_slL, r_slT, r_aPK, r_sqL, r_sqT, r_sqS, r_rtR, r_rtN, r_refO, r_refE, r_wdK, r_bAdd, r_bSub, r_bMul, r_bDiv, r_bMod, r_bPow, r_cLt, r_cLe, r_cGt, r_cGe, r_cEq, r_cNe, r_ixL, r_ixT, r_of, r_lenL, r_lenT, r_lenS, Pd.R.bind_ok, Pd.R.bind_err, Pd.R.bind_stuck, noE_ok', mul_r, div_i, mod_i, add_i, sub_i, lt_i, le_i, gt_i, ge_i, eq_i, ne_i, pow18, List.cons_append, List.nil_append, List.getElem?_cons_zero, List.getElem?_cons_succ, List.replicate_succ, List.replicate_zero, List.set_cons_zero, List.set_cons_succ, List.length_cons, List.length_nil, if_true, if_false, Bool.not_true, Bool.not_false, Bool.false_eq_true, ↓reduceIte, Nat.reduceAdd, Nat.reduceLeDiff, Nat.reduceLT, Nat.zero_add, Option.map_some, Int.cast_ofNat_Int, Int.natCast_one, Int.natCast_zero, Int.reduceBEq, Int.reduceLT, Int.reduceLE, Int.reduceAdd, Int.reduceSub, Int.reduceMul, Int.reduceNeg, Int.reduceDiv, Int.reduceMod, decide_true, decide_false, hab]) ?_
    by_cases g : 0 < (n : Int) - (x.natAbs : Int)
    · have er : (List.flatMap (rowC n) [x]).map cD = [.tup [.int x, .int (-((n : Int) - (x.natAbs : Int)))], .tup [.int x, .int ((n : Int) - (x.natAbs : Int))]] := by
        rw [List.flatMap_cons, List.flatMap_nil, List.append_nil]
        unfold rowC
        rw [if_pos g]
        rfl
      rw [er]
      generalize (n : Int) - (x.natAbs : Int) = y at g ⊢
      generalize (a.flatMap (rowC n)).map cD = L at hz ⊢
      refine go_seq (Γ1 := [.val (.int n), .own (.lst (L ++ [.tup [.int x, .int (-y)]])), .val (.int x), .val (.int y)]) (by simp (implicitDefEqProofs := false) (disch := omega) only [↓r_seq, ↓r_next, ↓r_if, ↓r_eif, ↓r_set, ↓r_ret, ↓r_retV, ↓r_expr, ↓r_asg, ↓r_par, ↓r_app, ↓r_ext, ↓r_sto, ↓r_or1, ↓r_or, ↓r_and1, ↓r_and, ↓r_vor1, ↓r_vor, ↓r_vand1, ↓r_vand, ↓r_not, ↓r_tru, ↓r_isB, ↓r_eC, ↓r_rd, ↓r_vl, ↓r_rV, ↓r_eV, ↓r_uV, ↓r_uVl, ↓r_sq0, ↓r_sq, ↓r_e2, ↓r_e3, ↓r_call, ↓r_user, ↓r_enot, ↓r_eneg, ↓r_tup, ↓r_lst, ↓r_sl, ↓r_noP, ↓r_aP, ↓r_iOf, ↓r_iF, ↓r_def, ↓r_ref, r_seqNx, r_seqRt, r_seqBk, r_seqCt, r_ifT, r_ifF, r_setV, r_setOt, r_setOl, r_setOd, r_setOs, r_retK, r_retVv, r_retVo, r_asgK, r_tgN, r_tgT, r_tgL, r_tgs0, r_tgs, r_parK, r_ownL, r_ownLo, r_ownD, r_ownDo, r_appK, r_appJ, r_extK, r_extJ, r_stoK, r_stoI, r_stoJ, r_stoL, r_orT, r_orF, r_andT, r_andF, r_vorK, r_vorT, r_vorF, r_vandK, r_vandT, r_vandF, r_notK, r_truK, r_truB, r_truI, r_truL, r_truT, r_truN, r_isBK, r_rdV, r_rdO, r_dV, r_dO, r_valV, r_valL, r_valD, r_rVv, r_rVo, r_rVb, r_eVv, r_uVv, r_uVo, r_uVb, r_uVlK, r_sqK, r_consK, r_opK, r_opJ, r_chK, r_chJ, r_chT, r_chF, r_clK, r_ntK, r_ngK, r_tpK, r_lsK, r_slK, r_slJ, r_slI, r_slL, r_slT, r_aPK, r_sqL, r_sqT, r_sqS, r_rtR, r_rtN, r_refO, r_refE, r_wdK, r_bAdd, r_bSub, r_bMul, r_bDiv, r_bMod, r_bPow, r_cLt, r_cLe, r_cGt, r_cGe, r_cEq, r_cNe, r_ixL, r_ixT, r_of, r_lenL, r_lenT, r_lenS, Pd.R.bind_ok, Pd.R.bind_err, Pd.R.bind_stuck, noE_ok', mul_r, div_i, mod_i, add_i, sub_i, lt_i, le_i, gt_i, ge_i, eq_i, ne_i, pow18, List.cons_append, List.nil_append, List.getElem?_cons_zero, List.getElem?_cons_succ, List.replicate_succ, List.replicate_zero, List.set_cons_zero, List.set_cons_succ, List.length_cons, List.length_nil, if_true, if_false, Bool.not_true, Bool.not_false, Bool.false_eq_true, ↓reduceIte, Nat.reduceAdd, Nat.reduceLeDiff, Nat.reduceLT, Nat.zero_add, Option.map_some, Int.cast_ofNat_Int, Int.natCast_one, Int.natCast_zero, Int.reduceBEq, Int.reduceLT, Int.reduceLE, Int.reduceAdd, Int.reduceSub, Int.reduceMul, Int.reduceNeg, Int.reduceDiv, Int.reduceMod, decide_true, decide_false, r_appJ (show L.length < 16777216 by omega)]) ?_
      have hz2 : (L ++ [D.tup [.int x, .int (-y)]]).length < 16777216 := by rw [List.length_append, List.length_singleton]; omega
      refine go_seq (Γ1 := [.val (.int n), .own (.lst (L ++ [.tup [.int x, .int (-y)]] ++ [.tup [.int x, .int y]])), .val (.int x), .val (.int y)]) ((sIf_t (by simp (implicitDefEqProofs := false) (disch := omega) only [↓r_seq, ↓r_next, ↓r_if, ↓r_eif, ↓r_set, ↓r_ret, ↓r_retV, ↓r_expr, ↓r_asg, ↓r_par, ↓r_app, ↓r_ext, ↓r_sto, ↓r_or1, ↓r_or, ↓r_and1, ↓r_and, ↓r_vor1, ↓r_vor, ↓r_vand1, ↓r_vand, ↓r_not, ↓r_tru, ↓r_isB, ↓r_eC, ↓r_rd, ↓r_vl, ↓r_rV, ↓r_eV, ↓r_uV, ↓r_uVl, ↓r_sq0, ↓r_sq, ↓r_e2, ↓r_e3, ↓r_call, ↓r_user, ↓r_enot, ↓r_eneg, ↓r_tup, ↓r_lst, ↓r_sl, ↓r_noP, ↓r_aP, ↓r_iOf, ↓r_iF, ↓r_def, ↓r_ref, r_seqNx, r_seqRt, r_seqBk, r_seqCt, r_ifT, r_ifF, r_setV, r_setOt, r_setOl, r_setOd, r_setOs, r_retK, r_retVv, r_retVo, r_asgK, r_tgN, r_tgT, r_tgL, r_tgs0, r_tgs, r_parK, r_ownL, r_ownLo, r_ownD, r_ownDo, r_appK, r_appJ, r_extK, r_extJ, r_stoK, r_stoI, r_stoJ, r_stoL, r_orT, r_orF, r_andT, r_andF, r_vorK, r_vorT, r_vorF, r_vandK, r_vandT, r_vandF, r_notK, r_truK, r_truB, r_truI, r_truL, r_truT, r_truN, r_isBK, r_rdV, r_rdO, r_dV, r_dO, r_valV, r_valL, r_valD, r_rVv, r_rVo, r_rVb, r_eVv, r_uVv, r_uVo, r_uVb, r_uVlK, r_sqK, r_consK, r_opK, r_opJ, r_chK, r_chJ, r_chT, r_chF, r_clK, r_ntK, r_ngK, r_tpK, r_lsK, r_slK, r_slJ, r_slI, r_slL, r_slT, r_aPK, r_sqL, r_sqT, r_sqS, r_rtR, r_rtN, r_refO, r_refE, r_wdK, r_bAdd, r_bSub, r_bMul, r_bDiv, r_bMod, r_bPow, r_cLt, r_cLe, r_cGt, r_cGe, r_cEq, r_cNe, r_ixL, r_ixT, r_of, r_lenL, r_lenT, r_lenS, Pd.R.bind_ok, Pd.R.bind_err, Pd.R.bind_stuck, noE_ok', mul_r, div_i, mod_i, add_i, sub_i, lt_i, le_i, gt_i, ge_i, eq_i, ne_i, pow18, List.cons_append, List.nil_append, List.getElem?_cons_zero, List.getElem?_cons_succ, List.replicate_succ, List.replicate_zero, List.set_cons_zero, List.set_cons_succ, List.length_cons, List.length_nil, if_true, if_false, Bool.not_true, Bool.not_false, Bool.false_eq_true, ↓reduceIte, Nat.reduceAdd, Nat.reduceLeDiff, Nat.reduceLT, Nat.zero_add, Option.map_some, Int.cast_ofNat_Int, Int.natCast_one, Int.natCast_zero, Int.reduceBEq, Int.reduceLT, Int.reduceLE, Int.reduceAdd, Int.reduceSub, Int.reduceMul, Int.reduceNeg, Int.reduceDiv, Int.reduceMod, decide_true, decide_false, g])).trans (by simp (implicitDefEqProofs := false) (disch := omega) only [↓r_seq, ↓r_next, ↓r_if, ↓r_eif, ↓r_set, ↓r_ret, ↓r_retV, ↓r_expr, ↓r_asg, ↓r_par, ↓r_app, ↓r_ext, ↓r_sto, ↓r_or1, ↓r_or, ↓r_and1, ↓r_and, ↓r_vor1, ↓r_vor, ↓r_vand1, ↓r_vand, ↓r_not, ↓r_tru, ↓r_isB, ↓r_eC, ↓r_rd, ↓r_vl, ↓r_rV, ↓r_eV, ↓r_uV, ↓r_uVl, ↓r_sq0, ↓r_sq, ↓r_e2, ↓r_e3, ↓r_call, ↓r_user, ↓r_enot, ↓r_eneg, ↓r_tup, ↓r_lst, ↓r_sl, ↓r_noP, ↓r_aP, ↓r_iOf, ↓r_iF, ↓r_def, ↓r_ref, r_seqNx, r_seqRt, r_seqBk, r_seqCt, r_ifT, r_ifF, r_setV, r_setOt, r_setOl, r_setOd, r_setOs, r_retK, r_retVv, r_retVo, r_asgK, r_tgN, r_tgT, r_tgL, r_tgs0, r_tgs, r_parK, r_ownL, r_ownLo, r_ownD, r_ownDo, r_appK, r_appJ, r_extK, r_extJ, r_stoK, r_stoI, r_stoJ, r_stoL, r_orT, r_orF, r_andT, r_andF, r_vorK, r_vorT, r_vorF, r_vandK, r_vandT, r_vandF, r_notK, r_truK, r_truB, r_truI, r_truL, r_truT, r_truN, r_isBK, r_rdV, r_rdO, r_dV, r_dO, r_valV, r_valL, r_valD, r_rVv, r_rVo, r_rVb, r_eVv, r_uVv, r_uVo, r_uVb, r_uVlK, r_sqK, r_consK, r_opK, r_opJ, r_chK, r_chJ, r_chT, r_chF, r_clK, r_ntK, r_ngK, r_tpK, r_lsK, r_slK, r_slJ, r_slI, r_slL, r_slT, r_aPK, r_sqL, r_sqT, r_sqS, r_rtR, r_rtN, r_refO, r_refE, r_wdK, r_bAdd, r_bSub, r_bMul, r_bDiv, r_bMod, r_bPow, r_cLt, r_cLe, r_cGt, r_cGe, r_cEq, r_cNe, r_ixL, r_ixT, r_of, r_lenL, r_lenT, r_lenS, Pd.R.bind_ok, Pd.R.bind_err, Pd.R.bind_stuck, noE_ok', mul_r, div_i, mod_i, add_i, sub_i, lt_i, le_i, gt_i, ge_i, eq_i, ne_i, pow18, List.cons_append, List.nil_append, List.getElem?_cons_zero, List.getElem?_cons_succ, List.replicate_succ, List.replicate_zero, List.set_cons_zero, List.set_cons_succ, List.length_cons, List.length_nil, if_true, if_false, Bool.not_true, Bool.not_false, Bool.false_eq_true, ↓reduceIte, Nat.reduceAdd, Nat.reduceLeDiff, Nat.reduceLT, Nat.zero_add, Option.map_some, Int.cast_ofNat_Int, Int.natCast_one, Int.natCast_zero, Int.reduceBEq, Int.reduceLT, Int.reduceLE, Int.reduceAdd, Int.reduceSub, Int.reduceMul, Int.reduceNeg, Int.reduceDiv, Int.reduceMod, decide_true, decide_false, r_appJ hz2])) (go_next ⟨.val (.int x), .val (.int y), ?_⟩)
      rw [List.append_assoc]
      rfl
    · have hy : (n : Int) - (x.natAbs : Int) = 0 := by omega
      have er : (List.flatMap (rowC n) [x]).map cD = [.tup [.int x, .int (-((n : Int) - (x.natAbs : Int)))]] := by
        rw [List.flatMap_cons, List.flatMap_nil, List.append_nil]
        unfold rowC
        rw [if_neg g, hy]
        rfl
      rw [er]
      generalize (n : Int) - (x.natAbs : Int) = y at g ⊢
      generalize (a.flatMap (rowC n)).map cD = L at hz ⊢
      refine go_seq (Γ1 := [.val (.int n), .own (.lst (L ++ [.tup [.int x, .int (-y)]])), .val (.int x), .val (.int y)]) (by simp (implicitDefEqProofs := false) (disch := omega) only [↓r_seq, ↓r_next, ↓r_if, ↓r_eif, ↓r_set, ↓r_ret, ↓r_retV, ↓r_expr, ↓r_asg, ↓r_par, ↓r_app, ↓r_ext, ↓r_sto, ↓r_or1, ↓r_or, ↓r_and1, ↓r_and, ↓r_vor1, ↓r_vor, ↓r_vand1, ↓r_vand, ↓r_not, ↓r_tru, ↓r_isB, ↓r_eC, ↓r_rd, ↓r_vl, ↓r_rV, ↓r_eV, ↓r_uV, ↓r_uVl, ↓r_sq0, ↓r_sq, ↓r_e2, ↓r_e3, ↓r_call, ↓r_user, ↓r_enot, ↓r_eneg, ↓r_tup, ↓r_lst, ↓r_sl, ↓r_noP, ↓r_aP, ↓r_iOf, ↓r_iF, ↓r_def, ↓r_ref, r_seqNx, r_seqRt, r_seqBk, r_seqCt, r_ifT, r_ifF, r_setV, r_setOt, r_setOl, r_setOd, r_setOs, r_retK, r_retVv, r_retVo, r_asgK, r_tgN, r_tgT, r_tgL, r_tgs0, r_tgs, r_parK, r_ownL, r_ownLo, r_ownD, r_ownDo, r_appK, r_appJ, r_extK, r_extJ, r_stoK, r_stoI, r_stoJ, r_stoL, r_orT, r_orF, r_andT, r_andF, r_vorK, r_vorT, r_vorF, r_vandK, r_vandT, r_vandF, r_notK, r_truK, r_truB, r_truI, r_truL, r_truT, r_truN, r_isBK, r_rdV, r_rdO, r_dV, r_dO, r_valV, r_valL, r_valD, r_rVv, r_rVo, r_rVb, r_eVv, r_uVv, r_uVo, r_uVb, r_uVlK, r_sqK, r_consK, r_opK, r_opJ, r_chK, r_chJ, r_chT, r_chF, r_clK, r_ntK, r_ngK, r_tpK, r_lsK, r_slK, r_slJ, r_slI, r_slL, r_slT, r_aPK, r_sqL, r_sqT, r_sqS, r_rtR, r_rtN, r_refO, r_refE, r_wdK, r_bAdd, r_bSub, r_bMul, r_bDiv, r_bMod, r_bPow, r_cLt, r_cLe, r_cGt, r_cGe, r_cEq, r_cNe, r_ixL, r_ixT, r_of, r_lenL, r_lenT, r_lenS, Pd.R.bind_ok, Pd.R.bind_err, Pd.R.bind_stuck, noE_ok', mul_r, div_i, mod_i, add_i, sub_i, lt_i, le_i, gt_i, ge_i, eq_i, ne_i, pow18, List.cons_append, List.nil_append, List.getElem?_cons_zero, List.getElem?_cons_succ, List.replicate_succ, List.replicate_zero, List.set_cons_zero, List.set_cons_succ, List.length_cons, List.length_nil, if_true, if_false, Bool.not_true, Bool.not_false, Bool.false_eq_true, ↓reduceIte, Nat.reduceAdd, Nat.reduceLeDiff, Nat.reduceLT, Nat.zero_add, Option.map_some, Int.cast_ofNat_Int, Int.natCast_one, Int.natCast_zero, Int.reduceBEq, Int.reduceLT, Int.reduceLE, Int.reduceAdd, Int.reduceSub, Int.reduceMul, Int.reduceNeg, Int.reduceDiv, Int.reduceMod, decide_true, decide_false, r_appJ (show L.length < 16777216 by omega)]) ?_
      exact go_seq (if_no (by simp (implicitDefEqProofs := false) (disch := omega) only [↓r_seq, ↓r_next, ↓r_if, ↓r_eif, ↓r_set, ↓r_ret, ↓r_retV, ↓r_expr, ↓r_asg, ↓r_par, ↓r_app, ↓r_ext, ↓r_sto, ↓r_or1, ↓r_or, ↓r_and1, ↓r_and, ↓r_vor1, ↓r_vor, ↓r_vand1, ↓r_vand, ↓r_not, ↓r_tru, ↓r_isB, ↓r_eC, ↓r_rd, ↓r_vl, ↓r_rV, ↓r_eV, ↓r_uV, ↓r_uVl, ↓r_sq0, ↓r_sq, ↓r_e2, ↓r_e3, ↓r_call, ↓r_user, ↓r_enot, ↓r_eneg, ↓r_tup, ↓r_lst, ↓r_sl, ↓r_noP, ↓r_aP, ↓r_iOf, ↓r_iF, ↓r_def, ↓r_ref, r_seqNx, r_seqRt, r_seqBk, r_seqCt, r_ifT, r_ifF, r_setV, r_setOt, r_setOl, r_setOd, r_setOs, r_retK, r_retVv, r_retVo, r_asgK, r_tgN, r_tgT, r_tgL, r_tgs0, r_tgs, r_parK, r_ownL, r_ownLo, r_ownD, r_ownDo, r_appK, r_appJ, r_extK, r_extJ, r_stoK, r_stoI, r_stoJ, r_stoL, r_orT, r_orF, r_andT, r_andF, r_vorK, r_vorT, r_vorF, r_vandK, r_vandT, r_vandF, r_notK, r_truK, r_truB, r_truI, r_truL, r_truT, r_truN, r_isBK, r_rdV, r_rdO, r_dV, r_dO, r_valV, r_valL, r_valD, r_rVv, r_rVo, r_rVb, r_eVv, r_uVv, r_uVo, r_uVb, r_uVlK, r_sqK, r_consK, r_opK, r_opJ, r_chK, r_chJ, r_chT, r_chF, r_clK, r_ntK, r_ngK, r_tpK, r_lsK, r_slK, r_slJ, r_slI, r_slL, r_slT, r_aPK, r_sqL, r_sqT, r_sqS, r_rtR, r_rtN, r_refO, r_refE, r_wdK, r_bAdd, r_bSub, r_bMul, r_bDiv, r_bMod, r_bPow, r_cLt, r_cLe, r_cGt, r_cGe, r_cEq, r_cNe, r_ixL, r_ixT, r_of, r_lenL, r_lenT, r_lenS, Pd.R.bind_ok, Pd.R.bind_err, Pd.R.bind_stuck, noE_ok', mul_r, div_i, mod_i, add_i, sub_i, lt_i, le_i, gt_i, ge_i, eq_i, ne_i, pow18, List.cons_append, List.nil_append, List.getElem?_cons_zero, List.getElem?_cons_succ, List.replicate_succ, List.replicate_zero, List.set_cons_zero, List.set_cons_succ, List.length_cons, List.length_nil, if_true, if_false, Bool.not_true, Bool.not_false, Bool.false_eq_true, ↓reduceIte, Nat.reduceAdd, Nat.reduceLeDiff, Nat.reduceLT, Nat.zero_add, Option.map_some, Int.cast_ofNat_Int, Int.natCast_one, Int.natCast_zero, Int.reduceBEq, Int.reduceLT, Int.reduceLE, Int.reduceAdd, Int.reduceSub, Int.reduceMul, Int.reduceNeg, Int.reduceDiv, Int.reduceMod, decide_true, decide_false, g])) (go_next ⟨_, _, rfl⟩)
  · rintro Γ ⟨s2, s3, rfl⟩
    simp (implicitDefEqProofs := false) (disch := omega) only [↓r_seq, ↓r_next, ↓r_if, ↓r_eif, ↓r_set, ↓r_ret, ↓r_retV, ↓r_expr, ↓r_asg, ↓r_par, ↓r_app, ↓r_ext, ↓r_sto, ↓r_or1, ↓r_or, ↓r_and1, ↓r_and, ↓r_vor1, ↓r_vor, ↓r_vand1, ↓r_vand, ↓r_not, ↓r_tru, ↓r_isB, ↓r_eC, ↓r_rd, ↓r_vl, ↓r_rV, ↓r_eV, ↓r_uV, ↓r_uVl, ↓r_sq0, ↓r_sq, ↓r_e2, ↓r_e3, ↓r_call, ↓r_user, ↓r_enot, ↓r_eneg, ↓r_tup, ↓r_lst, ↓r_sl, ↓r_noP, ↓r_aP, ↓r_iOf, ↓r_iF, ↓r_def, ↓r_ref, r_seqNx, r_seqRt, r_seqBk, r_seqCt, r_ifT, r_ifF, r_setV, r_setOt, r_setOl, r_setOd, r_setOs, r_retK, r_retVv, r_retVo, r_asgK, r_tgN, r_tgT, r_tgL, r_tgs0, r_tgs, r_parK, r_ownL, r_ownLo, r_ownD, r_ownDo, r_appK, r_appJ, r_extK, r_extJ, r_stoK, r_stoI, r_stoJ, r_stoL, r_orT, r_orF, r_andT, r_andF, r_vorK, r_vorT, r_vorF, r_vandK, r_vandT, r_vandF, r_notK, r_truK, r_truB, r_truI, r_truL, r_truT, r_truN, r_isBK, r_rdV, r_rdO, r_dV, r_dO, r_valV, r_valL, r_valD, r_rVv, r_rVo, r_rVb, r_eVv, r_uVv, r_uVo, r_uVb, r_uVlK, r_sqK, r_consK, r_opK, r_opJ, r_chK, r_chJ, r_chT, r_chF, r_clK, r_ntK, r_ngK, r_tpK, r_lsK, r_slK, r_slJ, r_slI, r_slL, r_slT, r_aPK, r_sqL, r_sqT, r_sqS, r_rtR, r_rtN, r_refO, r_refE, r_wdK, r_bAdd, r_bSub, r_bMul, r_bDiv, r_bMod, r_bPow, r_cLt, r_cLe, r_cGt, r_cGe, r_cEq, r_cNe, r_ixL, r_ixT, r_of, r_lenL, r_lenT, r_lenS, Pd.R.bind_ok, Pd.R.bind_err, Pd.R.bind_stuck, noE_ok', mul_r, div_i, mod_i, add_i, sub_i, lt_i, le_i, gt_i, ge_i, eq_i, ne_i, pow18, List.cons_append, List.nil_append, List.getElem?_cons_zero, List.getElem?_cons_succ, List.replicate_succ, List.replicate_zero, List.set_cons_zero, List.set_cons_succ, List.length_cons, List.length_nil, if_true, if_false, Bool.not_true, Bool.not_false, Bool.false_eq_true, ↓reduceIte, Nat.reduceAdd, Nat.reduceLeDiff, Nat.reduceLT, Nat.zero_add, Option.map_some, Int.cast_ofNat_Int, Int.natCast_one, Int.natCast_zero, Int.reduceBEq, Int.reduceLT, Int.reduceLE, Int.reduceAdd, Int.reduceSub, Int.reduceMul, Int.reduceNeg, Int.reduceDiv, Int.reduceMod, decide_true, decide_false]
section
variable {m a b : Nat}
theorem ring_ab (R : Ring m [a, b]) : 0 < a ∧ a < b ∧ b ≤ m / 2 ∧ 3 ≤ m ∧ m ≤ 100 := by
  have h1 := R.pos a (by simp)
  have h2 := R.half b (by simp)
  have h3 := R.ris
  have h4 := R.m3
  have h5 := R.m100
  simp at h3
  exact ⟨h1, h3, h2, h4, h5⟩
theorem ab_ring (h1 : 0 < a) (h2 : a < b) (h3 : b ≤ m / 2) (h4 : 3 ≤ m) (h5 : m ≤ 100) : Ring m [a, b] := ⟨h4, h5, by simp, by simp, by simpa using h2, fun l hl => by
  simp only [List.mem_cons, List.not_mem_nil, or_false] at hl
  omega, fun l hl => by
  simp only [List.mem_cons, List.not_mem_nil, or_false] at hl
  omega⟩
theorem need_two_v (R : Ring m [a, b]) : d_need_two_leaps [.val (ringD m [a, b])] = .ok (.v .non) := by
  have e1 := need_ring_ok R
  have hr : dIx (ringD m [a, b]) (.int 1) = some (.v (.tup (nD [a, b]))) := rfl
  have hn : fLen [.tup (nD [a, b])] = some (.v (.int 2)) := rfl
  unfold d_need_two_leaps f_need_two_leaps
  simp (implicitDefEqProofs := false) (disch := omega) only [↓r_seq, ↓r_next, ↓r_if, ↓r_eif, ↓r_set, ↓r_ret, ↓r_retV, ↓r_expr, ↓r_asg, ↓r_par, ↓r_app, ↓r_ext, ↓r_sto, ↓r_or1, ↓r_or, ↓r_and1, ↓r_and, ↓r_vor1, ↓r_vor, ↓r_vand1, ↓r_vand, ↓r_not, ↓r_tru, ↓r_isB, ↓r_eC, ↓r_rd, ↓r_vl, ↓r_rV, ↓r_eV, ↓r_uV, ↓r_uVl, ↓r_sq0, ↓r_sq, ↓r_e2, ↓r_e3, ↓r_call, ↓r_user, ↓r_enot, ↓r_eneg, ↓r_tup, ↓r_lst, ↓r_sl, ↓r_noP, ↓r_aP, ↓r_iOf, ↓r_iF, ↓r_def, ↓r_ref, r_seqNx, r_seqRt, r_seqBk, r_seqCt, r_ifT, r_ifF, r_setV, r_setOt, r_setOl, r_setOd, r_setOs, r_retK, r_retVv, r_retVo, r_asgK, r_tgN, r_tgT, r_tgL, r_tgs0, r_tgs, r_parK, r_ownL, r_ownLo, r_ownD, r_ownDo, r_appK, r_appJ, r_extK, r_extJ, r_stoK, r_stoI, r_stoJ, r_stoL, r_orT, r_orF, r_andT, r_andF, r_vorK, r_vorT, r_vorF, r_vandK, r_vandT, r_vandF, r_notK, r_truK, r_truB, r_truI, r_truL, r_truT, r_truN, r_isBK, r_rdV, r_rdO, r_dV, r_dO, r_valV, r_valL, r_valD, r_rVv, r_rVo, r_rVb, r_eVv, r_uVv, r_uVo, r_uVb, r_uVlK, r_sqK, r_consK, r_opK, r_opJ, r_chK, r_chJ, r_chT, r_chF, r_clK, r_ntK, r_ngK, r_tpK, r_lsK, r_slK, r_slJ, r_slI, r_slL, r_slT, r_aPK, r_sqL, r_sqT, r_sqS, r_rtR, r_rtN, r_refO, r_refE, r_wdK, r_bAdd, r_bSub, r_bMul, r_bDiv, r_bMod, r_bPow, r_cLt, r_cLe, r_cGt, r_cGe, r_cEq, r_cNe, r_ixL, r_ixT, r_of, r_lenL, r_lenT, r_lenS, Pd.R.bind_ok, Pd.R.bind_err, Pd.R.bind_stuck, noE_ok', mul_r, div_i, mod_i, add_i, sub_i, lt_i, le_i, gt_i, ge_i, eq_i, ne_i, pow18, List.cons_append, List.nil_append, List.getElem?_cons_zero, List.getElem?_cons_succ, List.replicate_succ, List.replicate_zero, List.set_cons_zero, List.set_cons_succ, List.length_cons, List.length_nil, if_true, if_false, Bool.not_true, Bool.not_false, Bool.false_eq_true, ↓reduceIte, Nat.reduceAdd, Nat.reduceLeDiff, Nat.reduceLT, Nat.zero_add, Option.map_some, Int.cast_ofNat_Int, Int.natCast_one, Int.natCast_zero, Int.reduceBEq, Int.reduceLT, Int.reduceLE, Int.reduceAdd, Int.reduceSub, Int.reduceMul, Int.reduceNeg, Int.reduceDiv, Int.reduceMod, decide_true, decide_false, e1, hr, hn]
theorem place_c (R : Ring m [a, b]) (x y : Int) : d_place_of [.val (ringD m [a, b]), .val (.tup [.int x, .int y])] = .ok (.v (.int (plZ m a b (x, y)))) := by
  obtain ⟨h1, h2, h3, h4, h5⟩ := ring_ab R
  have hr : dIx (ringD m [a, b]) (.int 1) = some (.v (.tup [.int (a : Int), .int (b : Int)])) := rfl
  have h0 : dIx (ringD m [a, b]) (.int 0) = some (.v (.int (m : Int))) := rfl
  have q1 : ∀ u v : D, atI [u, v] 0 = some u := fun _ _ => rfl
  have q2 : ∀ u v : D, atI [u, v] 1 = some v := fun _ _ => rfl
  unfold d_place_of f_place_of
  simp (implicitDefEqProofs := false) (disch := omega) only [↓r_seq, ↓r_next, ↓r_if, ↓r_eif, ↓r_set, ↓r_ret, ↓r_retV, ↓r_expr, ↓r_asg, ↓r_par, ↓r_app, ↓r_ext, ↓r_sto, ↓r_or1, ↓r_or, ↓r_and1, ↓r_and, ↓r_vor1, ↓r_vor, ↓r_vand1, ↓r_vand, ↓r_not, ↓r_tru, ↓r_isB, ↓r_eC, ↓r_rd, ↓r_vl, ↓r_rV, ↓r_eV, ↓r_uV, ↓r_uVl, ↓r_sq0, ↓r_sq, ↓r_e2, ↓r_e3, ↓r_call, ↓r_user, ↓r_enot, ↓r_eneg, ↓r_tup, ↓r_lst, ↓r_sl, ↓r_noP, ↓r_aP, ↓r_iOf, ↓r_iF, ↓r_def, ↓r_ref, r_seqNx, r_seqRt, r_seqBk, r_seqCt, r_ifT, r_ifF, r_setV, r_setOt, r_setOl, r_setOd, r_setOs, r_retK, r_retVv, r_retVo, r_asgK, r_tgN, r_tgT, r_tgL, r_tgs0, r_tgs, r_parK, r_ownL, r_ownLo, r_ownD, r_ownDo, r_appK, r_appJ, r_extK, r_extJ, r_stoK, r_stoI, r_stoJ, r_stoL, r_orT, r_orF, r_andT, r_andF, r_vorK, r_vorT, r_vorF, r_vandK, r_vandT, r_vandF, r_notK, r_truK, r_truB, r_truI, r_truL, r_truT, r_truN, r_isBK, r_rdV, r_rdO, r_dV, r_dO, r_valV, r_valL, r_valD, r_rVv, r_rVo, r_rVb, r_eVv, r_uVv, r_uVo, r_uVb, r_uVlK, r_sqK, r_consK, r_opK, r_opJ, r_chK, r_chJ, r_chT, r_chF, r_clK, r_ntK, r_ngK, r_tpK, r_lsK, r_slK, r_slJ, r_slI, r_slL, r_slT, r_aPK, r_sqL, r_sqT, r_sqS, r_rtR, r_rtN, r_refO, r_refE, r_wdK, r_bAdd, r_bSub, r_bMul, r_bDiv, r_bMod, r_bPow, r_cLt, r_cLe, r_cGt, r_cGe, r_cEq, r_cNe, r_ixL, r_ixT, r_of, r_lenL, r_lenT, r_lenS, Pd.R.bind_ok, Pd.R.bind_err, Pd.R.bind_stuck, noE_ok', mul_r, div_i, mod_i, add_i, sub_i, lt_i, le_i, gt_i, ge_i, eq_i, ne_i, pow18, List.cons_append, List.nil_append, List.getElem?_cons_zero, List.getElem?_cons_succ, List.replicate_succ, List.replicate_zero, List.set_cons_zero, List.set_cons_succ, List.length_cons, List.length_nil, if_true, if_false, Bool.not_true, Bool.not_false, Bool.false_eq_true, ↓reduceIte, Nat.reduceAdd, Nat.reduceLeDiff, Nat.reduceLT, Nat.zero_add, Option.map_some, Int.cast_ofNat_Int, Int.natCast_one, Int.natCast_zero, Int.reduceBEq, Int.reduceLT, Int.reduceLE, Int.reduceAdd, Int.reduceSub, Int.reduceMul, Int.reduceNeg, Int.reduceDiv, Int.reduceMod, decide_true, decide_false, hr, h0, q1, q2]
  rfl
theorem place_v (R : Ring m [a, b]) (c : Cel) : d_place_of [.val (ringD m [a, b]), .val (cD c)] = .ok (.v (.int (plZ m a b c))) := place_c R c.1 c.2
theorem lies_v (R : Ring m [a, b]) (x y : Int) : d__law_lies [.val (ringD m [a, b]), .val (.int x), .val (.int y)] = .ok (.v (.int (plZ m a b (x, y)))) := by
  obtain ⟨h1, h2, h3, h4, h5⟩ := ring_ab R
  have hr : dIx (ringD m [a, b]) (.int 1) = some (.v (.tup [.int (a : Int), .int (b : Int)])) := rfl
  have h0 : dIx (ringD m [a, b]) (.int 0) = some (.v (.int (m : Int))) := rfl
  have q1 : ∀ u v : D, atI [u, v] 0 = some u := fun _ _ => rfl
  have q2 : ∀ u v : D, atI [u, v] 1 = some v := fun _ _ => rfl
  unfold d__law_lies f__law_lies
  simp (implicitDefEqProofs := false) (disch := omega) only [↓r_seq, ↓r_next, ↓r_if, ↓r_eif, ↓r_set, ↓r_ret, ↓r_retV, ↓r_expr, ↓r_asg, ↓r_par, ↓r_app, ↓r_ext, ↓r_sto, ↓r_or1, ↓r_or, ↓r_and1, ↓r_and, ↓r_vor1, ↓r_vor, ↓r_vand1, ↓r_vand, ↓r_not, ↓r_tru, ↓r_isB, ↓r_eC, ↓r_rd, ↓r_vl, ↓r_rV, ↓r_eV, ↓r_uV, ↓r_uVl, ↓r_sq0, ↓r_sq, ↓r_e2, ↓r_e3, ↓r_call, ↓r_user, ↓r_enot, ↓r_eneg, ↓r_tup, ↓r_lst, ↓r_sl, ↓r_noP, ↓r_aP, ↓r_iOf, ↓r_iF, ↓r_def, ↓r_ref, r_seqNx, r_seqRt, r_seqBk, r_seqCt, r_ifT, r_ifF, r_setV, r_setOt, r_setOl, r_setOd, r_setOs, r_retK, r_retVv, r_retVo, r_asgK, r_tgN, r_tgT, r_tgL, r_tgs0, r_tgs, r_parK, r_ownL, r_ownLo, r_ownD, r_ownDo, r_appK, r_appJ, r_extK, r_extJ, r_stoK, r_stoI, r_stoJ, r_stoL, r_orT, r_orF, r_andT, r_andF, r_vorK, r_vorT, r_vorF, r_vandK, r_vandT, r_vandF, r_notK, r_truK, r_truB, r_truI, r_truL, r_truT, r_truN, r_isBK, r_rdV, r_rdO, r_dV, r_dO, r_valV, r_valL, r_valD, r_rVv, r_rVo, r_rVb, r_eVv, r_uVv, r_uVo, r_uVb, r_uVlK, r_sqK, r_consK, r_opK, r_opJ, r_chK, r_chJ, r_chT, r_chF, r_clK, r_ntK, r_ngK, r_tpK, r_lsK, r_slK, r_slJ, r_slI, r_slL, r_slT, r_aPK, r_sqL, r_sqT, r_sqS, r_rtR, r_rtN, r_refO, r_refE, r_wdK, r_bAdd, r_bSub, r_bMul, r_bDiv, r_bMod, r_bPow, r_cLt, r_cLe, r_cGt, r_cGe, r_cEq, r_cNe, r_ixL, r_ixT, r_of, r_lenL, r_lenT, r_lenS, Pd.R.bind_ok, Pd.R.bind_err, Pd.R.bind_stuck, noE_ok', mul_r, div_i, mod_i, add_i, sub_i, lt_i, le_i, gt_i, ge_i, eq_i, ne_i, pow18, List.cons_append, List.nil_append, List.getElem?_cons_zero, List.getElem?_cons_succ, List.replicate_succ, List.replicate_zero, List.set_cons_zero, List.set_cons_succ, List.length_cons, List.length_nil, if_true, if_false, Bool.not_true, Bool.not_false, Bool.false_eq_true, ↓reduceIte, Nat.reduceAdd, Nat.reduceLeDiff, Nat.reduceLT, Nat.zero_add, Option.map_some, Int.cast_ofNat_Int, Int.natCast_one, Int.natCast_zero, Int.reduceBEq, Int.reduceLT, Int.reduceLE, Int.reduceAdd, Int.reduceSub, Int.reduceMul, Int.reduceNeg, Int.reduceDiv, Int.reduceMod, decide_true, decide_false, hr, h0, q1, q2]
  rfl
theorem min_n (a b : Nat) : fMin [.int (a : Int), .int (b : Int)] = some (.v (.int ((min a b : Nat) : Int))) := by
  rw [min_i]
  refine congrArg (fun i : Int => some (O.v (.int i))) ?_
  split <;> omega
theorem max_n (a b : Nat) : fMax [.int (a : Int), .int (b : Int)] = some (.v (.int ((max a b : Nat) : Int))) := by
  rw [max_i]
  refine congrArg (fun i : Int => some (O.v (.int i))) ?_
  split <;> omega
end
theorem two_v (c : Int) {most : Int} (h3 : 4 ≤ most) (hm : most ≤ 100) : ∃ m a b, Ring m [a, b] ∧ 4 ≤ m ∧ (m : Int) ≤ most ∧ d__law_two_leaps [.val (.int c), .val (.int most)] = .ok (.v (ringD m [a, b])) := by
  obtain ⟨r0, l0, e0⟩ := draw_i c (k := 0) (b := most - 3) (by omega) (by omega) (by omega) (by omega)
  obtain ⟨m, hme⟩ : ∃ m : Nat, m = 4 + r0 := ⟨_, rfl⟩
  obtain ⟨h, hhe⟩ : ∃ h : Nat, h = m / 2 := ⟨_, rfl⟩
  obtain ⟨r1, l1, e1⟩ := draw_i c (k := 1) (b := (h : Int)) (by omega) (by omega) (by omega) (by omega)
  obtain ⟨r2, l2, e2'⟩ := draw_i c (k := 2) (b := (h : Int) - 1) (by omega) (by omega) (by omega) (by omega)
  obtain ⟨r6, l6, e6⟩ := draw_i c (k := 6) (b := 5) (by omega) (by omega) (by omega) (by omega)
  have q0 : (4 : Int) + (r0 : Int) = (m : Int) := by omega
  have q1 : (m : Int) / 2 = (h : Int) := by omega
  obtain ⟨o, hoe⟩ : ∃ o : Nat, o = 1 + (1 + r1 + r2) % h := ⟨_, rfl⟩
  have q3 : (1 : Int) + (1 + (r1 : Int) + (r2 : Int)) % (h : Int) = (o : Int) := by
    rw [hoe]
    have : (1 : Int) + (r1 : Int) + (r2 : Int) = ((1 + r1 + r2 : Nat) : Int) := by omega
    rw [this]
    omega
  have hh : 0 < (h : Int) := by omega
  have hoh : o ≤ h := by
    have := Nat.mod_lt (1 + r1 + r2) (show 0 < h by omega)
    omega
  have hne : o ≠ 1 + r1 := by
    rw [hoe]
    intro hk
    by_cases g : 1 + r1 + r2 < h
    · rw [Nat.mod_eq_of_lt g] at hk
      omega
    · rw [Nat.mod_eq_sub_mod (by omega), Nat.mod_eq_of_lt (by omega)] at hk
      omega
  unfold d__law_two_leaps f__law_two_leaps
  suffices hs : ∃ p q : Nat, p ≠ q ∧ 0 < p ∧ 0 < q ∧ p ≤ h ∧ q ≤ h ∧ defF 3 f__law_two_leaps [.val (.int c), .val (.int most)] = .ok (.v (.tup [.int (m : Int), .tup [.int ((min p q : Nat) : Int), .int ((max p q : Nat) : Int)]])) by
    obtain ⟨p, q, h1, h2, h3, h4, h5, e⟩ := hs
    exact ⟨m, min p q, max p q, ab_ring (by omega) (by omega) (by omega) (by omega) (by omega), by omega, by omega, e⟩
  by_cases g6 : r6 = 0
  · have z6 : ((r6 : Int) == 0) = true := by rw [g6]; rfl
    by_cases go : o = 1
    · have zo : ((o : Int) == 1) = true := by rw [go]; rfl
      refine ⟨h - 1, h, by omega, by omega, by omega, by omega, by omega, ?_⟩
      unfold f__law_two_leaps
      refine def_rt ?_
      refine seq_nx (Γ1 := [.val (.int c), .val (.int most), .val (.int m), .un, .un]) (by simp (implicitDefEqProofs := false) (disch := omega) only [↓r_seq, ↓r_next, ↓r_if, ↓r_eif, ↓r_set, ↓r_ret, ↓r_retV, ↓r_expr, ↓r_asg, ↓r_par, ↓r_app, ↓r_ext, ↓r_sto, ↓r_or1, ↓r_or, ↓r_and1, ↓r_and, ↓r_vor1, ↓r_vor, ↓r_vand1, ↓r_vand, ↓r_not, ↓r_tru, ↓r_isB, ↓r_eC, ↓r_rd, ↓r_vl, ↓r_rV, ↓r_eV, ↓r_uV, ↓r_uVl, ↓r_sq0, ↓r_sq, ↓r_e2, ↓r_e3, ↓r_call, ↓r_user, ↓r_enot, ↓r_eneg, ↓r_tup, ↓r_lst, ↓r_sl, ↓r_noP, ↓r_aP, ↓r_iOf, ↓r_iF, ↓r_def, ↓r_ref, r_seqNx, r_seqRt, r_seqBk, r_seqCt, r_ifT, r_ifF, r_setV, r_setOt, r_setOl, r_setOd, r_setOs, r_retK, r_retVv, r_retVo, r_asgK, r_tgN, r_tgT, r_tgL, r_tgs0, r_tgs, r_parK, r_ownL, r_ownLo, r_ownD, r_ownDo, r_appK, r_appJ, r_extK, r_extJ, r_stoK, r_stoI, r_stoJ, r_stoL, r_orT, r_orF, r_andT, r_andF, r_vorK, r_vorT, r_vorF, r_vandK, r_vandT, r_vandF, r_notK, r_truK, r_truB, r_truI, r_truL, r_truT, r_truN, r_isBK, r_rdV, r_rdO, r_dV, r_dO, r_valV, r_valL, r_valD, r_rVv, r_rVo, r_rVb, r_eVv, r_uVv, r_uVo, r_uVb, r_uVlK, r_sqK, r_consK, r_opK, r_opJ, r_chK, r_chJ, r_chT, r_chF, r_clK, r_ntK, r_ngK, r_tpK, r_lsK, r_slK, r_slJ, r_slI, r_slL, r_slT, r_aPK, r_sqL, r_sqT, r_sqS, r_rtR, r_rtN, r_refO, r_refE, r_wdK, r_bAdd, r_bSub, r_bMul, r_bDiv, r_bMod, r_bPow, r_cLt, r_cLe, r_cGt, r_cGe, r_cEq, r_cNe, r_ixL, r_ixT, r_of, r_lenL, r_lenT, r_lenS, Pd.R.bind_ok, Pd.R.bind_err, Pd.R.bind_stuck, noE_ok', mul_r, div_i, mod_i, add_i, sub_i, lt_i, le_i, gt_i, ge_i, eq_i, ne_i, pow18, List.cons_append, List.nil_append, List.getElem?_cons_zero, List.getElem?_cons_succ, List.replicate_succ, List.replicate_zero, List.set_cons_zero, List.set_cons_succ, List.length_cons, List.length_nil, if_true, if_false, Bool.not_true, Bool.not_false, Bool.false_eq_true, ↓reduceIte, Nat.reduceAdd, Nat.reduceLeDiff, Nat.reduceLT, Nat.zero_add, Option.map_some, Int.cast_ofNat_Int, Int.natCast_one, Int.natCast_zero, Int.reduceBEq, Int.reduceLT, Int.reduceLE, Int.reduceAdd, Int.reduceSub, Int.reduceMul, Int.reduceNeg, Int.reduceDiv, Int.reduceMod, decide_true, decide_false, e0, q0]) ?_
      refine seq_nx (Γ1 := [.val (.int c), .val (.int most), .val (.int m), .val (.int (1 + (r1 : Int))), .un]) (by simp (implicitDefEqProofs := false) (disch := omega) only [↓r_seq, ↓r_next, ↓r_if, ↓r_eif, ↓r_set, ↓r_ret, ↓r_retV, ↓r_expr, ↓r_asg, ↓r_par, ↓r_app, ↓r_ext, ↓r_sto, ↓r_or1, ↓r_or, ↓r_and1, ↓r_and, ↓r_vor1, ↓r_vor, ↓r_vand1, ↓r_vand, ↓r_not, ↓r_tru, ↓r_isB, ↓r_eC, ↓r_rd, ↓r_vl, ↓r_rV, ↓r_eV, ↓r_uV, ↓r_uVl, ↓r_sq0, ↓r_sq, ↓r_e2, ↓r_e3, ↓r_call, ↓r_user, ↓r_enot, ↓r_eneg, ↓r_tup, ↓r_lst, ↓r_sl, ↓r_noP, ↓r_aP, ↓r_iOf, ↓r_iF, ↓r_def, ↓r_ref, r_seqNx, r_seqRt, r_seqBk, r_seqCt, r_ifT, r_ifF, r_setV, r_setOt, r_setOl, r_setOd, r_setOs, r_retK, r_retVv, r_retVo, r_asgK, r_tgN, r_tgT, r_tgL, r_tgs0, r_tgs, r_parK, r_ownL, r_ownLo, r_ownD, r_ownDo, r_appK, r_appJ, r_extK, r_extJ, r_stoK, r_stoI, r_stoJ, r_stoL, r_orT, r_orF, r_andT, r_andF, r_vorK, r_vorT, r_vorF, r_vandK, r_vandT, r_vandF, r_notK, r_truK, r_truB, r_truI, r_truL, r_truT, r_truN, r_isBK, r_rdV, r_rdO, r_dV, r_dO, r_valV, r_valL, r_valD, r_rVv, r_rVo, r_rVb, r_eVv, r_uVv, r_uVo, r_uVb, r_uVlK, r_sqK, r_consK, r_opK, r_opJ, r_chK, r_chJ, r_chT, r_chF, r_clK, r_ntK, r_ngK, r_tpK, r_lsK, r_slK, r_slJ, r_slI, r_slL, r_slT, r_aPK, r_sqL, r_sqT, r_sqS, r_rtR, r_rtN, r_refO, r_refE, r_wdK, r_bAdd, r_bSub, r_bMul, r_bDiv, r_bMod, r_bPow, r_cLt, r_cLe, r_cGt, r_cGe, r_cEq, r_cNe, r_ixL, r_ixT, r_of, r_lenL, r_lenT, r_lenS, Pd.R.bind_ok, Pd.R.bind_err, Pd.R.bind_stuck, noE_ok', mul_r, div_i, mod_i, add_i, sub_i, lt_i, le_i, gt_i, ge_i, eq_i, ne_i, pow18, List.cons_append, List.nil_append, List.getElem?_cons_zero, List.getElem?_cons_succ, List.replicate_succ, List.replicate_zero, List.set_cons_zero, List.set_cons_succ, List.length_cons, List.length_nil, if_true, if_false, Bool.not_true, Bool.not_false, Bool.false_eq_true, ↓reduceIte, Nat.reduceAdd, Nat.reduceLeDiff, Nat.reduceLT, Nat.zero_add, Option.map_some, Int.cast_ofNat_Int, Int.natCast_one, Int.natCast_zero, Int.reduceBEq, Int.reduceLT, Int.reduceLE, Int.reduceAdd, Int.reduceSub, Int.reduceMul, Int.reduceNeg, Int.reduceDiv, Int.reduceMod, decide_true, decide_false, q1, e1]) ?_
      refine seq_nx (Γ1 := [.val (.int c), .val (.int most), .val (.int m), .val (.int (1 + (r1 : Int))), .val (.int o)]) (by simp (implicitDefEqProofs := false) (disch := omega) only [↓r_seq, ↓r_next, ↓r_if, ↓r_eif, ↓r_set, ↓r_ret, ↓r_retV, ↓r_expr, ↓r_asg, ↓r_par, ↓r_app, ↓r_ext, ↓r_sto, ↓r_or1, ↓r_or, ↓r_and1, ↓r_and, ↓r_vor1, ↓r_vor, ↓r_vand1, ↓r_vand, ↓r_not, ↓r_tru, ↓r_isB, ↓r_eC, ↓r_rd, ↓r_vl, ↓r_rV, ↓r_eV, ↓r_uV, ↓r_uVl, ↓r_sq0, ↓r_sq, ↓r_e2, ↓r_e3, ↓r_call, ↓r_user, ↓r_enot, ↓r_eneg, ↓r_tup, ↓r_lst, ↓r_sl, ↓r_noP, ↓r_aP, ↓r_iOf, ↓r_iF, ↓r_def, ↓r_ref, r_seqNx, r_seqRt, r_seqBk, r_seqCt, r_ifT, r_ifF, r_setV, r_setOt, r_setOl, r_setOd, r_setOs, r_retK, r_retVv, r_retVo, r_asgK, r_tgN, r_tgT, r_tgL, r_tgs0, r_tgs, r_parK, r_ownL, r_ownLo, r_ownD, r_ownDo, r_appK, r_appJ, r_extK, r_extJ, r_stoK, r_stoI, r_stoJ, r_stoL, r_orT, r_orF, r_andT, r_andF, r_vorK, r_vorT, r_vorF, r_vandK, r_vandT, r_vandF, r_notK, r_truK, r_truB, r_truI, r_truL, r_truT, r_truN, r_isBK, r_rdV, r_rdO, r_dV, r_dO, r_valV, r_valL, r_valD, r_rVv, r_rVo, r_rVb, r_eVv, r_uVv, r_uVo, r_uVb, r_uVlK, r_sqK, r_consK, r_opK, r_opJ, r_chK, r_chJ, r_chT, r_chF, r_clK, r_ntK, r_ngK, r_tpK, r_lsK, r_slK, r_slJ, r_slI, r_slL, r_slT, r_aPK, r_sqL, r_sqT, r_sqS, r_rtR, r_rtN, r_refO, r_refE, r_wdK, r_bAdd, r_bSub, r_bMul, r_bDiv, r_bMod, r_bPow, r_cLt, r_cLe, r_cGt, r_cGe, r_cEq, r_cNe, r_ixL, r_ixT, r_of, r_lenL, r_lenT, r_lenS, Pd.R.bind_ok, Pd.R.bind_err, Pd.R.bind_stuck, noE_ok', mul_r, div_i, mod_i, add_i, sub_i, lt_i, le_i, gt_i, ge_i, eq_i, ne_i, pow18, List.cons_append, List.nil_append, List.getElem?_cons_zero, List.getElem?_cons_succ, List.replicate_succ, List.replicate_zero, List.set_cons_zero, List.set_cons_succ, List.length_cons, List.length_nil, if_true, if_false, Bool.not_true, Bool.not_false, Bool.false_eq_true, ↓reduceIte, Nat.reduceAdd, Nat.reduceLeDiff, Nat.reduceLT, Nat.zero_add, Option.map_some, Int.cast_ofNat_Int, Int.natCast_one, Int.natCast_zero, Int.reduceBEq, Int.reduceLT, Int.reduceLE, Int.reduceAdd, Int.reduceSub, Int.reduceMul, Int.reduceNeg, Int.reduceDiv, Int.reduceMod, decide_true, decide_false, q1, e2', q3]) ?_
      have hi : fInt [.bl true] = some (.v (.int 1)) := rfl
      have ha : ∀ u v : D, atI [u, v] 1 = some v := fun _ _ => rfl
      have hs : (h : Int) - 1 = ((h - 1 : Nat) : Int) := by omega
      refine seq_nx (Γ1 := [.val (.int c), .val (.int most), .val (.int m), .val (.int ((h - 1 : Nat) : Int)), .val (.int h)]) ((sIf_t (by simp (implicitDefEqProofs := false) (disch := omega) only [↓r_seq, ↓r_next, ↓r_if, ↓r_eif, ↓r_set, ↓r_ret, ↓r_retV, ↓r_expr, ↓r_asg, ↓r_par, ↓r_app, ↓r_ext, ↓r_sto, ↓r_or1, ↓r_or, ↓r_and1, ↓r_and, ↓r_vor1, ↓r_vor, ↓r_vand1, ↓r_vand, ↓r_not, ↓r_tru, ↓r_isB, ↓r_eC, ↓r_rd, ↓r_vl, ↓r_rV, ↓r_eV, ↓r_uV, ↓r_uVl, ↓r_sq0, ↓r_sq, ↓r_e2, ↓r_e3, ↓r_call, ↓r_user, ↓r_enot, ↓r_eneg, ↓r_tup, ↓r_lst, ↓r_sl, ↓r_noP, ↓r_aP, ↓r_iOf, ↓r_iF, ↓r_def, ↓r_ref, r_seqNx, r_seqRt, r_seqBk, r_seqCt, r_ifT, r_ifF, r_setV, r_setOt, r_setOl, r_setOd, r_setOs, r_retK, r_retVv, r_retVo, r_asgK, r_tgN, r_tgT, r_tgL, r_tgs0, r_tgs, r_parK, r_ownL, r_ownLo, r_ownD, r_ownDo, r_appK, r_appJ, r_extK, r_extJ, r_stoK, r_stoI, r_stoJ, r_stoL, r_orT, r_orF, r_andT, r_andF, r_vorK, r_vorT, r_vorF, r_vandK, r_vandT, r_vandF, r_notK, r_truK, r_truB, r_truI, r_truL, r_truT, r_truN, r_isBK, r_rdV, r_rdO, r_dV, r_dO, r_valV, r_valL, r_valD, r_rVv, r_rVo, r_rVb, r_eVv, r_uVv, r_uVo, r_uVb, r_uVlK, r_sqK, r_consK, r_opK, r_opJ, r_chK, r_chJ, r_chT, r_chF, r_clK, r_ntK, r_ngK, r_tpK, r_lsK, r_slK, r_slJ, r_slI, r_slL, r_slT, r_aPK, r_sqL, r_sqT, r_sqS, r_rtR, r_rtN, r_refO, r_refE, r_wdK, r_bAdd, r_bSub, r_bMul, r_bDiv, r_bMod, r_bPow, r_cLt, r_cLe, r_cGt, r_cGe, r_cEq, r_cNe, r_ixL, r_ixT, r_of, r_lenL, r_lenT, r_lenS, Pd.R.bind_ok, Pd.R.bind_err, Pd.R.bind_stuck, noE_ok', mul_r, div_i, mod_i, add_i, sub_i, lt_i, le_i, gt_i, ge_i, eq_i, ne_i, pow18, List.cons_append, List.nil_append, List.getElem?_cons_zero, List.getElem?_cons_succ, List.replicate_succ, List.replicate_zero, List.set_cons_zero, List.set_cons_succ, List.length_cons, List.length_nil, if_true, if_false, Bool.not_true, Bool.not_false, Bool.false_eq_true, ↓reduceIte, Nat.reduceAdd, Nat.reduceLeDiff, Nat.reduceLT, Nat.zero_add, Option.map_some, Int.cast_ofNat_Int, Int.natCast_one, Int.natCast_zero, Int.reduceBEq, Int.reduceLT, Int.reduceLE, Int.reduceAdd, Int.reduceSub, Int.reduceMul, Int.reduceNeg, Int.reduceDiv, Int.reduceMod, decide_true, decide_false, e6, z6])).trans (by simp (implicitDefEqProofs := false) (disch := omega) only [↓r_seq, ↓r_next, ↓r_if, ↓r_eif, ↓r_set, ↓r_ret, ↓r_retV, ↓r_expr, ↓r_asg, ↓r_par, ↓r_app, ↓r_ext, ↓r_sto, ↓r_or1, ↓r_or, ↓r_and1, ↓r_and, ↓r_vor1, ↓r_vor, ↓r_vand1, ↓r_vand, ↓r_not, ↓r_tru, ↓r_isB, ↓r_eC, ↓r_rd, ↓r_vl, ↓r_rV, ↓r_eV, ↓r_uV, ↓r_uVl, ↓r_sq0, ↓r_sq, ↓r_e2, ↓r_e3, ↓r_call, ↓r_user, ↓r_enot, ↓r_eneg, ↓r_tup, ↓r_lst, ↓r_sl, ↓r_noP, ↓r_aP, ↓r_iOf, ↓r_iF, ↓r_def, ↓r_ref, r_seqNx, r_seqRt, r_seqBk, r_seqCt, r_ifT, r_ifF, r_setV, r_setOt, r_setOl, r_setOd, r_setOs, r_retK, r_retVv, r_retVo, r_asgK, r_tgN, r_tgT, r_tgL, r_tgs0, r_tgs, r_parK, r_ownL, r_ownLo, r_ownD, r_ownDo, r_appK, r_appJ, r_extK, r_extJ, r_stoK, r_stoI, r_stoJ, r_stoL, r_orT, r_orF, r_andT, r_andF, r_vorK, r_vorT, r_vorF, r_vandK, r_vandT, r_vandF, r_notK, r_truK, r_truB, r_truI, r_truL, r_truT, r_truN, r_isBK, r_rdV, r_rdO, r_dV, r_dO, r_valV, r_valL, r_valD, r_rVv, r_rVo, r_rVb, r_eVv, r_uVv, r_uVo, r_uVb, r_uVlK, r_sqK, r_consK, r_opK, r_opJ, r_chK, r_chJ, r_chT, r_chF, r_clK, r_ntK, r_ngK, r_tpK, r_lsK, r_slK, r_slJ, r_slI, r_slL, r_slT, r_aPK, r_sqL, r_sqT, r_sqS, r_rtR, r_rtN, r_refO, r_refE, r_wdK, r_bAdd, r_bSub, r_bMul, r_bDiv, r_bMod, r_bPow, r_cLt, r_cLe, r_cGt, r_cGe, r_cEq, r_cNe, r_ixL, r_ixT, r_of, r_lenL, r_lenT, r_lenS, Pd.R.bind_ok, Pd.R.bind_err, Pd.R.bind_stuck, noE_ok', mul_r, div_i, mod_i, add_i, sub_i, lt_i, le_i, gt_i, ge_i, eq_i, ne_i, pow18, List.cons_append, List.nil_append, List.getElem?_cons_zero, List.getElem?_cons_succ, List.replicate_succ, List.replicate_zero, List.set_cons_zero, List.set_cons_succ, List.length_cons, List.length_nil, if_true, if_false, Bool.not_true, Bool.not_false, Bool.false_eq_true, ↓reduceIte, Nat.reduceAdd, Nat.reduceLeDiff, Nat.reduceLT, Nat.zero_add, Option.map_some, Int.cast_ofNat_Int, Int.natCast_one, Int.natCast_zero, Int.reduceBEq, Int.reduceLT, Int.reduceLE, Int.reduceAdd, Int.reduceSub, Int.reduceMul, Int.reduceNeg, Int.reduceDiv, Int.reduceMod, decide_true, decide_false, q1, zo, hi, ha, hs])) ?_
      have hmi := min_n (h - 1) h
      have hma := max_n (h - 1) h
      simp (implicitDefEqProofs := false) (disch := omega) only [↓r_seq, ↓r_next, ↓r_if, ↓r_eif, ↓r_set, ↓r_ret, ↓r_retV, ↓r_expr, ↓r_asg, ↓r_par, ↓r_app, ↓r_ext, ↓r_sto, ↓r_or1, ↓r_or, ↓r_and1, ↓r_and, ↓r_vor1, ↓r_vor, ↓r_vand1, ↓r_vand, ↓r_not, ↓r_tru, ↓r_isB, ↓r_eC, ↓r_rd, ↓r_vl, ↓r_rV, ↓r_eV, ↓r_uV, ↓r_uVl, ↓r_sq0, ↓r_sq, ↓r_e2, ↓r_e3, ↓r_call, ↓r_user, ↓r_enot, ↓r_eneg, ↓r_tup, ↓r_lst, ↓r_sl, ↓r_noP, ↓r_aP, ↓r_iOf, ↓r_iF, ↓r_def, ↓r_ref, r_seqNx, r_seqRt, r_seqBk, r_seqCt, r_ifT, r_ifF, r_setV, r_setOt, r_setOl, r_setOd, r_setOs, r_retK, r_retVv, r_retVo, r_asgK, r_tgN, r_tgT, r_tgL, r_tgs0, r_tgs, r_parK, r_ownL, r_ownLo, r_ownD, r_ownDo, r_appK, r_appJ, r_extK, r_extJ, r_stoK, r_stoI, r_stoJ, r_stoL, r_orT, r_orF, r_andT, r_andF, r_vorK, r_vorT, r_vorF, r_vandK, r_vandT, r_vandF, r_notK, r_truK, r_truB, r_truI, r_truL, r_truT, r_truN, r_isBK, r_rdV, r_rdO, r_dV, r_dO, r_valV, r_valL, r_valD, r_rVv, r_rVo, r_rVb, r_eVv, r_uVv, r_uVo, r_uVb, r_uVlK, r_sqK, r_consK, r_opK, r_opJ, r_chK, r_chJ, r_chT, r_chF, r_clK, r_ntK, r_ngK, r_tpK, r_lsK, r_slK, r_slJ, r_slI, r_slL, r_slT, r_aPK, r_sqL, r_sqT, r_sqS, r_rtR, r_rtN, r_refO, r_refE, r_wdK, r_bAdd, r_bSub, r_bMul, r_bDiv, r_bMod, r_bPow, r_cLt, r_cLe, r_cGt, r_cGe, r_cEq, r_cNe, r_ixL, r_ixT, r_of, r_lenL, r_lenT, r_lenS, Pd.R.bind_ok, Pd.R.bind_err, Pd.R.bind_stuck, noE_ok', mul_r, div_i, mod_i, add_i, sub_i, lt_i, le_i, gt_i, ge_i, eq_i, ne_i, pow18, List.cons_append, List.nil_append, List.getElem?_cons_zero, List.getElem?_cons_succ, List.replicate_succ, List.replicate_zero, List.set_cons_zero, List.set_cons_succ, List.length_cons, List.length_nil, if_true, if_false, Bool.not_true, Bool.not_false, Bool.false_eq_true, ↓reduceIte, Nat.reduceAdd, Nat.reduceLeDiff, Nat.reduceLT, Nat.zero_add, Option.map_some, Int.cast_ofNat_Int, Int.natCast_one, Int.natCast_zero, Int.reduceBEq, Int.reduceLT, Int.reduceLE, Int.reduceAdd, Int.reduceSub, Int.reduceMul, Int.reduceNeg, Int.reduceDiv, Int.reduceMod, decide_true, decide_false, hmi, hma]
    · have zo : ((o : Int) == 1) = false := by rw [beq_eq_false_iff_ne]; omega
      refine ⟨1, h, by omega, by omega, by omega, by omega, by omega, ?_⟩
      unfold f__law_two_leaps
      refine def_rt ?_
      refine seq_nx (Γ1 := [.val (.int c), .val (.int most), .val (.int m), .un, .un]) (by simp (implicitDefEqProofs := false) (disch := omega) only [↓r_seq, ↓r_next, ↓r_if, ↓r_eif, ↓r_set, ↓r_ret, ↓r_retV, ↓r_expr, ↓r_asg, ↓r_par, ↓r_app, ↓r_ext, ↓r_sto, ↓r_or1, ↓r_or, ↓r_and1, ↓r_and, ↓r_vor1, ↓r_vor, ↓r_vand1, ↓r_vand, ↓r_not, ↓r_tru, ↓r_isB, ↓r_eC, ↓r_rd, ↓r_vl, ↓r_rV, ↓r_eV, ↓r_uV, ↓r_uVl, ↓r_sq0, ↓r_sq, ↓r_e2, ↓r_e3, ↓r_call, ↓r_user, ↓r_enot, ↓r_eneg, ↓r_tup, ↓r_lst, ↓r_sl, ↓r_noP, ↓r_aP, ↓r_iOf, ↓r_iF, ↓r_def, ↓r_ref, r_seqNx, r_seqRt, r_seqBk, r_seqCt, r_ifT, r_ifF, r_setV, r_setOt, r_setOl, r_setOd, r_setOs, r_retK, r_retVv, r_retVo, r_asgK, r_tgN, r_tgT, r_tgL, r_tgs0, r_tgs, r_parK, r_ownL, r_ownLo, r_ownD, r_ownDo, r_appK, r_appJ, r_extK, r_extJ, r_stoK, r_stoI, r_stoJ, r_stoL, r_orT, r_orF, r_andT, r_andF, r_vorK, r_vorT, r_vorF, r_vandK, r_vandT, r_vandF, r_notK, r_truK, r_truB, r_truI, r_truL, r_truT, r_truN, r_isBK, r_rdV, r_rdO, r_dV, r_dO, r_valV, r_valL, r_valD, r_rVv, r_rVo, r_rVb, r_eVv, r_uVv, r_uVo, r_uVb, r_uVlK, r_sqK, r_consK, r_opK, r_opJ, r_chK, r_chJ, r_chT, r_chF, r_clK, r_ntK, r_ngK, r_tpK, r_lsK, r_slK, r_slJ, r_slI, r_slL, r_slT, r_aPK, r_sqL, r_sqT, r_sqS, r_rtR, r_rtN, r_refO, r_refE, r_wdK, r_bAdd, r_bSub, r_bMul, r_bDiv, r_bMod, r_bPow, r_cLt, r_cLe, r_cGt, r_cGe, r_cEq, r_cNe, r_ixL, r_ixT, r_of, r_lenL, r_lenT, r_lenS, Pd.R.bind_ok, Pd.R.bind_err, Pd.R.bind_stuck, noE_ok', mul_r, div_i, mod_i, add_i, sub_i, lt_i, le_i, gt_i, ge_i, eq_i, ne_i, pow18, List.cons_append, List.nil_append, List.getElem?_cons_zero, List.getElem?_cons_succ, List.replicate_succ, List.replicate_zero, List.set_cons_zero, List.set_cons_succ, List.length_cons, List.length_nil, if_true, if_false, Bool.not_true, Bool.not_false, Bool.false_eq_true, ↓reduceIte, Nat.reduceAdd, Nat.reduceLeDiff, Nat.reduceLT, Nat.zero_add, Option.map_some, Int.cast_ofNat_Int, Int.natCast_one, Int.natCast_zero, Int.reduceBEq, Int.reduceLT, Int.reduceLE, Int.reduceAdd, Int.reduceSub, Int.reduceMul, Int.reduceNeg, Int.reduceDiv, Int.reduceMod, decide_true, decide_false, e0, q0]) ?_
      refine seq_nx (Γ1 := [.val (.int c), .val (.int most), .val (.int m), .val (.int (1 + (r1 : Int))), .un]) (by simp (implicitDefEqProofs := false) (disch := omega) only [↓r_seq, ↓r_next, ↓r_if, ↓r_eif, ↓r_set, ↓r_ret, ↓r_retV, ↓r_expr, ↓r_asg, ↓r_par, ↓r_app, ↓r_ext, ↓r_sto, ↓r_or1, ↓r_or, ↓r_and1, ↓r_and, ↓r_vor1, ↓r_vor, ↓r_vand1, ↓r_vand, ↓r_not, ↓r_tru, ↓r_isB, ↓r_eC, ↓r_rd, ↓r_vl, ↓r_rV, ↓r_eV, ↓r_uV, ↓r_uVl, ↓r_sq0, ↓r_sq, ↓r_e2, ↓r_e3, ↓r_call, ↓r_user, ↓r_enot, ↓r_eneg, ↓r_tup, ↓r_lst, ↓r_sl, ↓r_noP, ↓r_aP, ↓r_iOf, ↓r_iF, ↓r_def, ↓r_ref, r_seqNx, r_seqRt, r_seqBk, r_seqCt, r_ifT, r_ifF, r_setV, r_setOt, r_setOl, r_setOd, r_setOs, r_retK, r_retVv, r_retVo, r_asgK, r_tgN, r_tgT, r_tgL, r_tgs0, r_tgs, r_parK, r_ownL, r_ownLo, r_ownD, r_ownDo, r_appK, r_appJ, r_extK, r_extJ, r_stoK, r_stoI, r_stoJ, r_stoL, r_orT, r_orF, r_andT, r_andF, r_vorK, r_vorT, r_vorF, r_vandK, r_vandT, r_vandF, r_notK, r_truK, r_truB, r_truI, r_truL, r_truT, r_truN, r_isBK, r_rdV, r_rdO, r_dV, r_dO, r_valV, r_valL, r_valD, r_rVv, r_rVo, r_rVb, r_eVv, r_uVv, r_uVo, r_uVb, r_uVlK, r_sqK, r_consK, r_opK, r_opJ, r_chK, r_chJ, r_chT, r_chF, r_clK, r_ntK, r_ngK, r_tpK, r_lsK, r_slK, r_slJ, r_slI, r_slL, r_slT, r_aPK, r_sqL, r_sqT, r_sqS, r_rtR, r_rtN, r_refO, r_refE, r_wdK, r_bAdd, r_bSub, r_bMul, r_bDiv, r_bMod, r_bPow, r_cLt, r_cLe, r_cGt, r_cGe, r_cEq, r_cNe, r_ixL, r_ixT, r_of, r_lenL, r_lenT, r_lenS, Pd.R.bind_ok, Pd.R.bind_err, Pd.R.bind_stuck, noE_ok', mul_r, div_i, mod_i, add_i, sub_i, lt_i, le_i, gt_i, ge_i, eq_i, ne_i, pow18, List.cons_append, List.nil_append, List.getElem?_cons_zero, List.getElem?_cons_succ, List.replicate_succ, List.replicate_zero, List.set_cons_zero, List.set_cons_succ, List.length_cons, List.length_nil, if_true, if_false, Bool.not_true, Bool.not_false, Bool.false_eq_true, ↓reduceIte, Nat.reduceAdd, Nat.reduceLeDiff, Nat.reduceLT, Nat.zero_add, Option.map_some, Int.cast_ofNat_Int, Int.natCast_one, Int.natCast_zero, Int.reduceBEq, Int.reduceLT, Int.reduceLE, Int.reduceAdd, Int.reduceSub, Int.reduceMul, Int.reduceNeg, Int.reduceDiv, Int.reduceMod, decide_true, decide_false, q1, e1]) ?_
      refine seq_nx (Γ1 := [.val (.int c), .val (.int most), .val (.int m), .val (.int (1 + (r1 : Int))), .val (.int o)]) (by simp (implicitDefEqProofs := false) (disch := omega) only [↓r_seq, ↓r_next, ↓r_if, ↓r_eif, ↓r_set, ↓r_ret, ↓r_retV, ↓r_expr, ↓r_asg, ↓r_par, ↓r_app, ↓r_ext, ↓r_sto, ↓r_or1, ↓r_or, ↓r_and1, ↓r_and, ↓r_vor1, ↓r_vor, ↓r_vand1, ↓r_vand, ↓r_not, ↓r_tru, ↓r_isB, ↓r_eC, ↓r_rd, ↓r_vl, ↓r_rV, ↓r_eV, ↓r_uV, ↓r_uVl, ↓r_sq0, ↓r_sq, ↓r_e2, ↓r_e3, ↓r_call, ↓r_user, ↓r_enot, ↓r_eneg, ↓r_tup, ↓r_lst, ↓r_sl, ↓r_noP, ↓r_aP, ↓r_iOf, ↓r_iF, ↓r_def, ↓r_ref, r_seqNx, r_seqRt, r_seqBk, r_seqCt, r_ifT, r_ifF, r_setV, r_setOt, r_setOl, r_setOd, r_setOs, r_retK, r_retVv, r_retVo, r_asgK, r_tgN, r_tgT, r_tgL, r_tgs0, r_tgs, r_parK, r_ownL, r_ownLo, r_ownD, r_ownDo, r_appK, r_appJ, r_extK, r_extJ, r_stoK, r_stoI, r_stoJ, r_stoL, r_orT, r_orF, r_andT, r_andF, r_vorK, r_vorT, r_vorF, r_vandK, r_vandT, r_vandF, r_notK, r_truK, r_truB, r_truI, r_truL, r_truT, r_truN, r_isBK, r_rdV, r_rdO, r_dV, r_dO, r_valV, r_valL, r_valD, r_rVv, r_rVo, r_rVb, r_eVv, r_uVv, r_uVo, r_uVb, r_uVlK, r_sqK, r_consK, r_opK, r_opJ, r_chK, r_chJ, r_chT, r_chF, r_clK, r_ntK, r_ngK, r_tpK, r_lsK, r_slK, r_slJ, r_slI, r_slL, r_slT, r_aPK, r_sqL, r_sqT, r_sqS, r_rtR, r_rtN, r_refO, r_refE, r_wdK, r_bAdd, r_bSub, r_bMul, r_bDiv, r_bMod, r_bPow, r_cLt, r_cLe, r_cGt, r_cGe, r_cEq, r_cNe, r_ixL, r_ixT, r_of, r_lenL, r_lenT, r_lenS, Pd.R.bind_ok, Pd.R.bind_err, Pd.R.bind_stuck, noE_ok', mul_r, div_i, mod_i, add_i, sub_i, lt_i, le_i, gt_i, ge_i, eq_i, ne_i, pow18, List.cons_append, List.nil_append, List.getElem?_cons_zero, List.getElem?_cons_succ, List.replicate_succ, List.replicate_zero, List.set_cons_zero, List.set_cons_succ, List.length_cons, List.length_nil, if_true, if_false, Bool.not_true, Bool.not_false, Bool.false_eq_true, ↓reduceIte, Nat.reduceAdd, Nat.reduceLeDiff, Nat.reduceLT, Nat.zero_add, Option.map_some, Int.cast_ofNat_Int, Int.natCast_one, Int.natCast_zero, Int.reduceBEq, Int.reduceLT, Int.reduceLE, Int.reduceAdd, Int.reduceSub, Int.reduceMul, Int.reduceNeg, Int.reduceDiv, Int.reduceMod, decide_true, decide_false, q1, e2', q3]) ?_
      have hi : fInt [.bl false] = some (.v (.int 0)) := rfl
      have ha : ∀ u v : D, atI [u, v] 0 = some u := fun _ _ => rfl
      refine seq_nx (Γ1 := [.val (.int c), .val (.int most), .val (.int m), .val (.int 1), .val (.int h)]) ((sIf_t (by simp (implicitDefEqProofs := false) (disch := omega) only [↓r_seq, ↓r_next, ↓r_if, ↓r_eif, ↓r_set, ↓r_ret, ↓r_retV, ↓r_expr, ↓r_asg, ↓r_par, ↓r_app, ↓r_ext, ↓r_sto, ↓r_or1, ↓r_or, ↓r_and1, ↓r_and, ↓r_vor1, ↓r_vor, ↓r_vand1, ↓r_vand, ↓r_not, ↓r_tru, ↓r_isB, ↓r_eC, ↓r_rd, ↓r_vl, ↓r_rV, ↓r_eV, ↓r_uV, ↓r_uVl, ↓r_sq0, ↓r_sq, ↓r_e2, ↓r_e3, ↓r_call, ↓r_user, ↓r_enot, ↓r_eneg, ↓r_tup, ↓r_lst, ↓r_sl, ↓r_noP, ↓r_aP, ↓r_iOf, ↓r_iF, ↓r_def, ↓r_ref, r_seqNx, r_seqRt, r_seqBk, r_seqCt, r_ifT, r_ifF, r_setV, r_setOt, r_setOl, r_setOd, r_setOs, r_retK, r_retVv, r_retVo, r_asgK, r_tgN, r_tgT, r_tgL, r_tgs0, r_tgs, r_parK, r_ownL, r_ownLo, r_ownD, r_ownDo, r_appK, r_appJ, r_extK, r_extJ, r_stoK, r_stoI, r_stoJ, r_stoL, r_orT, r_orF, r_andT, r_andF, r_vorK, r_vorT, r_vorF, r_vandK, r_vandT, r_vandF, r_notK, r_truK, r_truB, r_truI, r_truL, r_truT, r_truN, r_isBK, r_rdV, r_rdO, r_dV, r_dO, r_valV, r_valL, r_valD, r_rVv, r_rVo, r_rVb, r_eVv, r_uVv, r_uVo, r_uVb, r_uVlK, r_sqK, r_consK, r_opK, r_opJ, r_chK, r_chJ, r_chT, r_chF, r_clK, r_ntK, r_ngK, r_tpK, r_lsK, r_slK, r_slJ, r_slI, r_slL, r_slT, r_aPK, r_sqL, r_sqT, r_sqS, r_rtR, r_rtN, r_refO, r_refE, r_wdK, r_bAdd, r_bSub, r_bMul, r_bDiv, r_bMod, r_bPow, r_cLt, r_cLe, r_cGt, r_cGe, r_cEq, r_cNe, r_ixL, r_ixT, r_of, r_lenL, r_lenT, r_lenS, Pd.R.bind_ok, Pd.R.bind_err, Pd.R.bind_stuck, noE_ok', mul_r, div_i, mod_i, add_i, sub_i, lt_i, le_i, gt_i, ge_i, eq_i, ne_i, pow18, List.cons_append, List.nil_append, List.getElem?_cons_zero, List.getElem?_cons_succ, List.replicate_succ, List.replicate_zero, List.set_cons_zero, List.set_cons_succ, List.length_cons, List.length_nil, if_true, if_false, Bool.not_true, Bool.not_false, Bool.false_eq_true, ↓reduceIte, Nat.reduceAdd, Nat.reduceLeDiff, Nat.reduceLT, Nat.zero_add, Option.map_some, Int.cast_ofNat_Int, Int.natCast_one, Int.natCast_zero, Int.reduceBEq, Int.reduceLT, Int.reduceLE, Int.reduceAdd, Int.reduceSub, Int.reduceMul, Int.reduceNeg, Int.reduceDiv, Int.reduceMod, decide_true, decide_false, e6, z6])).trans (by simp (implicitDefEqProofs := false) (disch := omega) only [↓r_seq, ↓r_next, ↓r_if, ↓r_eif, ↓r_set, ↓r_ret, ↓r_retV, ↓r_expr, ↓r_asg, ↓r_par, ↓r_app, ↓r_ext, ↓r_sto, ↓r_or1, ↓r_or, ↓r_and1, ↓r_and, ↓r_vor1, ↓r_vor, ↓r_vand1, ↓r_vand, ↓r_not, ↓r_tru, ↓r_isB, ↓r_eC, ↓r_rd, ↓r_vl, ↓r_rV, ↓r_eV, ↓r_uV, ↓r_uVl, ↓r_sq0, ↓r_sq, ↓r_e2, ↓r_e3, ↓r_call, ↓r_user, ↓r_enot, ↓r_eneg, ↓r_tup, ↓r_lst, ↓r_sl, ↓r_noP, ↓r_aP, ↓r_iOf, ↓r_iF, ↓r_def, ↓r_ref, r_seqNx, r_seqRt, r_seqBk, r_seqCt, r_ifT, r_ifF, r_setV, r_setOt, r_setOl, r_setOd, r_setOs, r_retK, r_retVv, r_retVo, r_asgK, r_tgN, r_tgT, r_tgL, r_tgs0, r_tgs, r_parK, r_ownL, r_ownLo, r_ownD, r_ownDo, r_appK, r_appJ, r_extK, r_extJ, r_stoK, r_stoI, r_stoJ, r_stoL, r_orT, r_orF, r_andT, r_andF, r_vorK, r_vorT, r_vorF, r_vandK, r_vandT, r_vandF, r_notK, r_truK, r_truB, r_truI, r_truL, r_truT, r_truN, r_isBK, r_rdV, r_rdO, r_dV, r_dO, r_valV, r_valL, r_valD, r_rVv, r_rVo, r_rVb, r_eVv, r_uVv, r_uVo, r_uVb, r_uVlK, r_sqK, r_consK, r_opK, r_opJ, r_chK, r_chJ, r_chT, r_chF, r_clK, r_ntK, r_ngK, r_tpK, r_lsK, r_slK, r_slJ, r_slI, r_slL, r_slT, r_aPK, r_sqL, r_sqT, r_sqS, r_rtR, r_rtN, r_refO, r_refE, r_wdK, r_bAdd, r_bSub, r_bMul, r_bDiv, r_bMod, r_bPow, r_cLt, r_cLe, r_cGt, r_cGe, r_cEq, r_cNe, r_ixL, r_ixT, r_of, r_lenL, r_lenT, r_lenS, Pd.R.bind_ok, Pd.R.bind_err, Pd.R.bind_stuck, noE_ok', mul_r, div_i, mod_i, add_i, sub_i, lt_i, le_i, gt_i, ge_i, eq_i, ne_i, pow18, List.cons_append, List.nil_append, List.getElem?_cons_zero, List.getElem?_cons_succ, List.replicate_succ, List.replicate_zero, List.set_cons_zero, List.set_cons_succ, List.length_cons, List.length_nil, if_true, if_false, Bool.not_true, Bool.not_false, Bool.false_eq_true, ↓reduceIte, Nat.reduceAdd, Nat.reduceLeDiff, Nat.reduceLT, Nat.zero_add, Option.map_some, Int.cast_ofNat_Int, Int.natCast_one, Int.natCast_zero, Int.reduceBEq, Int.reduceLT, Int.reduceLE, Int.reduceAdd, Int.reduceSub, Int.reduceMul, Int.reduceNeg, Int.reduceDiv, Int.reduceMod, decide_true, decide_false, q1, zo, hi, ha])) ?_
      have hmi := min_n 1 h
      have hma := max_n 1 h
      rw [Int.natCast_one] at hmi hma
      simp (implicitDefEqProofs := false) (disch := omega) only [↓r_seq, ↓r_next, ↓r_if, ↓r_eif, ↓r_set, ↓r_ret, ↓r_retV, ↓r_expr, ↓r_asg, ↓r_par, ↓r_app, ↓r_ext, ↓r_sto, ↓r_or1, ↓r_or, ↓r_and1, ↓r_and, ↓r_vor1, ↓r_vor, ↓r_vand1, ↓r_vand, ↓r_not, ↓r_tru, ↓r_isB, ↓r_eC, ↓r_rd, ↓r_vl, ↓r_rV, ↓r_eV, ↓r_uV, ↓r_uVl, ↓r_sq0, ↓r_sq, ↓r_e2, ↓r_e3, ↓r_call, ↓r_user, ↓r_enot, ↓r_eneg, ↓r_tup, ↓r_lst, ↓r_sl, ↓r_noP, ↓r_aP, ↓r_iOf, ↓r_iF, ↓r_def, ↓r_ref, r_seqNx, r_seqRt, r_seqBk, r_seqCt, r_ifT, r_ifF, r_setV, r_setOt, r_setOl, r_setOd, r_setOs, r_retK, r_retVv, r_retVo, r_asgK, r_tgN, r_tgT, r_tgL, r_tgs0, r_tgs, r_parK, r_ownL, r_ownLo, r_ownD, r_ownDo, r_appK, r_appJ, r_extK, r_extJ, r_stoK, r_stoI, r_stoJ, r_stoL, r_orT, r_orF, r_andT, r_andF, r_vorK, r_vorT, r_vorF, r_vandK, r_vandT, r_vandF, r_notK, r_truK, r_truB, r_truI, r_truL, r_truT, r_truN, r_isBK, r_rdV, r_rdO, r_dV, r_dO, r_valV, r_valL, r_valD, r_rVv, r_rVo, r_rVb, r_eVv, r_uVv, r_uVo, r_uVb, r_uVlK, r_sqK, r_consK, r_opK, r_opJ, r_chK, r_chJ, r_chT, r_chF, r_clK, r_ntK, r_ngK, r_tpK, r_lsK, r_slK, r_slJ, r_slI, r_slL, r_slT, r_aPK, r_sqL, r_sqT, r_sqS, r_rtR, r_rtN, r_refO, r_refE, r_wdK, r_bAdd, r_bSub, r_bMul, r_bDiv, r_bMod, r_bPow, r_cLt, r_cLe, r_cGt, r_cGe, r_cEq, r_cNe, r_ixL, r_ixT, r_of, r_lenL, r_lenT, r_lenS, Pd.R.bind_ok, Pd.R.bind_err, Pd.R.bind_stuck, noE_ok', mul_r, div_i, mod_i, add_i, sub_i, lt_i, le_i, gt_i, ge_i, eq_i, ne_i, pow18, List.cons_append, List.nil_append, List.getElem?_cons_zero, List.getElem?_cons_succ, List.replicate_succ, List.replicate_zero, List.set_cons_zero, List.set_cons_succ, List.length_cons, List.length_nil, if_true, if_false, Bool.not_true, Bool.not_false, Bool.false_eq_true, ↓reduceIte, Nat.reduceAdd, Nat.reduceLeDiff, Nat.reduceLT, Nat.zero_add, Option.map_some, Int.cast_ofNat_Int, Int.natCast_one, Int.natCast_zero, Int.reduceBEq, Int.reduceLT, Int.reduceLE, Int.reduceAdd, Int.reduceSub, Int.reduceMul, Int.reduceNeg, Int.reduceDiv, Int.reduceMod, decide_true, decide_false, hmi, hma]
  · have z6 : ((r6 : Int) == 0) = false := by rw [beq_eq_false_iff_ne]; omega
    refine ⟨1 + r1, o, fun e => hne e.symm, by omega, by omega, by omega, hoh, ?_⟩
    unfold f__law_two_leaps
    refine def_rt ?_
    have q5 : (1 : Int) + (r1 : Int) = ((1 + r1 : Nat) : Int) := by omega
    refine seq_nx (Γ1 := [.val (.int c), .val (.int most), .val (.int m), .un, .un]) (by simp (implicitDefEqProofs := false) (disch := omega) only [↓r_seq, ↓r_next, ↓r_if, ↓r_eif, ↓r_set, ↓r_ret, ↓r_retV, ↓r_expr, ↓r_asg, ↓r_par, ↓r_app, ↓r_ext, ↓r_sto, ↓r_or1, ↓r_or, ↓r_and1, ↓r_and, ↓r_vor1, ↓r_vor, ↓r_vand1, ↓r_vand, ↓r_not, ↓r_tru, ↓r_isB, ↓r_eC, ↓r_rd, ↓r_vl, ↓r_rV, ↓r_eV, ↓r_uV, ↓r_uVl, ↓r_sq0, ↓r_sq, ↓r_e2, ↓r_e3, ↓r_call, ↓r_user, ↓r_enot, ↓r_eneg, ↓r_tup, ↓r_lst, ↓r_sl, ↓r_noP, ↓r_aP, ↓r_iOf, ↓r_iF, ↓r_def, ↓r_ref, r_seqNx, r_seqRt, r_seqBk, r_seqCt, r_ifT, r_ifF, r_setV, r_setOt, r_setOl, r_setOd, r_setOs, r_retK, r_retVv, r_retVo, r_asgK, r_tgN, r_tgT, r_tgL, r_tgs0, r_tgs, r_parK, r_ownL, r_ownLo, r_ownD, r_ownDo, r_appK, r_appJ, r_extK, r_extJ, r_stoK, r_stoI, r_stoJ, r_stoL, r_orT, r_orF, r_andT, r_andF, r_vorK, r_vorT, r_vorF, r_vandK, r_vandT, r_vandF, r_notK, r_truK, r_truB, r_truI, r_truL, r_truT, r_truN, r_isBK, r_rdV, r_rdO, r_dV, r_dO, r_valV, r_valL, r_valD, r_rVv, r_rVo, r_rVb, r_eVv, r_uVv, r_uVo, r_uVb, r_uVlK, r_sqK, r_consK, r_opK, r_opJ, r_chK, r_chJ, r_chT, r_chF, r_clK, r_ntK, r_ngK, r_tpK, r_lsK, r_slK, r_slJ, r_slI, r_slL, r_slT, r_aPK, r_sqL, r_sqT, r_sqS, r_rtR, r_rtN, r_refO, r_refE, r_wdK, r_bAdd, r_bSub, r_bMul, r_bDiv, r_bMod, r_bPow, r_cLt, r_cLe, r_cGt, r_cGe, r_cEq, r_cNe, r_ixL, r_ixT, r_of, r_lenL, r_lenT, r_lenS, Pd.R.bind_ok, Pd.R.bind_err, Pd.R.bind_stuck, noE_ok', mul_r, div_i, mod_i, add_i, sub_i, lt_i, le_i, gt_i, ge_i, eq_i, ne_i, pow18, List.cons_append, List.nil_append, List.getElem?_cons_zero, List.getElem?_cons_succ, List.replicate_succ, List.replicate_zero, List.set_cons_zero, List.set_cons_succ, List.length_cons, List.length_nil, if_true, if_false, Bool.not_true, Bool.not_false, Bool.false_eq_true, ↓reduceIte, Nat.reduceAdd, Nat.reduceLeDiff, Nat.reduceLT, Nat.zero_add, Option.map_some, Int.cast_ofNat_Int, Int.natCast_one, Int.natCast_zero, Int.reduceBEq, Int.reduceLT, Int.reduceLE, Int.reduceAdd, Int.reduceSub, Int.reduceMul, Int.reduceNeg, Int.reduceDiv, Int.reduceMod, decide_true, decide_false, e0, q0]) ?_
    refine seq_nx (Γ1 := [.val (.int c), .val (.int most), .val (.int m), .val (.int (1 + (r1 : Int))), .un]) (by simp (implicitDefEqProofs := false) (disch := omega) only [↓r_seq, ↓r_next, ↓r_if, ↓r_eif, ↓r_set, ↓r_ret, ↓r_retV, ↓r_expr, ↓r_asg, ↓r_par, ↓r_app, ↓r_ext, ↓r_sto, ↓r_or1, ↓r_or, ↓r_and1, ↓r_and, ↓r_vor1, ↓r_vor, ↓r_vand1, ↓r_vand, ↓r_not, ↓r_tru, ↓r_isB, ↓r_eC, ↓r_rd, ↓r_vl, ↓r_rV, ↓r_eV, ↓r_uV, ↓r_uVl, ↓r_sq0, ↓r_sq, ↓r_e2, ↓r_e3, ↓r_call, ↓r_user, ↓r_enot, ↓r_eneg, ↓r_tup, ↓r_lst, ↓r_sl, ↓r_noP, ↓r_aP, ↓r_iOf, ↓r_iF, ↓r_def, ↓r_ref, r_seqNx, r_seqRt, r_seqBk, r_seqCt, r_ifT, r_ifF, r_setV, r_setOt, r_setOl, r_setOd, r_setOs, r_retK, r_retVv, r_retVo, r_asgK, r_tgN, r_tgT, r_tgL, r_tgs0, r_tgs, r_parK, r_ownL, r_ownLo, r_ownD, r_ownDo, r_appK, r_appJ, r_extK, r_extJ, r_stoK, r_stoI, r_stoJ, r_stoL, r_orT, r_orF, r_andT, r_andF, r_vorK, r_vorT, r_vorF, r_vandK, r_vandT, r_vandF, r_notK, r_truK, r_truB, r_truI, r_truL, r_truT, r_truN, r_isBK, r_rdV, r_rdO, r_dV, r_dO, r_valV, r_valL, r_valD, r_rVv, r_rVo, r_rVb, r_eVv, r_uVv, r_uVo, r_uVb, r_uVlK, r_sqK, r_consK, r_opK, r_opJ, r_chK, r_chJ, r_chT, r_chF, r_clK, r_ntK, r_ngK, r_tpK, r_lsK, r_slK, r_slJ, r_slI, r_slL, r_slT, r_aPK, r_sqL, r_sqT, r_sqS, r_rtR, r_rtN, r_refO, r_refE, r_wdK, r_bAdd, r_bSub, r_bMul, r_bDiv, r_bMod, r_bPow, r_cLt, r_cLe, r_cGt, r_cGe, r_cEq, r_cNe, r_ixL, r_ixT, r_of, r_lenL, r_lenT, r_lenS, Pd.R.bind_ok, Pd.R.bind_err, Pd.R.bind_stuck, noE_ok', mul_r, div_i, mod_i, add_i, sub_i, lt_i, le_i, gt_i, ge_i, eq_i, ne_i, pow18, List.cons_append, List.nil_append, List.getElem?_cons_zero, List.getElem?_cons_succ, List.replicate_succ, List.replicate_zero, List.set_cons_zero, List.set_cons_succ, List.length_cons, List.length_nil, if_true, if_false, Bool.not_true, Bool.not_false, Bool.false_eq_true, ↓reduceIte, Nat.reduceAdd, Nat.reduceLeDiff, Nat.reduceLT, Nat.zero_add, Option.map_some, Int.cast_ofNat_Int, Int.natCast_one, Int.natCast_zero, Int.reduceBEq, Int.reduceLT, Int.reduceLE, Int.reduceAdd, Int.reduceSub, Int.reduceMul, Int.reduceNeg, Int.reduceDiv, Int.reduceMod, decide_true, decide_false, q1, e1]) ?_
    refine seq_nx (Γ1 := [.val (.int c), .val (.int most), .val (.int m), .val (.int (1 + (r1 : Int))), .val (.int o)]) (by simp (implicitDefEqProofs := false) (disch := omega) only [↓r_seq, ↓r_next, ↓r_if, ↓r_eif, ↓r_set, ↓r_ret, ↓r_retV, ↓r_expr, ↓r_asg, ↓r_par, ↓r_app, ↓r_ext, ↓r_sto, ↓r_or1, ↓r_or, ↓r_and1, ↓r_and, ↓r_vor1, ↓r_vor, ↓r_vand1, ↓r_vand, ↓r_not, ↓r_tru, ↓r_isB, ↓r_eC, ↓r_rd, ↓r_vl, ↓r_rV, ↓r_eV, ↓r_uV, ↓r_uVl, ↓r_sq0, ↓r_sq, ↓r_e2, ↓r_e3, ↓r_call, ↓r_user, ↓r_enot, ↓r_eneg, ↓r_tup, ↓r_lst, ↓r_sl, ↓r_noP, ↓r_aP, ↓r_iOf, ↓r_iF, ↓r_def, ↓r_ref, r_seqNx, r_seqRt, r_seqBk, r_seqCt, r_ifT, r_ifF, r_setV, r_setOt, r_setOl, r_setOd, r_setOs, r_retK, r_retVv, r_retVo, r_asgK, r_tgN, r_tgT, r_tgL, r_tgs0, r_tgs, r_parK, r_ownL, r_ownLo, r_ownD, r_ownDo, r_appK, r_appJ, r_extK, r_extJ, r_stoK, r_stoI, r_stoJ, r_stoL, r_orT, r_orF, r_andT, r_andF, r_vorK, r_vorT, r_vorF, r_vandK, r_vandT, r_vandF, r_notK, r_truK, r_truB, r_truI, r_truL, r_truT, r_truN, r_isBK, r_rdV, r_rdO, r_dV, r_dO, r_valV, r_valL, r_valD, r_rVv, r_rVo, r_rVb, r_eVv, r_uVv, r_uVo, r_uVb, r_uVlK, r_sqK, r_consK, r_opK, r_opJ, r_chK, r_chJ, r_chT, r_chF, r_clK, r_ntK, r_ngK, r_tpK, r_lsK, r_slK, r_slJ, r_slI, r_slL, r_slT, r_aPK, r_sqL, r_sqT, r_sqS, r_rtR, r_rtN, r_refO, r_refE, r_wdK, r_bAdd, r_bSub, r_bMul, r_bDiv, r_bMod, r_bPow, r_cLt, r_cLe, r_cGt, r_cGe, r_cEq, r_cNe, r_ixL, r_ixT, r_of, r_lenL, r_lenT, r_lenS, Pd.R.bind_ok, Pd.R.bind_err, Pd.R.bind_stuck, noE_ok', mul_r, div_i, mod_i, add_i, sub_i, lt_i, le_i, gt_i, ge_i, eq_i, ne_i, pow18, List.cons_append, List.nil_append, List.getElem?_cons_zero, List.getElem?_cons_succ, List.replicate_succ, List.replicate_zero, List.set_cons_zero, List.set_cons_succ, List.length_cons, List.length_nil, if_true, if_false, Bool.not_true, Bool.not_false, Bool.false_eq_true, ↓reduceIte, Nat.reduceAdd, Nat.reduceLeDiff, Nat.reduceLT, Nat.zero_add, Option.map_some, Int.cast_ofNat_Int, Int.natCast_one, Int.natCast_zero, Int.reduceBEq, Int.reduceLT, Int.reduceLE, Int.reduceAdd, Int.reduceSub, Int.reduceMul, Int.reduceNeg, Int.reduceDiv, Int.reduceMod, decide_true, decide_false, q1, e2', q3]) ?_
    refine seq_nx (Γ1 := [.val (.int c), .val (.int most), .val (.int m), .val (.int (1 + (r1 : Int))), .val (.int o)]) (if_no (by simp (implicitDefEqProofs := false) (disch := omega) only [↓r_seq, ↓r_next, ↓r_if, ↓r_eif, ↓r_set, ↓r_ret, ↓r_retV, ↓r_expr, ↓r_asg, ↓r_par, ↓r_app, ↓r_ext, ↓r_sto, ↓r_or1, ↓r_or, ↓r_and1, ↓r_and, ↓r_vor1, ↓r_vor, ↓r_vand1, ↓r_vand, ↓r_not, ↓r_tru, ↓r_isB, ↓r_eC, ↓r_rd, ↓r_vl, ↓r_rV, ↓r_eV, ↓r_uV, ↓r_uVl, ↓r_sq0, ↓r_sq, ↓r_e2, ↓r_e3, ↓r_call, ↓r_user, ↓r_enot, ↓r_eneg, ↓r_tup, ↓r_lst, ↓r_sl, ↓r_noP, ↓r_aP, ↓r_iOf, ↓r_iF, ↓r_def, ↓r_ref, r_seqNx, r_seqRt, r_seqBk, r_seqCt, r_ifT, r_ifF, r_setV, r_setOt, r_setOl, r_setOd, r_setOs, r_retK, r_retVv, r_retVo, r_asgK, r_tgN, r_tgT, r_tgL, r_tgs0, r_tgs, r_parK, r_ownL, r_ownLo, r_ownD, r_ownDo, r_appK, r_appJ, r_extK, r_extJ, r_stoK, r_stoI, r_stoJ, r_stoL, r_orT, r_orF, r_andT, r_andF, r_vorK, r_vorT, r_vorF, r_vandK, r_vandT, r_vandF, r_notK, r_truK, r_truB, r_truI, r_truL, r_truT, r_truN, r_isBK, r_rdV, r_rdO, r_dV, r_dO, r_valV, r_valL, r_valD, r_rVv, r_rVo, r_rVb, r_eVv, r_uVv, r_uVo, r_uVb, r_uVlK, r_sqK, r_consK, r_opK, r_opJ, r_chK, r_chJ, r_chT, r_chF, r_clK, r_ntK, r_ngK, r_tpK, r_lsK, r_slK, r_slJ, r_slI, r_slL, r_slT, r_aPK, r_sqL, r_sqT, r_sqS, r_rtR, r_rtN, r_refO, r_refE, r_wdK, r_bAdd, r_bSub, r_bMul, r_bDiv, r_bMod, r_bPow, r_cLt, r_cLe, r_cGt, r_cGe, r_cEq, r_cNe, r_ixL, r_ixT, r_of, r_lenL, r_lenT, r_lenS, Pd.R.bind_ok, Pd.R.bind_err, Pd.R.bind_stuck, noE_ok', mul_r, div_i, mod_i, add_i, sub_i, lt_i, le_i, gt_i, ge_i, eq_i, ne_i, pow18, List.cons_append, List.nil_append, List.getElem?_cons_zero, List.getElem?_cons_succ, List.replicate_succ, List.replicate_zero, List.set_cons_zero, List.set_cons_succ, List.length_cons, List.length_nil, if_true, if_false, Bool.not_true, Bool.not_false, Bool.false_eq_true, ↓reduceIte, Nat.reduceAdd, Nat.reduceLeDiff, Nat.reduceLT, Nat.zero_add, Option.map_some, Int.cast_ofNat_Int, Int.natCast_one, Int.natCast_zero, Int.reduceBEq, Int.reduceLT, Int.reduceLE, Int.reduceAdd, Int.reduceSub, Int.reduceMul, Int.reduceNeg, Int.reduceDiv, Int.reduceMod, decide_true, decide_false, e6, z6])) ?_
    have hmi := min_n (1 + r1) o
    have hma := max_n (1 + r1) o
    rw [← q5] at hmi hma
    simp (implicitDefEqProofs := false) (disch := omega) only [↓r_seq, ↓r_next, ↓r_if, ↓r_eif, ↓r_set, ↓r_ret, ↓r_retV, ↓r_expr, ↓r_asg, ↓r_par, ↓r_app, ↓r_ext, ↓r_sto, ↓r_or1, ↓r_or, ↓r_and1, ↓r_and, ↓r_vor1, ↓r_vor, ↓r_vand1, ↓r_vand, ↓r_not, ↓r_tru, ↓r_isB, ↓r_eC, ↓r_rd, ↓r_vl, ↓r_rV, ↓r_eV, ↓r_uV, ↓r_uVl, ↓r_sq0, ↓r_sq, ↓r_e2, ↓r_e3, ↓r_call, ↓r_user, ↓r_enot, ↓r_eneg, ↓r_tup, ↓r_lst, ↓r_sl, ↓r_noP, ↓r_aP, ↓r_iOf, ↓r_iF, ↓r_def, ↓r_ref, r_seqNx, r_seqRt, r_seqBk, r_seqCt, r_ifT, r_ifF, r_setV, r_setOt, r_setOl, r_setOd, r_setOs, r_retK, r_retVv, r_retVo, r_asgK, r_tgN, r_tgT, r_tgL, r_tgs0, r_tgs, r_parK, r_ownL, r_ownLo, r_ownD, r_ownDo, r_appK, r_appJ, r_extK, r_extJ, r_stoK, r_stoI, r_stoJ, r_stoL, r_orT, r_orF, r_andT, r_andF, r_vorK, r_vorT, r_vorF, r_vandK, r_vandT, r_vandF, r_notK, r_truK, r_truB, r_truI, r_truL, r_truT, r_truN, r_isBK, r_rdV, r_rdO, r_dV, r_dO, r_valV, r_valL, r_valD, r_rVv, r_rVo, r_rVb, r_eVv, r_uVv, r_uVo, r_uVb, r_uVlK, r_sqK, r_consK, r_opK, r_opJ, r_chK, r_chJ, r_chT, r_chF, r_clK, r_ntK, r_ngK, r_tpK, r_lsK, r_slK, r_slJ, r_slI, r_slL, r_slT, r_aPK, r_sqL, r_sqT, r_sqS, r_rtR, r_rtN, r_refO, r_refE, r_wdK, r_bAdd, r_bSub, r_bMul, r_bDiv, r_bMod, r_bPow, r_cLt, r_cLe, r_cGt, r_cGe, r_cEq, r_cNe, r_ixL, r_ixT, r_of, r_lenL, r_lenT, r_lenS, Pd.R.bind_ok, Pd.R.bind_err, Pd.R.bind_stuck, noE_ok', mul_r, div_i, mod_i, add_i, sub_i, lt_i, le_i, gt_i, ge_i, eq_i, ne_i, pow18, List.cons_append, List.nil_append, List.getElem?_cons_zero, List.getElem?_cons_succ, List.replicate_succ, List.replicate_zero, List.set_cons_zero, List.set_cons_succ, List.length_cons, List.length_nil, if_true, if_false, Bool.not_true, Bool.not_false, Bool.false_eq_true, ↓reduceIte, Nat.reduceAdd, Nat.reduceLeDiff, Nat.reduceLT, Nat.zero_add, Option.map_some, Int.cast_ofNat_Int, Int.natCast_one, Int.natCast_zero, Int.reduceBEq, Int.reduceLT, Int.reduceLE, Int.reduceAdd, Int.reduceSub, Int.reduceMul, Int.reduceNeg, Int.reduceDiv, Int.reduceMod, decide_true, decide_false, hmi, hma]
section
def lsF (g : Nat → List Cel) : Nat → Nat → List Cel
  | 0, _ => []
  | f + 1, n => match g n with
    | [] => lsF g f (n + 1)
    | c :: l => c :: l
end
section
variable {m a b : Nat}
def noC (m a b : Nat) (n : Nat) : List Cel := (szC n).filter fun c => plZ m a b c == 0
def leastC (m a b : Nat) : List Cel := lsF (noC m a b) 101 1
theorem rp_cels {l : List Cel} (hl : l.length ≤ 1000) (h : ∀ c ∈ l, c.1.natAbs < 2 ^ 200 ∧ c.2.natAbs < 2 ^ 200) : rpD (.lst (l.map cD)) := by
  have hd : ∀ d ∈ l.map cD, shwD d = true ∧ depD d ≤ 1 ∧ lenD d ≤ 8020 := by
    intro d hd
    obtain ⟨c, hc, rfl⟩ := List.mem_map.mp hd
    obtain ⟨h1, h2⟩ := h c hc
    have f1 := fl_int h1
    have f2 := fl_int h2
    have h3 := lenDs_le (k := 2000) (ds := [.int c.1, .int c.2]) fun d hd => by
      simp only [List.mem_cons, List.not_mem_nil, or_false] at hd
      rcases hd with rfl | rfl
      · exact f1.2.2
      · exact f2.2.2
    refine ⟨?_, (by decide : (1 : Nat) ≤ 1), ?_⟩
    · unfold cD
      rw [shwD]
      exact shwDs_all fun d hd => by
        simp only [List.mem_cons, List.not_mem_nil, or_false] at hd
        rcases hd with rfl | rfl
        · exact f1.1
        · exact f2.1
    · unfold cD
      rw [lenD]
      simp only [List.length_cons, List.length_nil] at h3
      omega
  have h1 := depDs_all fun d h => (hd d h).2.1
  have h2 := lenDs_le fun d h => (hd d h).2.2
  have h3 : (l.map cD).length * 8022 ≤ 1000 * 8022 := Nat.mul_le_mul_right _ (by rw [List.length_map]; exact hl)
  exact repr_v (by rw [shwD]; exact shwDs_all fun d h => (hd d h).1) (by rw [depD]; omega) (by rw [lenD]; omega)
end
end Pd

set_option Elab.async false
set_option linter.all false
set_option maxRecDepth 100000
set_option maxHeartbeats 1000000
namespace Pr
open PySem PySem.Spec L2 Pd
def f__law_whole : Gm → R Out := sSeq (sRet (vAndF [eCall fIsi (seqR [rVar 0, rd (eC (.ty "int"))]), eNot (rd (eCall fIsi (seqR [rVar 0, rd (eC (.ty "bool"))])))]))
  (sNext)
def d__law_whole : List Sl → R O := defF 0 f__law_whole
def f__law_beside : Gm → R Out := sSeq (sSet false 2 (e2 dIx (rVar 0) (rd (eC (.int 0)))))
  (sSeq (sRet (eSortSet (rd (e2 (dBin .Add) (rd (eLc (iF (rd (e2 dIx (rVar 0) (rd (eC (.int 1)))))) (.nm 3) ((fun _ => .ok true)) (vl (e2 (dBin .Mod) (rd (e2 (dBin .Add) (rVar 1) (rVar 3))) (rVar 2))) ([3]))) (rd (eLc (iF (rd (e2 dIx (rVar 0) (rd (eC (.int 1)))))) (.nm 3) ((fun _ => .ok true)) (vl (e2 (dBin .Mod) (rd (e2 (dBin .Sub) (rVar 1) (rVar 3))) (rVar 2))) ([3])))))))
  (sNext))
def d__law_beside : List Sl → R O := defF 2 f__law_beside
def f__law_off : Gm → R Out := sSeq (sSet true 2 (eDict1 (rVar 1) (vl (eC (.int 0)))))
  (sSeq (sSet false 3 (eLst (seqR [vl (eVar 1)])))
  (sSeq (whR (isB (e2 (dCmp .NotEq) (rVar 3) (rd (eLst (seqR []))))) (sSeq (sSet true 4 (eLst (seqR [])))
  (sSeq (sFor (iF (vl (eVar 3))) (.nm 5) (sSeq (sFor (iF (vl (e2 dIx (rVar 0) (rVar 5)))) (.nm 6) (sSeq (sIf (isB (e2 (dCmp .NotIn) (rVar 6) (rVar 2))) (sSeq (sSto 2 (vl (e2 (dBin .Add) (rd (e2 dIx (rVar 2) (rVar 5))) (rd (eC (.int 1))))) (rVar 6))
  (sSeq (sApp 4 (vl (eVar 6)))
  (sNext))) (sNext))
  (sNext)))
  (sNext)))
  (sSeq ((fun Γ => (sSet false 3 (eVar 4)) (frz [4] Γ)))
  (sNext)))) whN)
  (sSeq (sRetV 2)
  (sNext))))
def d__law_off : List Sl → R O := defF 5 f__law_off
def f__law_come : Gm → R Out := sSeq (sRet (eCall fLen (seqR [rd (eUser d__law_off (seqR [uVal (vl (eLc (iOf rngF1 (seqR [rd (e2 dIx (rVar 0) (rd (eC (.int 0))))])) (.nm 1) ((fun _ => .ok true)) (vl (eUser d__law_beside (seqR [uVar 0, uVar 1]))) ([1]))), uVal (vl (eC (.int 0)))]))])))
  (sNext)
def d__law_come : List Sl → R O := defF 1 f__law_come
end Pr
namespace Pd
open PySem PySem.Spec L2 Pr
def kvD (p : Nat × Nat) : D × D := (.int (p.1 : Int), .int (p.2 : Int))
theorem kv_int (L : List (Nat × Nat)) : intKeys (L.map kvD) := fun p hp => by
  obtain ⟨q, _, rfl⟩ := List.mem_map.mp hp
  exact ⟨_, rfl⟩
theorem key_nat (a b : Nat) : keyEq (.int (a : Int)) (.int (b : Int)) = decide (a = b) := by
  rw [Bool.eq_iff_iff]
  show decide ((a : Int) = (b : Int)) = true ↔ _
  rw [decide_eq_true_eq, decide_eq_true_eq]
  omega
theorem in_kv (L : List (Nat × Nat)) (x : Nat) : inKeys (L.map kvD) (.int (x : Int)) = decide (x ∈ L.map Prod.fst) := by
  induction L with
  | nil => rfl
  | cons p L ih =>
    have : inKeys ((p :: L).map kvD) (.int (x : Int)) = (keyEq (.int (p.1 : Int)) (.int (x : Int)) || inKeys (L.map kvD) (.int (x : Int))) := rfl
    rw [this, ih, key_nat, Bool.eq_iff_iff]
    simp only [List.map_cons, List.mem_cons, Bool.or_eq_true, decide_eq_true_eq]
    exact or_congr ⟨Eq.symm, Eq.symm⟩ Iff.rfl
theorem get_kv : ∀ {L : List (Nat × Nat)} {x t : Nat}, (L.map Prod.fst).Nodup → (x, t) ∈ L → getK (L.map kvD) (.int (x : Int)) = some (.int (t : Int))
  | p :: L, x, t, hn, h => by
    rw [List.map_cons, List.nodup_cons] at hn
    have e : getK ((p :: L).map kvD) (.int (x : Int)) = if keyEq (.int (p.1 : Int)) (.int (x : Int)) = true then some (.int (p.2 : Int)) else getK (L.map kvD) (.int (x : Int)) := by
      unfold getK
      rw [List.map_cons, List.find?_cons]
      show (match keyEq (.int (p.1 : Int)) (.int (x : Int)) with | true => _ | false => _ : Option (D × D)).map _ = _
      cases keyEq (.int (p.1 : Int)) (.int (x : Int)) <;> rfl
    rw [e, key_nat]
    rcases List.mem_cons.mp h with rfl | h
    · rw [if_pos (decide_eq_true rfl)]
    · have : p.1 ≠ x := fun e => hn.1 (e ▸ List.mem_map.mpr ⟨_, h, rfl⟩)
      rw [if_neg (by rw [decide_eq_false this]; exact Bool.false_ne_true)]
      exact get_kv hn.2 h
theorem notin_kv (L : List (Nat × Nat)) (x : Nat) : dInO true (.int (x : Int)) (.dct (L.map kvD)) = some (.v (.bl (!decide (x ∈ L.map Prod.fst)))) := by
  unfold dInO dIn
  dsimp only
  rw [if_pos ⟨rfl, kind_int (kv_int L) _⟩, in_kv]
  cases decide (x ∈ L.map Prod.fst) <;> rfl
theorem r_cNotIn {a b : D} : dCmp .NotIn a b = dInO true a b := rfl
theorem put_kv {L : List (Nat × Nat)} {x : Nat} (t : Nat) (h : x ∉ L.map Prod.fst) : putD (L.map kvD) (.int (x : Int)) (.int (t : Int)) = (L ++ [(x, t)]).map kvD := by
  unfold putD
  rw [in_kv, decide_eq_false h, if_neg Bool.false_ne_true, List.map_append]
  rfl
def newN : List Nat → List Nat → List Nat
  | [], _ => []
  | o :: os, K => if o ∈ K then newN os K else o :: newN os (K ++ [o])
theorem newN_app : ∀ (a b K : List Nat), newN (a ++ b) K = newN a K ++ newN b (K ++ newN a K)
  | [], b, K => by
    rw [newN, List.nil_append, List.append_nil, List.nil_append]
  | o :: a, b, K => by
    rw [List.cons_append, newN, newN]
    split
    · exact newN_app a b K
    · rw [newN_app a b (K ++ [o]), List.cons_append, List.append_assoc]
      rfl
theorem newN_one (x : Nat) (K : List Nat) : newN [x] K = if x ∈ K then [] else [x] := by
  rw [newN, newN, newN]
theorem mem_newN {q : Nat} : ∀ (os K : List Nat), q ∈ newN os K ↔ q ∈ os ∧ q ∉ K
  | [], K => by
    rw [newN]
    exact ⟨fun h => absurd h List.not_mem_nil, fun h => absurd h.1 List.not_mem_nil⟩
  | o :: os, K => by
    rw [newN]
    by_cases h : o ∈ K
    · rw [if_pos h, mem_newN os K, List.mem_cons]
      refine ⟨fun x => ⟨.inr x.1, x.2⟩, fun x => ⟨x.1.resolve_left fun e => x.2 (e ▸ h), x.2⟩⟩
    · rw [if_neg h, List.mem_cons, mem_newN os (K ++ [o]), List.mem_cons, List.mem_append, List.mem_singleton]
      constructor
      · rintro (rfl | ⟨h1, h2⟩)
        · exact ⟨.inl rfl, h⟩
        · exact ⟨.inr h1, fun k => h2 (.inl k)⟩
      · rintro ⟨h1, h2⟩
        by_cases e : q = o
        · exact .inl e
        · exact .inr ⟨h1.resolve_left e, fun k => k.elim h2 e⟩
theorem nodup_newN : ∀ (os K : List Nat), (newN os K).Nodup
  | [], K => by rw [newN]; exact List.nodup_nil
  | o :: os, K => by
    rw [newN]
    split
    · exact nodup_newN os K
    · refine List.nodup_cons.mpr ⟨fun h => ?_, nodup_newN os _⟩
      exact ((mem_newN os _).mp h).2 (List.mem_append_right _ (List.mem_singleton.mpr rfl))
def adjN (N : List (List Nat)) (p : Nat) : List Nat := N.getD p []
def WkN (N : List (List Nat)) : Nat → Nat → Nat → Prop
  | 0, p, q => p = q
  | n + 1, p, q => ∃ r, WkN N n p r ∧ q ∈ adjN N r
def IsN (N : List (List Nat)) (p q n : Nat) : Prop := WkN N n p q ∧ ∀ k, k < n → ¬ WkN N k p q
theorem wkN_min {N : List (List Nat)} {p : Nat} : ∀ (n : Nat) {q : Nat}, WkN N n p q → ∃ t, t ≤ n ∧ IsN N p q t := by
  intro n
  induction n using Nat.strongRecOn with
  | ind n ih =>
    intro q h
    by_cases hk : ∃ k, k < n ∧ WkN N k p q
    · obtain ⟨k, hk, h⟩ := hk
      obtain ⟨t, ht, hi⟩ := ih k hk h
      exact ⟨t, by omega, hi⟩
    · exact ⟨n, Nat.le_refl _, h, fun k hk' h' => hk ⟨k, hk', h'⟩⟩
theorem isN_unique {N : List (List Nat)} {p q s t : Nat} (h : IsN N p q s) (h' : IsN N p q t) : s = t := by
  by_cases g1 : s < t
  · exact absurd h.1 (h'.2 s g1)
  · by_cases g2 : t < s
    · exact absurd h'.1 (h.2 t g2)
    · omega
theorem isN_pred {N : List (List Nat)} {p q t : Nat} (h : IsN N p q (t + 1)) : ∃ r, IsN N p r t ∧ q ∈ adjN N r := by
  obtain ⟨r, hr, hq⟩ := h.1
  exact ⟨r, ⟨hr, fun k hk hw => h.2 (k + 1) (by omega) ⟨r, hw, hq⟩⟩, hq⟩
structure Lvl (N : List (List Nat)) (p s : Nat) (here : List Nat) (L : List (Nat × Nat)) : Prop where
  nd : (L.map Prod.fst).Nodup
  found : ∀ q t, (q, t) ∈ L ↔ IsN N p q t ∧ t ≤ s
  now : ∀ q, q ∈ here ↔ IsN N p q s
theorem Lvl.keys {N : List (List Nat)} {p s : Nat} {here : List Nat} {L : List (Nat × Nat)} (I : Lvl N p s here L) {q : Nat} : q ∈ L.map Prod.fst ↔ ∃ t, t ≤ s ∧ IsN N p q t := by
  rw [List.mem_map]
  constructor
  · rintro ⟨⟨q, t⟩, h, rfl⟩
    have := (I.found q t).mp h
    exact ⟨t, this.2, this.1⟩
  · rintro ⟨t, h1, h2⟩
    exact ⟨(q, t), (I.found q t).mpr ⟨h2, h1⟩, rfl⟩
theorem Lvl.next {N : List (List Nat)} {p s : Nat} {here : List Nat} {L : List (Nat × Nat)} (I : Lvl N p s here L) : Lvl N p (s + 1) (newN (here.flatMap (adjN N)) (L.map Prod.fst)) (L ++ (newN (here.flatMap (adjN N)) (L.map Prod.fst)).map fun q => (q, s + 1)) := by
  have new : ∀ q, q ∈ newN (here.flatMap (adjN N)) (L.map Prod.fst) ↔ IsN N p q (s + 1) := by
    intro q
    rw [mem_newN, List.mem_flatMap, I.keys]
    constructor
    · rintro ⟨⟨h, hh, hq⟩, hk⟩
      have hd := (I.now h).mp hh
      refine ⟨⟨h, hd.1, hq⟩, fun k hks hw => ?_⟩
      obtain ⟨t, ht, hi⟩ := wkN_min k hw
      exact hk ⟨t, by omega, hi⟩
    · intro hd
      obtain ⟨r, hr, hq⟩ := isN_pred hd
      refine ⟨⟨r, (I.now r).mpr hr, hq⟩, ?_⟩
      rintro ⟨t, ht, hi⟩
      have := isN_unique hi hd
      omega
  refine ⟨?_, fun q t => ?_, new⟩
  · rw [List.map_append, List.map_map, show (Prod.fst ∘ fun q => (q, s + 1)) = (id : Nat → Nat) from rfl, List.map_id]
    refine List.nodup_append.mpr ⟨I.nd, nodup_newN _ _, fun a ha b hb e => ?_⟩
    subst e
    exact ((mem_newN _ _).mp hb).2 ha
  · rw [List.mem_append, I.found, List.mem_map]
    constructor
    · rintro (h | ⟨q', h, e⟩)
      · exact ⟨h.1, by omega⟩
      · cases e
        exact ⟨(new q).mp h, Nat.le_refl _⟩
    · rintro ⟨h1, h2⟩
      by_cases g : t ≤ s
      · exact .inl ⟨h1, g⟩
      · have : t = s + 1 := by omega
        subst this
        exact .inr ⟨q, (new q).mpr h1, rfl⟩
theorem Lvl.last {N : List (List Nat)} {p s : Nat} {L : List (Nat × Nat)} (I : Lvl N p s [] L) (q t : Nat) : (q, t) ∈ L ↔ IsN N p q t := by
  rw [I.found]
  refine ⟨fun h => h.1, fun h => ⟨h, ?_⟩⟩
  have none : ∀ k q, ¬ IsN N p q (s + k) := by
    intro k
    induction k with
    | zero => exact fun q h => absurd ((I.now q).mpr h) List.not_mem_nil
    | succ k ih =>
      intro q h
      obtain ⟨r, hr, _⟩ := isN_pred (t := s + k) h
      exact ih r hr
  by_cases g : t ≤ s
  · exact g
  · have := none (t - s) q
    rw [show s + (t - s) = t by omega] at this
    exact absurd h this
theorem lvl_start (N : List (List Nat)) (p : Nat) : Lvl N p 0 [p] [(p, 0)] := by
  refine ⟨by simp, fun q t => ?_, fun q => ?_⟩
  · rw [List.mem_singleton]
    constructor
    · intro e
      cases e
      exact ⟨⟨rfl, fun k hk => by omega⟩, Nat.le_refl _⟩
    · rintro ⟨h, ht⟩
      obtain rfl : t = 0 := by omega
      have : p = q := h.1
      rw [this]
  · rw [List.mem_singleton]
    constructor
    · rintro rfl
      exact ⟨rfl, fun k hk => by omega⟩
    · intro h
      exact h.1.symm
section
variable {N : List (List Nat)}
theorem wkN_lt (hN : ∀ l ∈ N, ∀ q ∈ l, q < N.length) {p : Nat} (hp : p < N.length) : ∀ {n q : Nat}, WkN N n p q → q < N.length
  | 0, q, h => by
    have : p = q := h
    omega
  | n + 1, q, h => by
    obtain ⟨r, hr, hq⟩ := h
    have hrl := wkN_lt hN hp hr
    unfold adjN at hq
    rw [List.getD_eq_getElem?_getD, List.getElem?_eq_getElem hrl] at hq
    exact hN _ (List.getElem_mem hrl) q hq
theorem Lvl.len (hN : ∀ l ∈ N, ∀ q ∈ l, q < N.length) {p : Nat} (hp : p < N.length) {s : Nat} {here : List Nat} {L : List (Nat × Nat)} (I : Lvl N p s here L) : L.length ≤ N.length := by
  have h := nodup_len (L.map Prod.fst) (List.range N.length) I.nd fun q hq => by
    obtain ⟨t, _, h⟩ := I.keys.mp hq
    exact List.mem_range.mpr (wkN_lt hN hp h.1)
  rw [List.length_map, List.length_range] at h
  exact h
def nLD (N : List (List Nat)) : D := .lst (N.map fun l => .lst (nD l))
theorem ix_nLD {p : Nat} (hp : p < N.length) : dIx (nLD N) (.int (p : Int)) = some (.v (.lst (nD (adjN N p)))) := by
  unfold dIx nLD
  dsimp only
  have : atI (N.map fun l => D.lst (nD l)) (p : Int) = some (.lst (nD (adjN N p))) := by
    refine L2.atI_nat ?_
    unfold adjN
    rw [List.getElem?_map, List.getD_eq_getElem?_getD, List.getElem?_eq_getElem hp]
    rfl
  rw [this]
  rfl
theorem off_body (hN : ∀ l ∈ N, ∀ q ∈ l, q < N.length) (hl : N.length ≤ 1000) {p s : Nat} (hp : p < N.length) (s1 : Sl) {here : List Nat} {L : List (Nat × Nat)} (I : Lvl N p s here L) (s4 s5 s6 : Sl) :
    ∃ s4' s5' s6', (sSeq (sSet true 4 (eLst (seqR []))) (sSeq (sFor (iF (vl (eVar 3))) (.nm 5) (sSeq (sFor (iF (vl (e2 dIx (rVar 0) (rVar 5)))) (.nm 6) (sSeq (sIf (isB (e2 (dCmp .NotIn) (rVar 6) (rVar 2))) (sSeq (sSto 2 (vl (e2 (dBin .Add) (rd (e2 dIx (rVar 2) (rVar 5))) (rd (eC (.int 1))))) (rVar 6)) (sSeq (sApp 4 (vl (eVar 6))) (sNext))) (sNext)) (sNext))) (sNext))) (sSeq ((fun Γ => (sSet false 3 (eVar 4)) (frz [4] Γ))) (sNext)))) [.val (nLD N), s1, .own (.dct (L.map kvD)), .val (.lst (nD here)), s4, s5, s6] = .ok (.nx [.val (nLD N), s1, .own (.dct ((L ++ (newN (here.flatMap (adjN N)) (L.map Prod.fst)).map fun q => (q, s + 1)).map kvD)), .val (.lst (nD (newN (here.flatMap (adjN N)) (L.map Prod.fst)))), s4', s5', s6']) := by
  have hK := fun {x t : Nat} (h : (x, t) ∈ L) => h
  have hL := I.len hN hp
  have hlen := (I.next).len hN hp
  have hsub : ∀ w : List Nat, (∀ q ∈ w, q ∈ here.flatMap (adjN N)) → (newN w (L.map Prod.fst)).length ≤ (newN (here.flatMap (adjN N)) (L.map Prod.fst)).length := fun w hw =>
    nodup_len _ _ (nodup_newN _ _) fun a ha => (mem_newN _ _).mpr ⟨hw a ((mem_newN _ _).mp ha).1, ((mem_newN _ _).mp ha).2⟩
  rw [List.length_append, List.length_map] at hlen
  suffices hg : Go ((sSeq (sSet true 4 (eLst (seqR []))) (sSeq (sFor (iF (vl (eVar 3))) (.nm 5) (sSeq (sFor (iF (vl (e2 dIx (rVar 0) (rVar 5)))) (.nm 6) (sSeq (sIf (isB (e2 (dCmp .NotIn) (rVar 6) (rVar 2))) (sSeq (sSto 2 (vl (e2 (dBin .Add) (rd (e2 dIx (rVar 2) (rVar 5))) (rd (eC (.int 1))))) (rVar 6)) (sSeq (sApp 4 (vl (eVar 6))) (sNext))) (sNext)) (sNext))) (sNext))) (sSeq ((fun Γ => (sSet false 3 (eVar 4)) (frz [4] Γ))) (sNext)))) [.val (nLD N), s1, .own (.dct (L.map kvD)), .val (.lst (nD here)), s4, s5, s6]) (fun Γ => ∃ s4' s5' s6', Γ = [.val (nLD N), s1, .own (.dct ((L ++ (newN (here.flatMap (adjN N)) (L.map Prod.fst)).map fun q => (q, s + 1)).map kvD)), .val (.lst (nD (newN (here.flatMap (adjN N)) (L.map Prod.fst)))), s4', s5', s6']) by
    obtain ⟨_, e, s4', s5', s6', rfl⟩ := hg
    exact ⟨_, _, _, e⟩
  refine go_seq (Γ1 := [.val (nLD N), s1, .own (.dct (L.map kvD)), .val (.lst (nD here)), .own (.lst []), s5, s6]) (by simp (implicitDefEqProofs := false) (disch := omega) only [↓r_seq, ↓r_next, ↓r_if, ↓r_eif, ↓r_set, ↓r_ret, ↓r_retV, ↓r_expr, ↓r_asg, ↓r_par, ↓r_app, ↓r_ext, ↓r_sto, ↓r_or1, ↓r_or, ↓r_and1, ↓r_and, ↓r_vor1, ↓r_vor, ↓r_vand1, ↓r_vand, ↓r_not, ↓r_tru, ↓r_isB, ↓r_eC, ↓r_rd, ↓r_vl, ↓r_rV, ↓r_eV, ↓r_uV, ↓r_uVl, ↓r_sq0, ↓r_sq, ↓r_e2, ↓r_e3, ↓r_call, ↓r_user, ↓r_enot, ↓r_eneg, ↓r_tup, ↓r_lst, ↓r_sl, ↓r_noP, ↓r_aP, ↓r_iOf, ↓r_iF, ↓r_def, ↓r_ref, r_seqNx, r_seqRt, r_seqBk, r_seqCt, r_ifT, r_ifF, r_setV, r_setOt, r_setOl, r_setOd, r_setOs, r_retK, r_retVv, r_retVo, r_asgK, r_tgN, r_tgT, r_tgL, r_tgs0, r_tgs, r_parK, r_ownL, r_ownLo, r_ownD, r_ownDo, r_appK, r_appJ, r_extK, r_extJ, r_stoK, r_stoI, r_stoJ, r_stoL, r_orT, r_orF, r_andT, r_andF, r_vorK, r_vorT, r_vorF, r_vandK, r_vandT, r_vandF, r_notK, r_truK, r_truB, r_truI, r_truL, r_truT, r_truN, r_isBK, r_rdV, r_rdO, r_dV, r_dO, r_valV, r_valL, r_valD, r_rVv, r_rVo, r_rVb, r_eVv, r_uVv, r_uVo, r_uVb, r_uVlK, r_sqK, r_consK, r_opK, r_opJ, r_chK, r_chJ, r_chT, r_chF, r_clK, r_ntK, r_ngK, r_tpK, r_lsK, r_slK, r_slJ, r_slI, r_slL, r_slT, r_aPK, r_sqL, r_sqT, r_sqS, r_rtR, r_rtN, r_refO, r_refE, r_wdK, r_bAdd, r_bSub, r_bMul, r_bDiv, r_bMod, r_bPow, r_cLt, r_cLe, r_cGt, r_cGe, r_cEq, r_cNe, r_ixL, r_ixT, r_of, r_lenL, r_lenT, r_lenS, Pd.R.bind_ok, Pd.R.bind_err, Pd.R.bind_stuck, noE_ok', mul_r, div_i, mod_i, add_i, sub_i, lt_i, le_i, gt_i, ge_i, eq_i, ne_i, pow18, List.cons_append, List.nil_append, List.getElem?_cons_zero, List.getElem?_cons_succ, List.replicate_succ, List.replicate_zero, List.set_cons_zero, List.set_cons_succ, List.length_cons, List.length_nil, if_true, if_false, Bool.not_true, Bool.not_false, Bool.false_eq_true, ↓reduceIte, Nat.reduceAdd, Nat.reduceLeDiff, Nat.reduceLT, Nat.zero_add, Option.map_some, Int.cast_ofNat_Int, Int.natCast_one, Int.natCast_zero, Int.reduceBEq, Int.reduceLT, Int.reduceLE, Int.reduceAdd, Int.reduceSub, Int.reduceMul, Int.reduceNeg, Int.reduceDiv, Int.reduceMod, decide_true, decide_false]) ?_
  refine go_seq' (fun Γ => ∃ s5 s6, Γ = [.val (nLD N), s1, .own (.dct ((L ++ (newN (here.flatMap (adjN N)) (L.map Prod.fst)).map fun q => (q, s + 1)).map kvD)), .val (.lst (nD here)), .own (.lst (nD (newN (here.flatMap (adjN N)) (L.map Prod.fst)))), s5, s6]) ?_ ?_
  · refine go_of (l := here) (φ := fun n : Nat => .int (n : Int)) (fun a Γ => ∃ s5 s6, Γ = [.val (nLD N), s1, .own (.dct ((L ++ (newN (a.flatMap (adjN N)) (L.map Prod.fst)).map fun q => (q, s + 1)).map kvD)), .val (.lst (nD here)), .own (.lst (nD (newN (a.flatMap (adjN N)) (L.map Prod.fst)))), s5, s6]) (by
      simp (implicitDefEqProofs := false) (disch := omega) only [↓r_seq, ↓r_next, ↓r_if, ↓r_eif, ↓r_set, ↓r_ret, ↓r_retV, ↓r_expr, ↓r_asg, ↓r_par, ↓r_app, ↓r_ext, ↓r_sto, ↓r_or1, ↓r_or, ↓r_and1, ↓r_and, ↓r_vor1, ↓r_vor, ↓r_vand1, ↓r_vand, ↓r_not, ↓r_tru, ↓r_isB, ↓r_eC, ↓r_rd, ↓r_vl, ↓r_rV, ↓r_eV, ↓r_uV, ↓r_uVl, ↓r_sq0, ↓r_sq, ↓r_e2, ↓r_e3, ↓r_call, ↓r_user, ↓r_enot, ↓r_eneg, ↓r_tup, ↓r_lst, ↓r_sl, ↓r_noP, ↓r_aP, ↓r_iOf, ↓r_iF, ↓r_def, ↓r_ref, r_seqNx, r_seqRt, r_seqBk, r_seqCt, r_ifT, r_ifF, r_setV, r_setOt, r_setOl, r_setOd, r_setOs, r_retK, r_retVv, r_retVo, r_asgK, r_tgN, r_tgT, r_tgL, r_tgs0, r_tgs, r_parK, r_ownL, r_ownLo, r_ownD, r_ownDo, r_appK, r_appJ, r_extK, r_extJ, r_stoK, r_stoI, r_stoJ, r_stoL, r_orT, r_orF, r_andT, r_andF, r_vorK, r_vorT, r_vorF, r_vandK, r_vandT, r_vandF, r_notK, r_truK, r_truB, r_truI, r_truL, r_truT, r_truN, r_isBK, r_rdV, r_rdO, r_dV, r_dO, r_valV, r_valL, r_valD, r_rVv, r_rVo, r_rVb, r_eVv, r_uVv, r_uVo, r_uVb, r_uVlK, r_sqK, r_consK, r_opK, r_opJ, r_chK, r_chJ, r_chT, r_chF, r_clK, r_ntK, r_ngK, r_tpK, r_lsK, r_slK, r_slJ, r_slI, r_slL, r_slT, r_aPK, r_sqL, r_sqT, r_sqS, r_rtR, r_rtN, r_refO, r_refE, r_wdK, r_bAdd, r_bSub, r_bMul, r_bDiv, r_bMod, r_bPow, r_cLt, r_cLe, r_cGt, r_cGe, r_cEq, r_cNe, r_ixL, r_ixT, r_of, r_lenL, r_lenT, r_lenS, Pd.R.bind_ok, Pd.R.bind_err, Pd.R.bind_stuck, noE_ok', mul_r, div_i, mod_i, add_i, sub_i, lt_i, le_i, gt_i, ge_i, eq_i, ne_i, pow18, List.cons_append, List.nil_append, List.getElem?_cons_zero, List.getElem?_cons_succ, List.replicate_succ, List.replicate_zero, List.set_cons_zero, List.set_cons_succ, List.length_cons, List.length_nil, if_true, if_false, Bool.not_true, Bool.not_false, Bool.false_eq_true, ↓reduceIte, Nat.reduceAdd, Nat.reduceLeDiff, Nat.reduceLT, Nat.zero_add, Option.map_some, Int.cast_ofNat_Int, Int.natCast_one, Int.natCast_zero, Int.reduceBEq, Int.reduceLT, Int.reduceLE, Int.reduceAdd, Int.reduceSub, Int.reduceMul, Int.reduceNeg, Int.reduceDiv, Int.reduceMod, decide_true, decide_false]
      rfl) ⟨_, _, by rw [List.flatMap_nil, newN, List.map_nil, List.append_nil]; rfl⟩ ?_
    rintro a c x Γ e ⟨s5, s6, rfl⟩
    have hx : x ∈ here := by rw [e]; exact List.mem_append_right _ (List.mem_cons_self ..)
    have hxs := (I.now x).mp hx
    have hxL := (I.found x s).mpr ⟨hxs, Nat.le_refl _⟩
    have hxl := wkN_lt hN hp hxs.1
    have ei := ix_nLD hxl
    have hfa : (a ++ [x]).flatMap (adjN N) = a.flatMap (adjN N) ++ adjN N x := by
      rw [List.flatMap_append, List.flatMap_cons, List.flatMap_nil, List.append_nil]
    have hhere : here.flatMap (adjN N) = a.flatMap (adjN N) ++ (adjN N x ++ c.flatMap (adjN N)) := by
      rw [e, List.flatMap_append, List.flatMap_cons]
    rw [hfa]
    refine go_seq' (fun Γ => ∃ s5 s6, Γ = [.val (nLD N), s1, .own (.dct ((L ++ (newN (a.flatMap (adjN N) ++ adjN N x) (L.map Prod.fst)).map fun q => (q, s + 1)).map kvD)), .val (.lst (nD here)), .own (.lst (nD (newN (a.flatMap (adjN N) ++ adjN N x) (L.map Prod.fst)))), s5, s6]) ?_ ?_
    · have key := go_of (fi := iF (vl (e2 dIx (rVar 0) (rVar 5)))) (t := 6) (b := (sSeq (sIf (isB (e2 (dCmp .NotIn) (rVar 6) (rVar 2))) (sSeq (sSto 2 (vl (e2 (dBin .Add) (rd (e2 dIx (rVar 2) (rVar 5))) (rd (eC (.int 1))))) (rVar 6)) (sSeq (sApp 4 (vl (eVar 6))) (sNext))) (sNext)) (sNext))) (l := adjN N x) (φ := fun n : Nat => .int (n : Int)) (Γ := [.val (nLD N), s1, .own (.dct ((L ++ (newN (a.flatMap (adjN N)) (L.map Prod.fst)).map fun q => (q, s + 1)).map kvD)), .val (.lst (nD here)), .own (.lst (nD (newN (a.flatMap (adjN N)) (L.map Prod.fst)))), .val (.int x), s6]) (fun b Γ => ∃ s6, Γ = [.val (nLD N), s1, .own (.dct ((L ++ (newN (a.flatMap (adjN N) ++ b) (L.map Prod.fst)).map fun q => (q, s + 1)).map kvD)), .val (.lst (nD here)), .own (.lst (nD (newN (a.flatMap (adjN N) ++ b) (L.map Prod.fst)))), .val (.int x), s6]) (by
        simp (implicitDefEqProofs := false) (disch := omega) only [↓r_seq, ↓r_next, ↓r_if, ↓r_eif, ↓r_set, ↓r_ret, ↓r_retV, ↓r_expr, ↓r_asg, ↓r_par, ↓r_app, ↓r_ext, ↓r_sto, ↓r_or1, ↓r_or, ↓r_and1, ↓r_and, ↓r_vor1, ↓r_vor, ↓r_vand1, ↓r_vand, ↓r_not, ↓r_tru, ↓r_isB, ↓r_eC, ↓r_rd, ↓r_vl, ↓r_rV, ↓r_eV, ↓r_uV, ↓r_uVl, ↓r_sq0, ↓r_sq, ↓r_e2, ↓r_e3, ↓r_call, ↓r_user, ↓r_enot, ↓r_eneg, ↓r_tup, ↓r_lst, ↓r_sl, ↓r_noP, ↓r_aP, ↓r_iOf, ↓r_iF, ↓r_def, ↓r_ref, r_seqNx, r_seqRt, r_seqBk, r_seqCt, r_ifT, r_ifF, r_setV, r_setOt, r_setOl, r_setOd, r_setOs, r_retK, r_retVv, r_retVo, r_asgK, r_tgN, r_tgT, r_tgL, r_tgs0, r_tgs, r_parK, r_ownL, r_ownLo, r_ownD, r_ownDo, r_appK, r_appJ, r_extK, r_extJ, r_stoK, r_stoI, r_stoJ, r_stoL, r_orT, r_orF, r_andT, r_andF, r_vorK, r_vorT, r_vorF, r_vandK, r_vandT, r_vandF, r_notK, r_truK, r_truB, r_truI, r_truL, r_truT, r_truN, r_isBK, r_rdV, r_rdO, r_dV, r_dO, r_valV, r_valL, r_valD, r_rVv, r_rVo, r_rVb, r_eVv, r_uVv, r_uVo, r_uVb, r_uVlK, r_sqK, r_consK, r_opK, r_opJ, r_chK, r_chJ, r_chT, r_chF, r_clK, r_ntK, r_ngK, r_tpK, r_lsK, r_slK, r_slJ, r_slI, r_slL, r_slT, r_aPK, r_sqL, r_sqT, r_sqS, r_rtR, r_rtN, r_refO, r_refE, r_wdK, r_bAdd, r_bSub, r_bMul, r_bDiv, r_bMod, r_bPow, r_cLt, r_cLe, r_cGt, r_cGe, r_cEq, r_cNe, r_ixL, r_ixT, r_of, r_lenL, r_lenT, r_lenS, Pd.R.bind_ok, Pd.R.bind_err, Pd.R.bind_stuck, noE_ok', mul_r, div_i, mod_i, add_i, sub_i, lt_i, le_i, gt_i, ge_i, eq_i, ne_i, pow18, List.cons_append, List.nil_append, List.getElem?_cons_zero, List.getElem?_cons_succ, List.replicate_succ, List.replicate_zero, List.set_cons_zero, List.set_cons_succ, List.length_cons, List.length_nil, if_true, if_false, Bool.not_true, Bool.not_false, Bool.false_eq_true, ↓reduceIte, Nat.reduceAdd, Nat.reduceLeDiff, Nat.reduceLT, Nat.zero_add, Option.map_some, Int.cast_ofNat_Int, Int.natCast_one, Int.natCast_zero, Int.reduceBEq, Int.reduceLT, Int.reduceLE, Int.reduceAdd, Int.reduceSub, Int.reduceMul, Int.reduceNeg, Int.reduceDiv, Int.reduceMod, decide_true, decide_false, ei]
        rfl) ⟨_, by rw [List.append_nil]⟩ (by
        rintro b c' y Γ e' ⟨s6, rfl⟩
        have hsb := hsub (a.flatMap (adjN N) ++ b) (fun q hq => by
          rw [hhere, e']
          rcases List.mem_append.mp hq with h | h
          · exact List.mem_append_left _ h
          · exact List.mem_append_right _ (List.mem_append_left _ (List.mem_append_left _ h)))
        rw [← List.append_assoc, newN_app (a.flatMap (adjN N) ++ b) [y], newN_one]
        generalize newN (a.flatMap (adjN N) ++ b) (L.map Prod.fst) = W at hsb ⊢
        have hkeys : (L ++ W.map fun q => (q, s + 1)).map Prod.fst = L.map Prod.fst ++ W := by
          rw [List.map_append, List.map_map, show (Prod.fst ∘ fun q => (q, s + 1)) = (id : Nat → Nat) from rfl, List.map_id]
        have hni := notin_kv (L ++ W.map fun q => (q, s + 1)) y
        rw [hkeys] at hni
        by_cases g : y ∈ L.map Prod.fst ++ W
        · rw [if_pos g, List.append_nil]
          rw [decide_eq_true g] at hni
          exact go_seq (if_no (by simp (implicitDefEqProofs := false) (disch := omega) only [↓r_seq, ↓r_next, ↓r_if, ↓r_eif, ↓r_set, ↓r_ret, ↓r_retV, ↓r_expr, ↓r_asg, ↓r_par, ↓r_app, ↓r_ext, ↓r_sto, ↓r_or1, ↓r_or, ↓r_and1, ↓r_and, ↓r_vor1, ↓r_vor, ↓r_vand1, ↓r_vand, ↓r_not, ↓r_tru, ↓r_isB, ↓r_eC, ↓r_rd, ↓r_vl, ↓r_rV, ↓r_eV, ↓r_uV, ↓r_uVl, ↓r_sq0, ↓r_sq, ↓r_e2, ↓r_e3, ↓r_call, ↓r_user, ↓r_enot, ↓r_eneg, ↓r_tup, ↓r_lst, ↓r_sl, ↓r_noP, ↓r_aP, ↓r_iOf, ↓r_iF, ↓r_def, ↓r_ref, r_seqNx, r_seqRt, r_seqBk, r_seqCt, r_ifT, r_ifF, r_setV, r_setOt, r_setOl, r_setOd, r_setOs, r_retK, r_retVv, r_retVo, r_asgK, r_tgN, r_tgT, r_tgL, r_tgs0, r_tgs, r_parK, r_ownL, r_ownLo, r_ownD, r_ownDo, r_appK, r_appJ, r_extK, r_extJ, r_stoK, r_stoI, r_stoJ, r_stoL, r_orT, r_orF, r_andT, r_andF, r_vorK, r_vorT, r_vorF, r_vandK, r_vandT, r_vandF, r_notK, r_truK, r_truB, r_truI, r_truL, r_truT, r_truN, r_isBK, r_rdV, r_rdO, r_dV, r_dO, r_valV, r_valL, r_valD, r_rVv, r_rVo, r_rVb, r_eVv, r_uVv, r_uVo, r_uVb, r_uVlK, r_sqK, r_consK, r_opK, r_opJ, r_chK, r_chJ, r_chT, r_chF, r_clK, r_ntK, r_ngK, r_tpK, r_lsK, r_slK, r_slJ, r_slI, r_slL, r_slT, r_aPK, r_sqL, r_sqT, r_sqS, r_rtR, r_rtN, r_refO, r_refE, r_wdK, r_bAdd, r_bSub, r_bMul, r_bDiv, r_bMod, r_bPow, r_cLt, r_cLe, r_cGt, r_cGe, r_cEq, r_cNe, r_ixL, r_ixT, r_of, r_lenL, r_lenT, r_lenS, Pd.R.bind_ok, Pd.R.bind_err, Pd.R.bind_stuck, noE_ok', mul_r, div_i, mod_i, add_i, sub_i, lt_i, le_i, gt_i, ge_i, eq_i, ne_i, pow18, List.cons_append, List.nil_append, List.getElem?_cons_zero, List.getElem?_cons_succ, List.replicate_succ, List.replicate_zero, List.set_cons_zero, List.set_cons_succ, List.length_cons, List.length_nil, if_true, if_false, Bool.not_true, Bool.not_false, Bool.false_eq_true, ↓reduceIte, Nat.reduceAdd, Nat.reduceLeDiff, Nat.reduceLT, Nat.zero_add, Option.map_some, Int.cast_ofNat_Int, Int.natCast_one, Int.natCast_zero, Int.reduceBEq, Int.reduceLT, Int.reduceLE, Int.reduceAdd, Int.reduceSub, Int.reduceMul, Int.reduceNeg, Int.reduceDiv, Int.reduceMod, decide_true, decide_false, r_cNotIn, hni])) (go_next ⟨_, rfl⟩)
        · rw [if_neg g]
          rw [decide_eq_false g] at hni
          have hgx : getK ((L ++ W.map fun q => (q, s + 1)).map kvD) (.int (x : Int)) = some (.int (s : Int)) := by
            rw [List.map_append]
            have h0 := get_kv I.nd hxL
            unfold getK at h0 ⊢
            rw [List.find?_append]
            cases hf : List.find? (fun kv => keyEq kv.1 (.int (x : Int))) (L.map kvD) with
            | none =>
              rw [hf] at h0
              cases h0
            | some v =>
              rw [hf] at h0
              exact h0
          have hix := ix_dct (kv_int (L ++ W.map fun q => (q, s + 1))) (x : Int) hgx
          have hst := sto_dct (kv_int (L ++ W.map fun q => (q, s + 1))) (by rw [List.length_map, List.length_append, List.length_map]; omega) (y : Int) (.int ((s + 1 : Nat) : Int))
          rw [put_kv (s + 1) (by rw [hkeys]; exact g)] at hst
          have hs1 : (s : Int) + 1 = ((s + 1 : Nat) : Int) := by omega
          have hap : (nD W).length < 16777216 := by rw [len_nD]; omega
          have hnd : nD W ++ [.int (y : Int)] = nD (W ++ [y]) := by
            unfold nD
            rw [List.map_append]
            rfl
          have hkv : L ++ W.map (fun q => (q, s + 1)) ++ [(y, s + 1)] = L ++ (W ++ [y]).map fun q => (q, s + 1) := by
            rw [List.map_append, List.append_assoc]
            rfl
          rw [hkv] at hst
          refine go_seq (Γ1 := [.val (nLD N), s1, .own (.dct ((L ++ (W ++ [y]).map fun q => (q, s + 1)).map kvD)), .val (.lst (nD here)), .own (.lst (nD (W ++ [y]))), .val (.int x), .val (.int y)]) ((sIf_t (by simp (implicitDefEqProofs := false) (disch := omega) only [↓r_seq, ↓r_next, ↓r_if, ↓r_eif, ↓r_set, ↓r_ret, ↓r_retV, ↓r_expr, ↓r_asg, ↓r_par, ↓r_app, ↓r_ext, ↓r_sto, ↓r_or1, ↓r_or, ↓r_and1, ↓r_and, ↓r_vor1, ↓r_vor, ↓r_vand1, ↓r_vand, ↓r_not, ↓r_tru, ↓r_isB, ↓r_eC, ↓r_rd, ↓r_vl, ↓r_rV, ↓r_eV, ↓r_uV, ↓r_uVl, ↓r_sq0, ↓r_sq, ↓r_e2, ↓r_e3, ↓r_call, ↓r_user, ↓r_enot, ↓r_eneg, ↓r_tup, ↓r_lst, ↓r_sl, ↓r_noP, ↓r_aP, ↓r_iOf, ↓r_iF, ↓r_def, ↓r_ref, r_seqNx, r_seqRt, r_seqBk, r_seqCt, r_ifT, r_ifF, r_setV, r_setOt, r_setOl, r_setOd, r_setOs, r_retK, r_retVv, r_retVo, r_asgK, r_tgN, r_tgT, r_tgL, r_tgs0, r_tgs, r_parK, r_ownL, r_ownLo, r_ownD, r_ownDo, r_appK, r_appJ, r_extK, r_extJ, r_stoK, r_stoI, r_stoJ, r_stoL, r_orT, r_orF, r_andT, r_andF, r_vorK, r_vorT, r_vorF, r_vandK, r_vandT, r_vandF, r_notK, r_truK, r_truB, r_truI, r_truL, r_truT, r_truN, r_isBK, r_rdV, r_rdO, r_dV, r_dO, r_valV, r_valL, r_valD, r_rVv, r_rVo, r_rVb, r_eVv, r_uVv, r_uVo, r_uVb, r_uVlK, r_sqK, r_consK, r_opK, r_opJ, r_chK, r_chJ, r_chT, r_chF, r_clK, r_ntK, r_ngK, r_tpK, r_lsK, r_slK, r_slJ, r_slI, r_slL, r_slT, r_aPK, r_sqL, r_sqT, r_sqS, r_rtR, r_rtN, r_refO, r_refE, r_wdK, r_bAdd, r_bSub, r_bMul, r_bDiv, r_bMod, r_bPow, r_cLt, r_cLe, r_cGt, r_cGe, r_cEq, r_cNe, r_ixL, r_ixT, r_of, r_lenL, r_lenT, r_lenS, Pd.R.bind_ok, Pd.R.bind_err, Pd.R.bind_stuck, noE_ok', mul_r, div_i, mod_i, add_i, sub_i, lt_i, le_i, gt_i, ge_i, eq_i, ne_i, pow18, List.cons_append, List.nil_append, List.getElem?_cons_zero, List.getElem?_cons_succ, List.replicate_succ, List.replicate_zero, List.set_cons_zero, List.set_cons_succ, List.length_cons, List.length_nil, if_true, if_false, Bool.not_true, Bool.not_false, Bool.false_eq_true, ↓reduceIte, Nat.reduceAdd, Nat.reduceLeDiff, Nat.reduceLT, Nat.zero_add, Option.map_some, Int.cast_ofNat_Int, Int.natCast_one, Int.natCast_zero, Int.reduceBEq, Int.reduceLT, Int.reduceLE, Int.reduceAdd, Int.reduceSub, Int.reduceMul, Int.reduceNeg, Int.reduceDiv, Int.reduceMod, decide_true, decide_false, r_cNotIn, hni])).trans ?_) (go_next ⟨_, rfl⟩)
          refine seq_nx (Γ1 := [.val (nLD N), s1, .own (.dct ((L ++ (W ++ [y]).map fun q => (q, s + 1)).map kvD)), .val (.lst (nD here)), .own (.lst (nD W)), .val (.int x), .val (.int y)]) (by simp (implicitDefEqProofs := false) (disch := omega) only [↓r_seq, ↓r_next, ↓r_if, ↓r_eif, ↓r_set, ↓r_ret, ↓r_retV, ↓r_expr, ↓r_asg, ↓r_par, ↓r_app, ↓r_ext, ↓r_sto, ↓r_or1, ↓r_or, ↓r_and1, ↓r_and, ↓r_vor1, ↓r_vor, ↓r_vand1, ↓r_vand, ↓r_not, ↓r_tru, ↓r_isB, ↓r_eC, ↓r_rd, ↓r_vl, ↓r_rV, ↓r_eV, ↓r_uV, ↓r_uVl, ↓r_sq0, ↓r_sq, ↓r_e2, ↓r_e3, ↓r_call, ↓r_user, ↓r_enot, ↓r_eneg, ↓r_tup, ↓r_lst, ↓r_sl, ↓r_noP, ↓r_aP, ↓r_iOf, ↓r_iF, ↓r_def, ↓r_ref, r_seqNx, r_seqRt, r_seqBk, r_seqCt, r_ifT, r_ifF, r_setV, r_setOt, r_setOl, r_setOd, r_setOs, r_retK, r_retVv, r_retVo, r_asgK, r_tgN, r_tgT, r_tgL, r_tgs0, r_tgs, r_parK, r_ownL, r_ownLo, r_ownD, r_ownDo, r_appK, r_appJ, r_extK, r_extJ, r_stoK, r_stoI, r_stoJ, r_stoL, r_orT, r_orF, r_andT, r_andF, r_vorK, r_vorT, r_vorF, r_vandK, r_vandT, r_vandF, r_notK, r_truK, r_truB, r_truI, r_truL, r_truT, r_truN, r_isBK, r_rdV, r_rdO, r_dV, r_dO, r_valV, r_valL, r_valD, r_rVv, r_rVo, r_rVb, r_eVv, r_uVv, r_uVo, r_uVb, r_uVlK, r_sqK, r_consK, r_opK, r_opJ, r_chK, r_chJ, r_chT, r_chF, r_clK, r_ntK, r_ngK, r_tpK, r_lsK, r_slK, r_slJ, r_slI, r_slL, r_slT, r_aPK, r_sqL, r_sqT, r_sqS, r_rtR, r_rtN, r_refO, r_refE, r_wdK, r_bAdd, r_bSub, r_bMul, r_bDiv, r_bMod, r_bPow, r_cLt, r_cLe, r_cGt, r_cGe, r_cEq, r_cNe, r_ixL, r_ixT, r_of, r_lenL, r_lenT, r_lenS, Pd.R.bind_ok, Pd.R.bind_err, Pd.R.bind_stuck, noE_ok', mul_r, div_i, mod_i, add_i, sub_i, lt_i, le_i, gt_i, ge_i, eq_i, ne_i, pow18, List.cons_append, List.nil_append, List.getElem?_cons_zero, List.getElem?_cons_succ, List.replicate_succ, List.replicate_zero, List.set_cons_zero, List.set_cons_succ, List.length_cons, List.length_nil, if_true, if_false, Bool.not_true, Bool.not_false, Bool.false_eq_true, ↓reduceIte, Nat.reduceAdd, Nat.reduceLeDiff, Nat.reduceLT, Nat.zero_add, Option.map_some, Int.cast_ofNat_Int, Int.natCast_one, Int.natCast_zero, Int.reduceBEq, Int.reduceLT, Int.reduceLE, Int.reduceAdd, Int.reduceSub, Int.reduceMul, Int.reduceNeg, Int.reduceDiv, Int.reduceMod, decide_true, decide_false, hix, hst, hs1]) ?_
          simp (implicitDefEqProofs := false) (disch := omega) only [↓r_seq, ↓r_next, ↓r_if, ↓r_eif, ↓r_set, ↓r_ret, ↓r_retV, ↓r_expr, ↓r_asg, ↓r_par, ↓r_app, ↓r_ext, ↓r_sto, ↓r_or1, ↓r_or, ↓r_and1, ↓r_and, ↓r_vor1, ↓r_vor, ↓r_vand1, ↓r_vand, ↓r_not, ↓r_tru, ↓r_isB, ↓r_eC, ↓r_rd, ↓r_vl, ↓r_rV, ↓r_eV, ↓r_uV, ↓r_uVl, ↓r_sq0, ↓r_sq, ↓r_e2, ↓r_e3, ↓r_call, ↓r_user, ↓r_enot, ↓r_eneg, ↓r_tup, ↓r_lst, ↓r_sl, ↓r_noP, ↓r_aP, ↓r_iOf, ↓r_iF, ↓r_def, ↓r_ref, r_seqNx, r_seqRt, r_seqBk, r_seqCt, r_ifT, r_ifF, r_setV, r_setOt, r_setOl, r_setOd, r_setOs, r_retK, r_retVv, r_retVo, r_asgK, r_tgN, r_tgT, r_tgL, r_tgs0, r_tgs, r_parK, r_ownL, r_ownLo, r_ownD, r_ownDo, r_appK, r_appJ, r_extK, r_extJ, r_stoK, r_stoI, r_stoJ, r_stoL, r_orT, r_orF, r_andT, r_andF, r_vorK, r_vorT, r_vorF, r_vandK, r_vandT, r_vandF, r_notK, r_truK, r_truB, r_truI, r_truL, r_truT, r_truN, r_isBK, r_rdV, r_rdO, r_dV, r_dO, r_valV, r_valL, r_valD, r_rVv, r_rVo, r_rVb, r_eVv, r_uVv, r_uVo, r_uVb, r_uVlK, r_sqK, r_consK, r_opK, r_opJ, r_chK, r_chJ, r_chT, r_chF, r_clK, r_ntK, r_ngK, r_tpK, r_lsK, r_slK, r_slJ, r_slI, r_slL, r_slT, r_aPK, r_sqL, r_sqT, r_sqS, r_rtR, r_rtN, r_refO, r_refE, r_wdK, r_bAdd, r_bSub, r_bMul, r_bDiv, r_bMod, r_bPow, r_cLt, r_cLe, r_cGt, r_cGe, r_cEq, r_cNe, r_ixL, r_ixT, r_of, r_lenL, r_lenT, r_lenS, Pd.R.bind_ok, Pd.R.bind_err, Pd.R.bind_stuck, noE_ok', mul_r, div_i, mod_i, add_i, sub_i, lt_i, le_i, gt_i, ge_i, eq_i, ne_i, pow18, List.cons_append, List.nil_append, List.getElem?_cons_zero, List.getElem?_cons_succ, List.replicate_succ, List.replicate_zero, List.set_cons_zero, List.set_cons_succ, List.length_cons, List.length_nil, if_true, if_false, Bool.not_true, Bool.not_false, Bool.false_eq_true, ↓reduceIte, Nat.reduceAdd, Nat.reduceLeDiff, Nat.reduceLT, Nat.zero_add, Option.map_some, Int.cast_ofNat_Int, Int.natCast_one, Int.natCast_zero, Int.reduceBEq, Int.reduceLT, Int.reduceLE, Int.reduceAdd, Int.reduceSub, Int.reduceMul, Int.reduceNeg, Int.reduceDiv, Int.reduceMod, decide_true, decide_false, r_appJ hap, hnd])
      refine go_mono key ?_
      rintro Γ ⟨s6, rfl⟩
      exact ⟨_, _, rfl⟩
    rintro Γ ⟨s5, s6, rfl⟩
    exact go_next ⟨_, _, rfl⟩
  rintro Γ ⟨s5, s6, rfl⟩
  have hfz : frz [4] [.val (nLD N), s1, .own (.dct ((L ++ (newN (here.flatMap (adjN N)) (L.map Prod.fst)).map fun q => (q, s + 1)).map kvD)), .val (.lst (nD here)), .own (.lst (nD (newN (here.flatMap (adjN N)) (L.map Prod.fst)))), s5, s6] = [.val (nLD N), s1, .own (.dct ((L ++ (newN (here.flatMap (adjN N)) (L.map Prod.fst)).map fun q => (q, s + 1)).map kvD)), .val (.lst (nD here)), .val (.lst (nD (newN (here.flatMap (adjN N)) (L.map Prod.fst)))), s5, s6] := rfl
  refine go_seq (Γ1 := [.val (nLD N), s1, .own (.dct ((L ++ (newN (here.flatMap (adjN N)) (L.map Prod.fst)).map fun q => (q, s + 1)).map kvD)), .val (.lst (nD (newN (here.flatMap (adjN N)) (L.map Prod.fst)))), .val (.lst (nD (newN (here.flatMap (adjN N)) (L.map Prod.fst)))), s5, s6]) ?_ (go_next ⟨_, _, _, rfl⟩)
  show (sSet false 3 (eVar 4)) (frz [4] _) = _
  rw [hfz]
  simp (implicitDefEqProofs := false) (disch := omega) only [↓r_seq, ↓r_next, ↓r_if, ↓r_eif, ↓r_set, ↓r_ret, ↓r_retV, ↓r_expr, ↓r_asg, ↓r_par, ↓r_app, ↓r_ext, ↓r_sto, ↓r_or1, ↓r_or, ↓r_and1, ↓r_and, ↓r_vor1, ↓r_vor, ↓r_vand1, ↓r_vand, ↓r_not, ↓r_tru, ↓r_isB, ↓r_eC, ↓r_rd, ↓r_vl, ↓r_rV, ↓r_eV, ↓r_uV, ↓r_uVl, ↓r_sq0, ↓r_sq, ↓r_e2, ↓r_e3, ↓r_call, ↓r_user, ↓r_enot, ↓r_eneg, ↓r_tup, ↓r_lst, ↓r_sl, ↓r_noP, ↓r_aP, ↓r_iOf, ↓r_iF, ↓r_def, ↓r_ref, r_seqNx, r_seqRt, r_seqBk, r_seqCt, r_ifT, r_ifF, r_setV, r_setOt, r_setOl, r_setOd, r_setOs, r_retK, r_retVv, r_retVo, r_asgK, r_tgN, r_tgT, r_tgL, r_tgs0, r_tgs, r_parK, r_ownL, r_ownLo, r_ownD, r_ownDo, r_appK, r_appJ, r_extK, r_extJ, r_stoK, r_stoI, r_stoJ, r_stoL, r_orT, r_orF, r_andT, r_andF, r_vorK, r_vorT, r_vorF, r_vandK, r_vandT, r_vandF, r_notK, r_truK, r_truB, r_truI, r_truL, r_truT, r_truN, r_isBK, r_rdV, r_rdO, r_dV, r_dO, r_valV, r_valL, r_valD, r_rVv, r_rVo, r_rVb, r_eVv, r_uVv, r_uVo, r_uVb, r_uVlK, r_sqK, r_consK, r_opK, r_opJ, r_chK, r_chJ, r_chT, r_chF, r_clK, r_ntK, r_ngK, r_tpK, r_lsK, r_slK, r_slJ, r_slI, r_slL, r_slT, r_aPK, r_sqL, r_sqT, r_sqS, r_rtR, r_rtN, r_refO, r_refE, r_wdK, r_bAdd, r_bSub, r_bMul, r_bDiv, r_bMod, r_bPow, r_cLt, r_cLe, r_cGt, r_cGe, r_cEq, r_cNe, r_ixL, r_ixT, r_of, r_lenL, r_lenT, r_lenS, Pd.R.bind_ok, Pd.R.bind_err, Pd.R.bind_stuck, noE_ok', mul_r, div_i, mod_i, add_i, sub_i, lt_i, le_i, gt_i, ge_i, eq_i, ne_i, pow18, List.cons_append, List.nil_append, List.getElem?_cons_zero, List.getElem?_cons_succ, List.replicate_succ, List.replicate_zero, List.set_cons_zero, List.set_cons_succ, List.length_cons, List.length_nil, if_true, if_false, Bool.not_true, Bool.not_false, Bool.false_eq_true, ↓reduceIte, Nat.reduceAdd, Nat.reduceLeDiff, Nat.reduceLT, Nat.zero_add, Option.map_some, Int.cast_ofNat_Int, Int.natCast_one, Int.natCast_zero, Int.reduceBEq, Int.reduceLT, Int.reduceLE, Int.reduceAdd, Int.reduceSub, Int.reduceMul, Int.reduceNeg, Int.reduceDiv, Int.reduceMod, decide_true, decide_false]
theorem off_while (hN : ∀ l ∈ N, ∀ q ∈ l, q < N.length) (hl : N.length ≤ 1000) {p : Nat} (hp : p < N.length) (s1 : Sl) : ∀ (n s : Nat) (here : List Nat) (L : List (Nat × Nat)) (s4 s5 s6 : Sl), Lvl N p s here L → N.length - L.length + (if here = [] then 0 else 1) < n →
    ∃ (s' : Nat) (L' : List (Nat × Nat)) (s3 s4' s5' s6' : Sl), Lvl N p s' [] L' ∧ whR (isB (e2 (dCmp .NotEq) (rVar 3) (rd (eLst (seqR []))))) (sSeq (sSet true 4 (eLst (seqR []))) (sSeq (sFor (iF (vl (eVar 3))) (.nm 5) (sSeq (sFor (iF (vl (e2 dIx (rVar 0) (rVar 5)))) (.nm 6) (sSeq (sIf (isB (e2 (dCmp .NotIn) (rVar 6) (rVar 2))) (sSeq (sSto 2 (vl (e2 (dBin .Add) (rd (e2 dIx (rVar 2) (rVar 5))) (rd (eC (.int 1))))) (rVar 6)) (sSeq (sApp 4 (vl (eVar 6))) (sNext))) (sNext)) (sNext))) (sNext))) (sSeq ((fun Γ => (sSet false 3 (eVar 4)) (frz [4] Γ))) (sNext)))) n [.val (nLD N), s1, .own (.dct (L.map kvD)), .val (.lst (nD here)), s4, s5, s6] = .ok (.nx [.val (nLD N), s1, .own (.dct (L'.map kvD)), s3, s4', s5', s6'])
  | 0, s, here, L, s4, s5, s6, I, h => by omega
  | n + 1, s, here, L, s4, s5, s6, I, h => by
    have en := ne_nil here
    by_cases he : here = []
    · subst he
      refine ⟨s, L, .val (.lst (nD [])), s4, s5, s6, I, ?_⟩
      have ec : (isB (e2 (dCmp .NotEq) (rVar 3) (rd (eLst (seqR []))))) [.val (nLD N), s1, .own (.dct (L.map kvD)), .val (.lst (nD [])), s4, s5, s6] = .ok false := by
        rw [show (!([] : List Nat).isEmpty) = false from rfl] at en
        simp (implicitDefEqProofs := false) (disch := omega) only [↓r_seq, ↓r_next, ↓r_if, ↓r_eif, ↓r_set, ↓r_ret, ↓r_retV, ↓r_expr, ↓r_asg, ↓r_par, ↓r_app, ↓r_ext, ↓r_sto, ↓r_or1, ↓r_or, ↓r_and1, ↓r_and, ↓r_vor1, ↓r_vor, ↓r_vand1, ↓r_vand, ↓r_not, ↓r_tru, ↓r_isB, ↓r_eC, ↓r_rd, ↓r_vl, ↓r_rV, ↓r_eV, ↓r_uV, ↓r_uVl, ↓r_sq0, ↓r_sq, ↓r_e2, ↓r_e3, ↓r_call, ↓r_user, ↓r_enot, ↓r_eneg, ↓r_tup, ↓r_lst, ↓r_sl, ↓r_noP, ↓r_aP, ↓r_iOf, ↓r_iF, ↓r_def, ↓r_ref, r_seqNx, r_seqRt, r_seqBk, r_seqCt, r_ifT, r_ifF, r_setV, r_setOt, r_setOl, r_setOd, r_setOs, r_retK, r_retVv, r_retVo, r_asgK, r_tgN, r_tgT, r_tgL, r_tgs0, r_tgs, r_parK, r_ownL, r_ownLo, r_ownD, r_ownDo, r_appK, r_appJ, r_extK, r_extJ, r_stoK, r_stoI, r_stoJ, r_stoL, r_orT, r_orF, r_andT, r_andF, r_vorK, r_vorT, r_vorF, r_vandK, r_vandT, r_vandF, r_notK, r_truK, r_truB, r_truI, r_truL, r_truT, r_truN, r_isBK, r_rdV, r_rdO, r_dV, r_dO, r_valV, r_valL, r_valD, r_rVv, r_rVo, r_rVb, r_eVv, r_uVv, r_uVo, r_uVb, r_uVlK, r_sqK, r_consK, r_opK, r_opJ, r_chK, r_chJ, r_chT, r_chF, r_clK, r_ntK, r_ngK, r_tpK, r_lsK, r_slK, r_slJ, r_slI, r_slL, r_slT, r_aPK, r_sqL, r_sqT, r_sqS, r_rtR, r_rtN, r_refO, r_refE, r_wdK, r_bAdd, r_bSub, r_bMul, r_bDiv, r_bMod, r_bPow, r_cLt, r_cLe, r_cGt, r_cGe, r_cEq, r_cNe, r_ixL, r_ixT, r_of, r_lenL, r_lenT, r_lenS, Pd.R.bind_ok, Pd.R.bind_err, Pd.R.bind_stuck, noE_ok', mul_r, div_i, mod_i, add_i, sub_i, lt_i, le_i, gt_i, ge_i, eq_i, ne_i, pow18, List.cons_append, List.nil_append, List.getElem?_cons_zero, List.getElem?_cons_succ, List.replicate_succ, List.replicate_zero, List.set_cons_zero, List.set_cons_succ, List.length_cons, List.length_nil, if_true, if_false, Bool.not_true, Bool.not_false, Bool.false_eq_true, ↓reduceIte, Nat.reduceAdd, Nat.reduceLeDiff, Nat.reduceLT, Nat.zero_add, Option.map_some, Int.cast_ofNat_Int, Int.natCast_one, Int.natCast_zero, Int.reduceBEq, Int.reduceLT, Int.reduceLE, Int.reduceAdd, Int.reduceSub, Int.reduceMul, Int.reduceNeg, Int.reduceDiv, Int.reduceMod, decide_true, decide_false, en]
      rw [whR, ec, Pd.R.bind_ok, if_neg Bool.false_ne_true]
    · rw [if_neg he] at h
      have ec : (isB (e2 (dCmp .NotEq) (rVar 3) (rd (eLst (seqR []))))) [.val (nLD N), s1, .own (.dct (L.map kvD)), .val (.lst (nD here)), s4, s5, s6] = .ok true := by
        have : here.isEmpty = false := by cases here <;> first | exact absurd rfl he | rfl
        rw [this] at en
        simp (implicitDefEqProofs := false) (disch := omega) only [↓r_seq, ↓r_next, ↓r_if, ↓r_eif, ↓r_set, ↓r_ret, ↓r_retV, ↓r_expr, ↓r_asg, ↓r_par, ↓r_app, ↓r_ext, ↓r_sto, ↓r_or1, ↓r_or, ↓r_and1, ↓r_and, ↓r_vor1, ↓r_vor, ↓r_vand1, ↓r_vand, ↓r_not, ↓r_tru, ↓r_isB, ↓r_eC, ↓r_rd, ↓r_vl, ↓r_rV, ↓r_eV, ↓r_uV, ↓r_uVl, ↓r_sq0, ↓r_sq, ↓r_e2, ↓r_e3, ↓r_call, ↓r_user, ↓r_enot, ↓r_eneg, ↓r_tup, ↓r_lst, ↓r_sl, ↓r_noP, ↓r_aP, ↓r_iOf, ↓r_iF, ↓r_def, ↓r_ref, r_seqNx, r_seqRt, r_seqBk, r_seqCt, r_ifT, r_ifF, r_setV, r_setOt, r_setOl, r_setOd, r_setOs, r_retK, r_retVv, r_retVo, r_asgK, r_tgN, r_tgT, r_tgL, r_tgs0, r_tgs, r_parK, r_ownL, r_ownLo, r_ownD, r_ownDo, r_appK, r_appJ, r_extK, r_extJ, r_stoK, r_stoI, r_stoJ, r_stoL, r_orT, r_orF, r_andT, r_andF, r_vorK, r_vorT, r_vorF, r_vandK, r_vandT, r_vandF, r_notK, r_truK, r_truB, r_truI, r_truL, r_truT, r_truN, r_isBK, r_rdV, r_rdO, r_dV, r_dO, r_valV, r_valL, r_valD, r_rVv, r_rVo, r_rVb, r_eVv, r_uVv, r_uVo, r_uVb, r_uVlK, r_sqK, r_consK, r_opK, r_opJ, r_chK, r_chJ, r_chT, r_chF, r_clK, r_ntK, r_ngK, r_tpK, r_lsK, r_slK, r_slJ, r_slI, r_slL, r_slT, r_aPK, r_sqL, r_sqT, r_sqS, r_rtR, r_rtN, r_refO, r_refE, r_wdK, r_bAdd, r_bSub, r_bMul, r_bDiv, r_bMod, r_bPow, r_cLt, r_cLe, r_cGt, r_cGe, r_cEq, r_cNe, r_ixL, r_ixT, r_of, r_lenL, r_lenT, r_lenS, Pd.R.bind_ok, Pd.R.bind_err, Pd.R.bind_stuck, noE_ok', mul_r, div_i, mod_i, add_i, sub_i, lt_i, le_i, gt_i, ge_i, eq_i, ne_i, pow18, List.cons_append, List.nil_append, List.getElem?_cons_zero, List.getElem?_cons_succ, List.replicate_succ, List.replicate_zero, List.set_cons_zero, List.set_cons_succ, List.length_cons, List.length_nil, if_true, if_false, Bool.not_true, Bool.not_false, Bool.false_eq_true, ↓reduceIte, Nat.reduceAdd, Nat.reduceLeDiff, Nat.reduceLT, Nat.zero_add, Option.map_some, Int.cast_ofNat_Int, Int.natCast_one, Int.natCast_zero, Int.reduceBEq, Int.reduceLT, Int.reduceLE, Int.reduceAdd, Int.reduceSub, Int.reduceMul, Int.reduceNeg, Int.reduceDiv, Int.reduceMod, decide_true, decide_false, en]
      obtain ⟨s4', s5', s6', eb⟩ := off_body hN hl hp s1 I s4 s5 s6
      have I' := I.next
      have hlen := I'.len hN hp
      rw [List.length_append, List.length_map] at hlen
      rw [whR, ec, Pd.R.bind_ok, if_pos rfl, eb, Pd.R.bind_ok]
      dsimp only
      refine off_while hN hl hp s1 n (s + 1) _ _ s4' s5' s6' I' ?_
      rw [List.length_append, List.length_map]
      by_cases hz : newN (here.flatMap (adjN N)) (L.map Prod.fst) = []
      · rw [if_pos hz, hz]
        simp only [List.length_nil]
        omega
      · rw [if_neg hz]
        have : 0 < (newN (here.flatMap (adjN N)) (L.map Prod.fst)).length := List.length_pos_iff.mpr hz
        omega
theorem off_v (hN : ∀ l ∈ N, ∀ q ∈ l, q < N.length) (hl : N.length ≤ 1000) {p : Nat} (hp : p < N.length) : ∃ L : List (Nat × Nat), (L.map Prod.fst).Nodup ∧ (∀ q t, (q, t) ∈ L ↔ IsN N p q t) ∧ d__law_off [.val (nLD N), .val (.int p)] = .ok (.o (.dct (L.map kvD))) := by
  obtain ⟨s', L', s3, s4', s5', s6', I, e⟩ := off_while hN hl hp (.val (.int p)) whN 0 [p] [(p, 0)] .un .un .un (lvl_start N p) (by
    rw [if_neg (by simp)]
    unfold whN
    omega)
  refine ⟨L', I.nd, I.last, ?_⟩
  unfold d__law_off f__law_off
  refine def_rt ?_
  have z0 : ((0 : Nat) : Int) = 0 := rfl
  refine seq_nx (Γ1 := [.val (nLD N), .val (.int p), .own (.dct ([(p, 0)].map kvD)), .un, .un, .un, .un]) (by
    simp (implicitDefEqProofs := false) (disch := omega) only [↓r_seq, ↓r_next, ↓r_if, ↓r_eif, ↓r_set, ↓r_ret, ↓r_retV, ↓r_expr, ↓r_asg, ↓r_par, ↓r_app, ↓r_ext, ↓r_sto, ↓r_or1, ↓r_or, ↓r_and1, ↓r_and, ↓r_vor1, ↓r_vor, ↓r_vand1, ↓r_vand, ↓r_not, ↓r_tru, ↓r_isB, ↓r_eC, ↓r_rd, ↓r_vl, ↓r_rV, ↓r_eV, ↓r_uV, ↓r_uVl, ↓r_sq0, ↓r_sq, ↓r_e2, ↓r_e3, ↓r_call, ↓r_user, ↓r_enot, ↓r_eneg, ↓r_tup, ↓r_lst, ↓r_sl, ↓r_noP, ↓r_aP, ↓r_iOf, ↓r_iF, ↓r_def, ↓r_ref, r_seqNx, r_seqRt, r_seqBk, r_seqCt, r_ifT, r_ifF, r_setV, r_setOt, r_setOl, r_setOd, r_setOs, r_retK, r_retVv, r_retVo, r_asgK, r_tgN, r_tgT, r_tgL, r_tgs0, r_tgs, r_parK, r_ownL, r_ownLo, r_ownD, r_ownDo, r_appK, r_appJ, r_extK, r_extJ, r_stoK, r_stoI, r_stoJ, r_stoL, r_orT, r_orF, r_andT, r_andF, r_vorK, r_vorT, r_vorF, r_vandK, r_vandT, r_vandF, r_notK, r_truK, r_truB, r_truI, r_truL, r_truT, r_truN, r_isBK, r_rdV, r_rdO, r_dV, r_dO, r_valV, r_valL, r_valD, r_rVv, r_rVo, r_rVb, r_eVv, r_uVv, r_uVo, r_uVb, r_uVlK, r_sqK, r_consK, r_opK, r_opJ, r_chK, r_chJ, r_chT, r_chF, r_clK, r_ntK, r_ngK, r_tpK, r_lsK, r_slK, r_slJ, r_slI, r_slL, r_slT, r_aPK, r_sqL, r_sqT, r_sqS, r_rtR, r_rtN, r_refO, r_refE, r_wdK, r_bAdd, r_bSub, r_bMul, r_bDiv, r_bMod, r_bPow, r_cLt, r_cLe, r_cGt, r_cGe, r_cEq, r_cNe, r_ixL, r_ixT, r_of, r_lenL, r_lenT, r_lenS, Pd.R.bind_ok, Pd.R.bind_err, Pd.R.bind_stuck, noE_ok', mul_r, div_i, mod_i, add_i, sub_i, lt_i, le_i, gt_i, ge_i, eq_i, ne_i, pow18, List.cons_append, List.nil_append, List.getElem?_cons_zero, List.getElem?_cons_succ, List.replicate_succ, List.replicate_zero, List.set_cons_zero, List.set_cons_succ, List.length_cons, List.length_nil, if_true, if_false, Bool.not_true, Bool.not_false, Bool.false_eq_true, ↓reduceIte, Nat.reduceAdd, Nat.reduceLeDiff, Nat.reduceLT, Nat.zero_add, Option.map_some, Int.cast_ofNat_Int, Int.natCast_one, Int.natCast_zero, Int.reduceBEq, Int.reduceLT, Int.reduceLE, Int.reduceAdd, Int.reduceSub, Int.reduceMul, Int.reduceNeg, Int.reduceDiv, Int.reduceMod, decide_true, decide_false, r_dict1, d1K, dict1]
    rfl) ?_
  refine seq_nx (Γ1 := [.val (nLD N), .val (.int p), .own (.dct ([(p, 0)].map kvD)), .val (.lst (nD [p])), .un, .un, .un]) (by
    simp (implicitDefEqProofs := false) (disch := omega) only [↓r_seq, ↓r_next, ↓r_if, ↓r_eif, ↓r_set, ↓r_ret, ↓r_retV, ↓r_expr, ↓r_asg, ↓r_par, ↓r_app, ↓r_ext, ↓r_sto, ↓r_or1, ↓r_or, ↓r_and1, ↓r_and, ↓r_vor1, ↓r_vor, ↓r_vand1, ↓r_vand, ↓r_not, ↓r_tru, ↓r_isB, ↓r_eC, ↓r_rd, ↓r_vl, ↓r_rV, ↓r_eV, ↓r_uV, ↓r_uVl, ↓r_sq0, ↓r_sq, ↓r_e2, ↓r_e3, ↓r_call, ↓r_user, ↓r_enot, ↓r_eneg, ↓r_tup, ↓r_lst, ↓r_sl, ↓r_noP, ↓r_aP, ↓r_iOf, ↓r_iF, ↓r_def, ↓r_ref, r_seqNx, r_seqRt, r_seqBk, r_seqCt, r_ifT, r_ifF, r_setV, r_setOt, r_setOl, r_setOd, r_setOs, r_retK, r_retVv, r_retVo, r_asgK, r_tgN, r_tgT, r_tgL, r_tgs0, r_tgs, r_parK, r_ownL, r_ownLo, r_ownD, r_ownDo, r_appK, r_appJ, r_extK, r_extJ, r_stoK, r_stoI, r_stoJ, r_stoL, r_orT, r_orF, r_andT, r_andF, r_vorK, r_vorT, r_vorF, r_vandK, r_vandT, r_vandF, r_notK, r_truK, r_truB, r_truI, r_truL, r_truT, r_truN, r_isBK, r_rdV, r_rdO, r_dV, r_dO, r_valV, r_valL, r_valD, r_rVv, r_rVo, r_rVb, r_eVv, r_uVv, r_uVo, r_uVb, r_uVlK, r_sqK, r_consK, r_opK, r_opJ, r_chK, r_chJ, r_chT, r_chF, r_clK, r_ntK, r_ngK, r_tpK, r_lsK, r_slK, r_slJ, r_slI, r_slL, r_slT, r_aPK, r_sqL, r_sqT, r_sqS, r_rtR, r_rtN, r_refO, r_refE, r_wdK, r_bAdd, r_bSub, r_bMul, r_bDiv, r_bMod, r_bPow, r_cLt, r_cLe, r_cGt, r_cGe, r_cEq, r_cNe, r_ixL, r_ixT, r_of, r_lenL, r_lenT, r_lenS, Pd.R.bind_ok, Pd.R.bind_err, Pd.R.bind_stuck, noE_ok', mul_r, div_i, mod_i, add_i, sub_i, lt_i, le_i, gt_i, ge_i, eq_i, ne_i, pow18, List.cons_append, List.nil_append, List.getElem?_cons_zero, List.getElem?_cons_succ, List.replicate_succ, List.replicate_zero, List.set_cons_zero, List.set_cons_succ, List.length_cons, List.length_nil, if_true, if_false, Bool.not_true, Bool.not_false, Bool.false_eq_true, ↓reduceIte, Nat.reduceAdd, Nat.reduceLeDiff, Nat.reduceLT, Nat.zero_add, Option.map_some, Int.cast_ofNat_Int, Int.natCast_one, Int.natCast_zero, Int.reduceBEq, Int.reduceLT, Int.reduceLE, Int.reduceAdd, Int.reduceSub, Int.reduceMul, Int.reduceNeg, Int.reduceDiv, Int.reduceMod, decide_true, decide_false]
    rfl) ?_
  refine seq_nx e ?_
  simp (implicitDefEqProofs := false) (disch := omega) only [↓r_seq, ↓r_next, ↓r_if, ↓r_eif, ↓r_set, ↓r_ret, ↓r_retV, ↓r_expr, ↓r_asg, ↓r_par, ↓r_app, ↓r_ext, ↓r_sto, ↓r_or1, ↓r_or, ↓r_and1, ↓r_and, ↓r_vor1, ↓r_vor, ↓r_vand1, ↓r_vand, ↓r_not, ↓r_tru, ↓r_isB, ↓r_eC, ↓r_rd, ↓r_vl, ↓r_rV, ↓r_eV, ↓r_uV, ↓r_uVl, ↓r_sq0, ↓r_sq, ↓r_e2, ↓r_e3, ↓r_call, ↓r_user, ↓r_enot, ↓r_eneg, ↓r_tup, ↓r_lst, ↓r_sl, ↓r_noP, ↓r_aP, ↓r_iOf, ↓r_iF, ↓r_def, ↓r_ref, r_seqNx, r_seqRt, r_seqBk, r_seqCt, r_ifT, r_ifF, r_setV, r_setOt, r_setOl, r_setOd, r_setOs, r_retK, r_retVv, r_retVo, r_asgK, r_tgN, r_tgT, r_tgL, r_tgs0, r_tgs, r_parK, r_ownL, r_ownLo, r_ownD, r_ownDo, r_appK, r_appJ, r_extK, r_extJ, r_stoK, r_stoI, r_stoJ, r_stoL, r_orT, r_orF, r_andT, r_andF, r_vorK, r_vorT, r_vorF, r_vandK, r_vandT, r_vandF, r_notK, r_truK, r_truB, r_truI, r_truL, r_truT, r_truN, r_isBK, r_rdV, r_rdO, r_dV, r_dO, r_valV, r_valL, r_valD, r_rVv, r_rVo, r_rVb, r_eVv, r_uVv, r_uVo, r_uVb, r_uVlK, r_sqK, r_consK, r_opK, r_opJ, r_chK, r_chJ, r_chT, r_chF, r_clK, r_ntK, r_ngK, r_tpK, r_lsK, r_slK, r_slJ, r_slI, r_slL, r_slT, r_aPK, r_sqL, r_sqT, r_sqS, r_rtR, r_rtN, r_refO, r_refE, r_wdK, r_bAdd, r_bSub, r_bMul, r_bDiv, r_bMod, r_bPow, r_cLt, r_cLe, r_cGt, r_cGe, r_cEq, r_cNe, r_ixL, r_ixT, r_of, r_lenL, r_lenT, r_lenS, Pd.R.bind_ok, Pd.R.bind_err, Pd.R.bind_stuck, noE_ok', mul_r, div_i, mod_i, add_i, sub_i, lt_i, le_i, gt_i, ge_i, eq_i, ne_i, pow18, List.cons_append, List.nil_append, List.getElem?_cons_zero, List.getElem?_cons_succ, List.replicate_succ, List.replicate_zero, List.set_cons_zero, List.set_cons_succ, List.length_cons, List.length_nil, if_true, if_false, Bool.not_true, Bool.not_false, Bool.false_eq_true, ↓reduceIte, Nat.reduceAdd, Nat.reduceLeDiff, Nat.reduceLT, Nat.zero_add, Option.map_some, Int.cast_ofNat_Int, Int.natCast_one, Int.natCast_zero, Int.reduceBEq, Int.reduceLT, Int.reduceLE, Int.reduceAdd, Int.reduceSub, Int.reduceMul, Int.reduceNeg, Int.reduceDiv, Int.reduceMod, decide_true, decide_false]
end
section
variable {m : Nat} {ls : List Nat}
theorem lbeside_v (R : Ring m ls) (p : Nat) : d__law_beside [.val (ringD m ls), .val (.int p)] = .ok (.o (.lst (nD (nearN m ls p)))) := by
  have h3 := R.m3
  have h4 := R.le4
  have hne := R.ne
  have h100 := R.m100
  have hr1 : dIx (ringD m ls) (.int 1) = some (.v (.tup (nD ls))) := rfl
  have ix := ring_ix m ls
  have e1 := lc_of (fi := iF (rd (e2 dIx (rVar 0) (rd (eC (.int 1)))))) (i := 3) (te := vl (e2 (dBin .Mod) (rd (e2 (dBin .Add) (rVar 1) (rVar 3))) (rVar 2))) (vs := [3]) (Γ := [.val (ringD m ls), .val (.int p), .val (.int m), .un]) (l := ls) (φ := fun n : Nat => .int (n : Int)) (fun l => .int (((p + l) % m : Nat) : Int)) (by
      simp (implicitDefEqProofs := false) (disch := omega) only [↓r_seq, ↓r_next, ↓r_if, ↓r_eif, ↓r_set, ↓r_ret, ↓r_retV, ↓r_expr, ↓r_asg, ↓r_par, ↓r_app, ↓r_ext, ↓r_sto, ↓r_or1, ↓r_or, ↓r_and1, ↓r_and, ↓r_vor1, ↓r_vor, ↓r_vand1, ↓r_vand, ↓r_not, ↓r_tru, ↓r_isB, ↓r_eC, ↓r_rd, ↓r_vl, ↓r_rV, ↓r_eV, ↓r_uV, ↓r_uVl, ↓r_sq0, ↓r_sq, ↓r_e2, ↓r_e3, ↓r_call, ↓r_user, ↓r_enot, ↓r_eneg, ↓r_tup, ↓r_lst, ↓r_sl, ↓r_noP, ↓r_aP, ↓r_iOf, ↓r_iF, ↓r_def, ↓r_ref, r_seqNx, r_seqRt, r_seqBk, r_seqCt, r_ifT, r_ifF, r_setV, r_setOt, r_setOl, r_setOd, r_setOs, r_retK, r_retVv, r_retVo, r_asgK, r_tgN, r_tgT, r_tgL, r_tgs0, r_tgs, r_parK, r_ownL, r_ownLo, r_ownD, r_ownDo, r_appK, r_appJ, r_extK, r_extJ, r_stoK, r_stoI, r_stoJ, r_stoL, r_orT, r_orF, r_andT, r_andF, r_vorK, r_vorT, r_vorF, r_vandK, r_vandT, r_vandF, r_notK, r_truK, r_truB, r_truI, r_truL, r_truT, r_truN, r_isBK, r_rdV, r_rdO, r_dV, r_dO, r_valV, r_valL, r_valD, r_rVv, r_rVo, r_rVb, r_eVv, r_uVv, r_uVo, r_uVb, r_uVlK, r_sqK, r_consK, r_opK, r_opJ, r_chK, r_chJ, r_chT, r_chF, r_clK, r_ntK, r_ngK, r_tpK, r_lsK, r_slK, r_slJ, r_slI, r_slL, r_slT, r_aPK, r_sqL, r_sqT, r_sqS, r_rtR, r_rtN, r_refO, r_refE, r_wdK, r_bAdd, r_bSub, r_bMul, r_bDiv, r_bMod, r_bPow, r_cLt, r_cLe, r_cGt, r_cGe, r_cEq, r_cNe, r_ixL, r_ixT, r_of, r_lenL, r_lenT, r_lenS, Pd.R.bind_ok, Pd.R.bind_err, Pd.R.bind_stuck, noE_ok', mul_r, div_i, mod_i, add_i, sub_i, lt_i, le_i, gt_i, ge_i, eq_i, ne_i, pow18, List.cons_append, List.nil_append, List.getElem?_cons_zero, List.getElem?_cons_succ, List.replicate_succ, List.replicate_zero, List.set_cons_zero, List.set_cons_succ, List.length_cons, List.length_nil, if_true, if_false, Bool.not_true, Bool.not_false, Bool.false_eq_true, ↓reduceIte, Nat.reduceAdd, Nat.reduceLeDiff, Nat.reduceLT, Nat.zero_add, Option.map_some, Int.cast_ofNat_Int, Int.natCast_one, Int.natCast_zero, Int.reduceBEq, Int.reduceLT, Int.reduceLE, Int.reduceAdd, Int.reduceSub, Int.reduceMul, Int.reduceNeg, Int.reduceDiv, Int.reduceMod, decide_true, decide_false, hr1]
      rfl) (fun l hl => by
      have : ((p : Int) + (l : Int)) % (m : Int) = (((p + l) % m : Nat) : Int) := rfl
      simp (implicitDefEqProofs := false) (disch := omega) only [↓r_seq, ↓r_next, ↓r_if, ↓r_eif, ↓r_set, ↓r_ret, ↓r_retV, ↓r_expr, ↓r_asg, ↓r_par, ↓r_app, ↓r_ext, ↓r_sto, ↓r_or1, ↓r_or, ↓r_and1, ↓r_and, ↓r_vor1, ↓r_vor, ↓r_vand1, ↓r_vand, ↓r_not, ↓r_tru, ↓r_isB, ↓r_eC, ↓r_rd, ↓r_vl, ↓r_rV, ↓r_eV, ↓r_uV, ↓r_uVl, ↓r_sq0, ↓r_sq, ↓r_e2, ↓r_e3, ↓r_call, ↓r_user, ↓r_enot, ↓r_eneg, ↓r_tup, ↓r_lst, ↓r_sl, ↓r_noP, ↓r_aP, ↓r_iOf, ↓r_iF, ↓r_def, ↓r_ref, r_seqNx, r_seqRt, r_seqBk, r_seqCt, r_ifT, r_ifF, r_setV, r_setOt, r_setOl, r_setOd, r_setOs, r_retK, r_retVv, r_retVo, r_asgK, r_tgN, r_tgT, r_tgL, r_tgs0, r_tgs, r_parK, r_ownL, r_ownLo, r_ownD, r_ownDo, r_appK, r_appJ, r_extK, r_extJ, r_stoK, r_stoI, r_stoJ, r_stoL, r_orT, r_orF, r_andT, r_andF, r_vorK, r_vorT, r_vorF, r_vandK, r_vandT, r_vandF, r_notK, r_truK, r_truB, r_truI, r_truL, r_truT, r_truN, r_isBK, r_rdV, r_rdO, r_dV, r_dO, r_valV, r_valL, r_valD, r_rVv, r_rVo, r_rVb, r_eVv, r_uVv, r_uVo, r_uVb, r_uVlK, r_sqK, r_consK, r_opK, r_opJ, r_chK, r_chJ, r_chT, r_chF, r_clK, r_ntK, r_ngK, r_tpK, r_lsK, r_slK, r_slJ, r_slI, r_slL, r_slT, r_aPK, r_sqL, r_sqT, r_sqS, r_rtR, r_rtN, r_refO, r_refE, r_wdK, r_bAdd, r_bSub, r_bMul, r_bDiv, r_bMod, r_bPow, r_cLt, r_cLe, r_cGt, r_cGe, r_cEq, r_cNe, r_ixL, r_ixT, r_of, r_lenL, r_lenT, r_lenS, Pd.R.bind_ok, Pd.R.bind_err, Pd.R.bind_stuck, noE_ok', mul_r, div_i, mod_i, add_i, sub_i, lt_i, le_i, gt_i, ge_i, eq_i, ne_i, pow18, List.cons_append, List.nil_append, List.getElem?_cons_zero, List.getElem?_cons_succ, List.replicate_succ, List.replicate_zero, List.set_cons_zero, List.set_cons_succ, List.length_cons, List.length_nil, if_true, if_false, Bool.not_true, Bool.not_false, Bool.false_eq_true, ↓reduceIte, Nat.reduceAdd, Nat.reduceLeDiff, Nat.reduceLT, Nat.zero_add, Option.map_some, Int.cast_ofNat_Int, Int.natCast_one, Int.natCast_zero, Int.reduceBEq, Int.reduceLT, Int.reduceLE, Int.reduceAdd, Int.reduceSub, Int.reduceMul, Int.reduceNeg, Int.reduceDiv, Int.reduceMod, decide_true, decide_false, wipeG, this])
  have e2' := lc_of (fi := iF (rd (e2 dIx (rVar 0) (rd (eC (.int 1)))))) (i := 3) (te := vl (e2 (dBin .Mod) (rd (e2 (dBin .Sub) (rVar 1) (rVar 3))) (rVar 2))) (vs := [3]) (Γ := [.val (ringD m ls), .val (.int p), .val (.int m), .un]) (l := ls) (φ := fun n : Nat => .int (n : Int)) (fun l => .int (((p + (m - l)) % m : Nat) : Int)) (by
      simp (implicitDefEqProofs := false) (disch := omega) only [↓r_seq, ↓r_next, ↓r_if, ↓r_eif, ↓r_set, ↓r_ret, ↓r_retV, ↓r_expr, ↓r_asg, ↓r_par, ↓r_app, ↓r_ext, ↓r_sto, ↓r_or1, ↓r_or, ↓r_and1, ↓r_and, ↓r_vor1, ↓r_vor, ↓r_vand1, ↓r_vand, ↓r_not, ↓r_tru, ↓r_isB, ↓r_eC, ↓r_rd, ↓r_vl, ↓r_rV, ↓r_eV, ↓r_uV, ↓r_uVl, ↓r_sq0, ↓r_sq, ↓r_e2, ↓r_e3, ↓r_call, ↓r_user, ↓r_enot, ↓r_eneg, ↓r_tup, ↓r_lst, ↓r_sl, ↓r_noP, ↓r_aP, ↓r_iOf, ↓r_iF, ↓r_def, ↓r_ref, r_seqNx, r_seqRt, r_seqBk, r_seqCt, r_ifT, r_ifF, r_setV, r_setOt, r_setOl, r_setOd, r_setOs, r_retK, r_retVv, r_retVo, r_asgK, r_tgN, r_tgT, r_tgL, r_tgs0, r_tgs, r_parK, r_ownL, r_ownLo, r_ownD, r_ownDo, r_appK, r_appJ, r_extK, r_extJ, r_stoK, r_stoI, r_stoJ, r_stoL, r_orT, r_orF, r_andT, r_andF, r_vorK, r_vorT, r_vorF, r_vandK, r_vandT, r_vandF, r_notK, r_truK, r_truB, r_truI, r_truL, r_truT, r_truN, r_isBK, r_rdV, r_rdO, r_dV, r_dO, r_valV, r_valL, r_valD, r_rVv, r_rVo, r_rVb, r_eVv, r_uVv, r_uVo, r_uVb, r_uVlK, r_sqK, r_consK, r_opK, r_opJ, r_chK, r_chJ, r_chT, r_chF, r_clK, r_ntK, r_ngK, r_tpK, r_lsK, r_slK, r_slJ, r_slI, r_slL, r_slT, r_aPK, r_sqL, r_sqT, r_sqS, r_rtR, r_rtN, r_refO, r_refE, r_wdK, r_bAdd, r_bSub, r_bMul, r_bDiv, r_bMod, r_bPow, r_cLt, r_cLe, r_cGt, r_cGe, r_cEq, r_cNe, r_ixL, r_ixT, r_of, r_lenL, r_lenT, r_lenS, Pd.R.bind_ok, Pd.R.bind_err, Pd.R.bind_stuck, noE_ok', mul_r, div_i, mod_i, add_i, sub_i, lt_i, le_i, gt_i, ge_i, eq_i, ne_i, pow18, List.cons_append, List.nil_append, List.getElem?_cons_zero, List.getElem?_cons_succ, List.replicate_succ, List.replicate_zero, List.set_cons_zero, List.set_cons_succ, List.length_cons, List.length_nil, if_true, if_false, Bool.not_true, Bool.not_false, Bool.false_eq_true, ↓reduceIte, Nat.reduceAdd, Nat.reduceLeDiff, Nat.reduceLT, Nat.zero_add, Option.map_some, Int.cast_ofNat_Int, Int.natCast_one, Int.natCast_zero, Int.reduceBEq, Int.reduceLT, Int.reduceLE, Int.reduceAdd, Int.reduceSub, Int.reduceMul, Int.reduceNeg, Int.reduceDiv, Int.reduceMod, decide_true, decide_false, hr1]
      rfl) (fun l hl => by
      have := near_sub (m := m) (p := p) (l := l) (by have := R.half l hl; omega) (by omega)
      simp (implicitDefEqProofs := false) (disch := omega) only [↓r_seq, ↓r_next, ↓r_if, ↓r_eif, ↓r_set, ↓r_ret, ↓r_retV, ↓r_expr, ↓r_asg, ↓r_par, ↓r_app, ↓r_ext, ↓r_sto, ↓r_or1, ↓r_or, ↓r_and1, ↓r_and, ↓r_vor1, ↓r_vor, ↓r_vand1, ↓r_vand, ↓r_not, ↓r_tru, ↓r_isB, ↓r_eC, ↓r_rd, ↓r_vl, ↓r_rV, ↓r_eV, ↓r_uV, ↓r_uVl, ↓r_sq0, ↓r_sq, ↓r_e2, ↓r_e3, ↓r_call, ↓r_user, ↓r_enot, ↓r_eneg, ↓r_tup, ↓r_lst, ↓r_sl, ↓r_noP, ↓r_aP, ↓r_iOf, ↓r_iF, ↓r_def, ↓r_ref, r_seqNx, r_seqRt, r_seqBk, r_seqCt, r_ifT, r_ifF, r_setV, r_setOt, r_setOl, r_setOd, r_setOs, r_retK, r_retVv, r_retVo, r_asgK, r_tgN, r_tgT, r_tgL, r_tgs0, r_tgs, r_parK, r_ownL, r_ownLo, r_ownD, r_ownDo, r_appK, r_appJ, r_extK, r_extJ, r_stoK, r_stoI, r_stoJ, r_stoL, r_orT, r_orF, r_andT, r_andF, r_vorK, r_vorT, r_vorF, r_vandK, r_vandT, r_vandF, r_notK, r_truK, r_truB, r_truI, r_truL, r_truT, r_truN, r_isBK, r_rdV, r_rdO, r_dV, r_dO, r_valV, r_valL, r_valD, r_rVv, r_rVo, r_rVb, r_eVv, r_uVv, r_uVo, r_uVb, r_uVlK, r_sqK, r_consK, r_opK, r_opJ, r_chK, r_chJ, r_chT, r_chF, r_clK, r_ntK, r_ngK, r_tpK, r_lsK, r_slK, r_slJ, r_slI, r_slL, r_slT, r_aPK, r_sqL, r_sqT, r_sqS, r_rtR, r_rtN, r_refO, r_refE, r_wdK, r_bAdd, r_bSub, r_bMul, r_bDiv, r_bMod, r_bPow, r_cLt, r_cLe, r_cGt, r_cGe, r_cEq, r_cNe, r_ixL, r_ixT, r_of, r_lenL, r_lenT, r_lenS, Pd.R.bind_ok, Pd.R.bind_err, Pd.R.bind_stuck, noE_ok', mul_r, div_i, mod_i, add_i, sub_i, lt_i, le_i, gt_i, ge_i, eq_i, ne_i, pow18, List.cons_append, List.nil_append, List.getElem?_cons_zero, List.getElem?_cons_succ, List.replicate_succ, List.replicate_zero, List.set_cons_zero, List.set_cons_succ, List.length_cons, List.length_nil, if_true, if_false, Bool.not_true, Bool.not_false, Bool.false_eq_true, ↓reduceIte, Nat.reduceAdd, Nat.reduceLeDiff, Nat.reduceLT, Nat.zero_add, Option.map_some, Int.cast_ofNat_Int, Int.natCast_one, Int.natCast_zero, Int.reduceBEq, Int.reduceLT, Int.reduceLE, Int.reduceAdd, Int.reduceSub, Int.reduceMul, Int.reduceNeg, Int.reduceDiv, Int.reduceMod, decide_true, decide_false, wipeG, this])
  have ea : dAdd (.lst (ls.map fun l => .int (((p + l) % m : Nat) : Int))) (.lst (ls.map fun l => .int (((p + (m - l)) % m : Nat) : Int))) = some (.o (.lst (nD ((ls.map fun l => (p + l) % m) ++ (ls.map fun l => (p + (m - l)) % m))))) := by
    rw [add_l (by rw [List.length_map, List.length_map]; omega)]
    unfold nD
    rw [List.map_append, List.map_map, List.map_map]
    rfl
  obtain ⟨q, e3, e4, e5⟩ := setN ((ls.map fun l => (p + l) % m) ++ (ls.map fun l => (p + (m - l)) % m))
  have e6 : setF (.lst (nD ((ls.map fun l => (p + l) % m) ++ (ls.map fun l => (p + (m - l)) % m)))) = .ok (q.map fun n : Nat => (n : Int)) := by
    unfold setF
    dsimp only
    rw [nD_iD, intsOf_iD, Pd.R.of_some, Pd.R.bind_ok, if_pos (by rw [List.length_map, List.length_append, List.length_map, List.length_map]; omega), e3]
  have e7 : q = nearN m ls p := by
    refine ris_ext e5 (near_ris m ls p) fun n => ?_
    rw [e4, mem_near, List.mem_append, List.mem_map, List.mem_map]
    constructor
    · rintro (⟨l, hl, rfl⟩ | ⟨l, hl, rfl⟩)
      · exact ⟨Nat.mod_lt _ (by omega), l, hl, .inl rfl⟩
      · exact ⟨Nat.mod_lt _ (by omega), l, hl, .inr rfl⟩
    · rintro ⟨_, l, hl, h | h⟩
      · exact .inl ⟨l, hl, h⟩
      · exact .inr ⟨l, hl, h⟩
  have e8 : (q.map fun n : Nat => (n : Int)).map D.int = nD (nearN m ls p) := by rw [e7, nD_iD]; rfl
  unfold d__law_beside f__law_beside
  refine def_rt ?_
  refine seq_nx (Γ1 := [.val (ringD m ls), .val (.int p), .val (.int m), .un]) (by simp (implicitDefEqProofs := false) (disch := omega) only [↓r_seq, ↓r_next, ↓r_if, ↓r_eif, ↓r_set, ↓r_ret, ↓r_retV, ↓r_expr, ↓r_asg, ↓r_par, ↓r_app, ↓r_ext, ↓r_sto, ↓r_or1, ↓r_or, ↓r_and1, ↓r_and, ↓r_vor1, ↓r_vor, ↓r_vand1, ↓r_vand, ↓r_not, ↓r_tru, ↓r_isB, ↓r_eC, ↓r_rd, ↓r_vl, ↓r_rV, ↓r_eV, ↓r_uV, ↓r_uVl, ↓r_sq0, ↓r_sq, ↓r_e2, ↓r_e3, ↓r_call, ↓r_user, ↓r_enot, ↓r_eneg, ↓r_tup, ↓r_lst, ↓r_sl, ↓r_noP, ↓r_aP, ↓r_iOf, ↓r_iF, ↓r_def, ↓r_ref, r_seqNx, r_seqRt, r_seqBk, r_seqCt, r_ifT, r_ifF, r_setV, r_setOt, r_setOl, r_setOd, r_setOs, r_retK, r_retVv, r_retVo, r_asgK, r_tgN, r_tgT, r_tgL, r_tgs0, r_tgs, r_parK, r_ownL, r_ownLo, r_ownD, r_ownDo, r_appK, r_appJ, r_extK, r_extJ, r_stoK, r_stoI, r_stoJ, r_stoL, r_orT, r_orF, r_andT, r_andF, r_vorK, r_vorT, r_vorF, r_vandK, r_vandT, r_vandF, r_notK, r_truK, r_truB, r_truI, r_truL, r_truT, r_truN, r_isBK, r_rdV, r_rdO, r_dV, r_dO, r_valV, r_valL, r_valD, r_rVv, r_rVo, r_rVb, r_eVv, r_uVv, r_uVo, r_uVb, r_uVlK, r_sqK, r_consK, r_opK, r_opJ, r_chK, r_chJ, r_chT, r_chF, r_clK, r_ntK, r_ngK, r_tpK, r_lsK, r_slK, r_slJ, r_slI, r_slL, r_slT, r_aPK, r_sqL, r_sqT, r_sqS, r_rtR, r_rtN, r_refO, r_refE, r_wdK, r_bAdd, r_bSub, r_bMul, r_bDiv, r_bMod, r_bPow, r_cLt, r_cLe, r_cGt, r_cGe, r_cEq, r_cNe, r_ixL, r_ixT, r_of, r_lenL, r_lenT, r_lenS, Pd.R.bind_ok, Pd.R.bind_err, Pd.R.bind_stuck, noE_ok', mul_r, div_i, mod_i, add_i, sub_i, lt_i, le_i, gt_i, ge_i, eq_i, ne_i, pow18, List.cons_append, List.nil_append, List.getElem?_cons_zero, List.getElem?_cons_succ, List.replicate_succ, List.replicate_zero, List.set_cons_zero, List.set_cons_succ, List.length_cons, List.length_nil, if_true, if_false, Bool.not_true, Bool.not_false, Bool.false_eq_true, ↓reduceIte, Nat.reduceAdd, Nat.reduceLeDiff, Nat.reduceLT, Nat.zero_add, Option.map_some, Int.cast_ofNat_Int, Int.natCast_one, Int.natCast_zero, Int.reduceBEq, Int.reduceLT, Int.reduceLE, Int.reduceAdd, Int.reduceSub, Int.reduceMul, Int.reduceNeg, Int.reduceDiv, Int.reduceMod, decide_true, decide_false, ix]) ?_
  simp (implicitDefEqProofs := false) (disch := omega) only [↓r_seq, ↓r_next, ↓r_if, ↓r_eif, ↓r_set, ↓r_ret, ↓r_retV, ↓r_expr, ↓r_asg, ↓r_par, ↓r_app, ↓r_ext, ↓r_sto, ↓r_or1, ↓r_or, ↓r_and1, ↓r_and, ↓r_vor1, ↓r_vor, ↓r_vand1, ↓r_vand, ↓r_not, ↓r_tru, ↓r_isB, ↓r_eC, ↓r_rd, ↓r_vl, ↓r_rV, ↓r_eV, ↓r_uV, ↓r_uVl, ↓r_sq0, ↓r_sq, ↓r_e2, ↓r_e3, ↓r_call, ↓r_user, ↓r_enot, ↓r_eneg, ↓r_tup, ↓r_lst, ↓r_sl, ↓r_noP, ↓r_aP, ↓r_iOf, ↓r_iF, ↓r_def, ↓r_ref, r_seqNx, r_seqRt, r_seqBk, r_seqCt, r_ifT, r_ifF, r_setV, r_setOt, r_setOl, r_setOd, r_setOs, r_retK, r_retVv, r_retVo, r_asgK, r_tgN, r_tgT, r_tgL, r_tgs0, r_tgs, r_parK, r_ownL, r_ownLo, r_ownD, r_ownDo, r_appK, r_appJ, r_extK, r_extJ, r_stoK, r_stoI, r_stoJ, r_stoL, r_orT, r_orF, r_andT, r_andF, r_vorK, r_vorT, r_vorF, r_vandK, r_vandT, r_vandF, r_notK, r_truK, r_truB, r_truI, r_truL, r_truT, r_truN, r_isBK, r_rdV, r_rdO, r_dV, r_dO, r_valV, r_valL, r_valD, r_rVv, r_rVo, r_rVb, r_eVv, r_uVv, r_uVo, r_uVb, r_uVlK, r_sqK, r_consK, r_opK, r_opJ, r_chK, r_chJ, r_chT, r_chF, r_clK, r_ntK, r_ngK, r_tpK, r_lsK, r_slK, r_slJ, r_slI, r_slL, r_slT, r_aPK, r_sqL, r_sqT, r_sqS, r_rtR, r_rtN, r_refO, r_refE, r_wdK, r_bAdd, r_bSub, r_bMul, r_bDiv, r_bMod, r_bPow, r_cLt, r_cLe, r_cGt, r_cGe, r_cEq, r_cNe, r_ixL, r_ixT, r_of, r_lenL, r_lenT, r_lenS, Pd.R.bind_ok, Pd.R.bind_err, Pd.R.bind_stuck, noE_ok', mul_r, div_i, mod_i, add_i, sub_i, lt_i, le_i, gt_i, ge_i, eq_i, ne_i, pow18, List.cons_append, List.nil_append, List.getElem?_cons_zero, List.getElem?_cons_succ, List.replicate_succ, List.replicate_zero, List.set_cons_zero, List.set_cons_succ, List.length_cons, List.length_nil, if_true, if_false, Bool.not_true, Bool.not_false, Bool.false_eq_true, ↓reduceIte, Nat.reduceAdd, Nat.reduceLeDiff, Nat.reduceLT, Nat.zero_add, Option.map_some, Int.cast_ofNat_Int, Int.natCast_one, Int.natCast_zero, Int.reduceBEq, Int.reduceLT, Int.reduceLE, Int.reduceAdd, Int.reduceSub, Int.reduceMul, Int.reduceNeg, Int.reduceDiv, Int.reduceMod, decide_true, decide_false, e1, e2', ea, eSortSet, e6, e8]
def nearL (m : Nat) (ls : List Nat) : List (List Nat) := (List.range m).map (nearN m ls)
theorem nearL_len : (nearL m ls).length = m := by unfold nearL; rw [List.length_map, List.length_range]
theorem nearL_adj {p : Nat} (hp : p < m) : adjN (nearL m ls) p = nearN m ls p := by
  unfold adjN nearL
  rw [List.getD_eq_getElem?_getD, List.getElem?_map, List.getElem?_range hp]
  rfl
theorem nearL_lt : ∀ l ∈ nearL m ls, ∀ q ∈ l, q < (nearL m ls).length := fun l hl q hq => by
  obtain ⟨p, _, rfl⟩ := List.mem_map.mp hl
  rw [nearL_len]
  exact near_lt hq
theorem wkN_near {p : Nat} (hp : p < m) : ∀ (n q : Nat), WkN (nearL m ls) n p q ↔ Wk m ls n p q
  | 0, q => Iff.rfl
  | n + 1, q => by
    constructor
    · rintro ⟨r, hr, hq⟩
      have hrl := wkN_lt nearL_lt (by rw [nearL_len]; exact hp) hr
      rw [nearL_len] at hrl
      rw [nearL_adj hrl] at hq
      exact ⟨r, (wkN_near hp n r).mp hr, hq⟩
    · rintro ⟨r, hr, hq⟩
      have hw := (wkN_near hp n r).mpr hr
      have hrl := wkN_lt nearL_lt (by rw [nearL_len]; exact hp) hw
      rw [nearL_len] at hrl
      exact ⟨r, hw, by rw [nearL_adj hrl]; exact hq⟩
theorem come_v (R : Ring m ls) : d__law_come [.val (ringD m ls)] = .ok (.v (.int ((m / gcdL m ls : Nat) : Int))) := by
  have h3 := R.m3
  have h100 := R.m100
  have ix := ring_ix m ls
  have e1 := lc_of (fi := iOf rngF1 (seqR [rd (e2 dIx (rVar 0) (rd (eC (.int 0))))])) (i := 1) (te := vl (eUser d__law_beside (seqR [uVar 0, uVar 1]))) (vs := [1]) (Γ := [.val (ringD m ls), .un]) (l := List.range m) (φ := fun n : Nat => .int (n : Int)) (fun p => .lst (nD (nearN m ls p))) (by
      have := rng1 (n := m) (by omega)
      simp (implicitDefEqProofs := false) (disch := omega) only [↓r_seq, ↓r_next, ↓r_if, ↓r_eif, ↓r_set, ↓r_ret, ↓r_retV, ↓r_expr, ↓r_asg, ↓r_par, ↓r_app, ↓r_ext, ↓r_sto, ↓r_or1, ↓r_or, ↓r_and1, ↓r_and, ↓r_vor1, ↓r_vor, ↓r_vand1, ↓r_vand, ↓r_not, ↓r_tru, ↓r_isB, ↓r_eC, ↓r_rd, ↓r_vl, ↓r_rV, ↓r_eV, ↓r_uV, ↓r_uVl, ↓r_sq0, ↓r_sq, ↓r_e2, ↓r_e3, ↓r_call, ↓r_user, ↓r_enot, ↓r_eneg, ↓r_tup, ↓r_lst, ↓r_sl, ↓r_noP, ↓r_aP, ↓r_iOf, ↓r_iF, ↓r_def, ↓r_ref, r_seqNx, r_seqRt, r_seqBk, r_seqCt, r_ifT, r_ifF, r_setV, r_setOt, r_setOl, r_setOd, r_setOs, r_retK, r_retVv, r_retVo, r_asgK, r_tgN, r_tgT, r_tgL, r_tgs0, r_tgs, r_parK, r_ownL, r_ownLo, r_ownD, r_ownDo, r_appK, r_appJ, r_extK, r_extJ, r_stoK, r_stoI, r_stoJ, r_stoL, r_orT, r_orF, r_andT, r_andF, r_vorK, r_vorT, r_vorF, r_vandK, r_vandT, r_vandF, r_notK, r_truK, r_truB, r_truI, r_truL, r_truT, r_truN, r_isBK, r_rdV, r_rdO, r_dV, r_dO, r_valV, r_valL, r_valD, r_rVv, r_rVo, r_rVb, r_eVv, r_uVv, r_uVo, r_uVb, r_uVlK, r_sqK, r_consK, r_opK, r_opJ, r_chK, r_chJ, r_chT, r_chF, r_clK, r_ntK, r_ngK, r_tpK, r_lsK, r_slK, r_slJ, r_slI, r_slL, r_slT, r_aPK, r_sqL, r_sqT, r_sqS, r_rtR, r_rtN, r_refO, r_refE, r_wdK, r_bAdd, r_bSub, r_bMul, r_bDiv, r_bMod, r_bPow, r_cLt, r_cLe, r_cGt, r_cGe, r_cEq, r_cNe, r_ixL, r_ixT, r_of, r_lenL, r_lenT, r_lenS, Pd.R.bind_ok, Pd.R.bind_err, Pd.R.bind_stuck, noE_ok', mul_r, div_i, mod_i, add_i, sub_i, lt_i, le_i, gt_i, ge_i, eq_i, ne_i, pow18, List.cons_append, List.nil_append, List.getElem?_cons_zero, List.getElem?_cons_succ, List.replicate_succ, List.replicate_zero, List.set_cons_zero, List.set_cons_succ, List.length_cons, List.length_nil, if_true, if_false, Bool.not_true, Bool.not_false, Bool.false_eq_true, ↓reduceIte, Nat.reduceAdd, Nat.reduceLeDiff, Nat.reduceLT, Nat.zero_add, Option.map_some, Int.cast_ofNat_Int, Int.natCast_one, Int.natCast_zero, Int.reduceBEq, Int.reduceLT, Int.reduceLE, Int.reduceAdd, Int.reduceSub, Int.reduceMul, Int.reduceNeg, Int.reduceDiv, Int.reduceMod, decide_true, decide_false, ix]
      exact this) (fun p _ => by
      have := lbeside_v R p
      simp (implicitDefEqProofs := false) (disch := omega) only [↓r_seq, ↓r_next, ↓r_if, ↓r_eif, ↓r_set, ↓r_ret, ↓r_retV, ↓r_expr, ↓r_asg, ↓r_par, ↓r_app, ↓r_ext, ↓r_sto, ↓r_or1, ↓r_or, ↓r_and1, ↓r_and, ↓r_vor1, ↓r_vor, ↓r_vand1, ↓r_vand, ↓r_not, ↓r_tru, ↓r_isB, ↓r_eC, ↓r_rd, ↓r_vl, ↓r_rV, ↓r_eV, ↓r_uV, ↓r_uVl, ↓r_sq0, ↓r_sq, ↓r_e2, ↓r_e3, ↓r_call, ↓r_user, ↓r_enot, ↓r_eneg, ↓r_tup, ↓r_lst, ↓r_sl, ↓r_noP, ↓r_aP, ↓r_iOf, ↓r_iF, ↓r_def, ↓r_ref, r_seqNx, r_seqRt, r_seqBk, r_seqCt, r_ifT, r_ifF, r_setV, r_setOt, r_setOl, r_setOd, r_setOs, r_retK, r_retVv, r_retVo, r_asgK, r_tgN, r_tgT, r_tgL, r_tgs0, r_tgs, r_parK, r_ownL, r_ownLo, r_ownD, r_ownDo, r_appK, r_appJ, r_extK, r_extJ, r_stoK, r_stoI, r_stoJ, r_stoL, r_orT, r_orF, r_andT, r_andF, r_vorK, r_vorT, r_vorF, r_vandK, r_vandT, r_vandF, r_notK, r_truK, r_truB, r_truI, r_truL, r_truT, r_truN, r_isBK, r_rdV, r_rdO, r_dV, r_dO, r_valV, r_valL, r_valD, r_rVv, r_rVo, r_rVb, r_eVv, r_uVv, r_uVo, r_uVb, r_uVlK, r_sqK, r_consK, r_opK, r_opJ, r_chK, r_chJ, r_chT, r_chF, r_clK, r_ntK, r_ngK, r_tpK, r_lsK, r_slK, r_slJ, r_slI, r_slL, r_slT, r_aPK, r_sqL, r_sqT, r_sqS, r_rtR, r_rtN, r_refO, r_refE, r_wdK, r_bAdd, r_bSub, r_bMul, r_bDiv, r_bMod, r_bPow, r_cLt, r_cLe, r_cGt, r_cGe, r_cEq, r_cNe, r_ixL, r_ixT, r_of, r_lenL, r_lenT, r_lenS, Pd.R.bind_ok, Pd.R.bind_err, Pd.R.bind_stuck, noE_ok', mul_r, div_i, mod_i, add_i, sub_i, lt_i, le_i, gt_i, ge_i, eq_i, ne_i, pow18, List.cons_append, List.nil_append, List.getElem?_cons_zero, List.getElem?_cons_succ, List.replicate_succ, List.replicate_zero, List.set_cons_zero, List.set_cons_succ, List.length_cons, List.length_nil, if_true, if_false, Bool.not_true, Bool.not_false, Bool.false_eq_true, ↓reduceIte, Nat.reduceAdd, Nat.reduceLeDiff, Nat.reduceLT, Nat.zero_add, Option.map_some, Int.cast_ofNat_Int, Int.natCast_one, Int.natCast_zero, Int.reduceBEq, Int.reduceLT, Int.reduceLE, Int.reduceAdd, Int.reduceSub, Int.reduceMul, Int.reduceNeg, Int.reduceDiv, Int.reduceMod, decide_true, decide_false, wipeG, this])
  obtain ⟨L, hn, hL, e2'⟩ := off_v (N := nearL m ls) nearL_lt (by rw [nearL_len]; omega) (p := 0) (by rw [nearL_len]; omega)
  have hnl : D.lst ((List.range m).map fun p => .lst (nD (nearN m ls p))) = nLD (nearL m ls) := by
    unfold nLD nearL
    rw [List.map_map]
    rfl
  rw [Int.natCast_zero, ← hnl] at e2'
  have hg := gcdL_le ls m (by omega)
  have hd := ((dvd_gcdL (d := gcdL m ls) ls m).mp (Nat.dvd_refl _)).1
  obtain ⟨k, hk⟩ := hd
  have hgk : m / gcdL m ls = k := Nat.div_eq_of_eq_mul_right hg.1 hk
  have hlen : L.length = m / gcdL m ls := by
    rw [hgk]
    have hp : (L.map Prod.fst).Perm ((List.range k).map (gcdL m ls * ·)) := by
      refine perm_of_mem hn (nodup_map_of List.nodup_range fun a _ b _ e => Nat.eq_of_mul_eq_mul_left hg.1 e) fun q => ?_
      rw [List.mem_map, List.mem_map]
      constructor
      · rintro ⟨⟨q, t⟩, h, rfl⟩
        have hi := (hL q t).mp h
        have hql := wkN_lt nearL_lt (by rw [nearL_len]; omega) hi.1
        rw [nearL_len] at hql
        have hw := (reach_iff R (p := 0) (q := q) (by omega) hql).mp ⟨t, (wkN_near (by omega) t q).mp hi.1⟩
        rw [Nat.zero_mod] at hw
        obtain ⟨j, hj⟩ := Nat.dvd_of_mod_eq_zero hw
        refine ⟨j, List.mem_range.mpr ?_, hj.symm⟩
        rw [hj, hk] at hql
        have : gcdL m ls * j < gcdL m ls * k := by
          rw [← hk]
          rw [← hk] at hql
          exact hql
        exact Nat.lt_of_mul_lt_mul_left this
      · rintro ⟨j, hj, rfl⟩
        have hj := List.mem_range.mp hj
        have hql : gcdL m ls * j < m := by
          conv => rhs; rw [hk]
          exact Nat.mul_lt_mul_of_pos_left hj hg.1
        obtain ⟨n, hw⟩ := (reach_iff R (p := 0) (q := gcdL m ls * j) (by omega) hql).mpr (by rw [Nat.zero_mod, Nat.mul_mod_right])
        obtain ⟨t, _, hi⟩ := wkN_min n ((wkN_near (by omega) n _).mpr hw)
        exact ⟨(_, t), (hL _ t).mpr hi, rfl⟩
    have := hp.length_eq
    rw [List.length_map, List.length_map, List.length_range] at this
    exact this
  have hlenD : fLen [.dct (L.map kvD)] = some (.v (.int (L.length : Nat))) := by
    show some (O.v (.int ((L.map kvD).length : Nat))) = _
    rw [List.length_map]
  rw [hlen] at hlenD
  unfold d__law_come f__law_come
  simp (implicitDefEqProofs := false) (disch := omega) only [↓r_seq, ↓r_next, ↓r_if, ↓r_eif, ↓r_set, ↓r_ret, ↓r_retV, ↓r_expr, ↓r_asg, ↓r_par, ↓r_app, ↓r_ext, ↓r_sto, ↓r_or1, ↓r_or, ↓r_and1, ↓r_and, ↓r_vor1, ↓r_vor, ↓r_vand1, ↓r_vand, ↓r_not, ↓r_tru, ↓r_isB, ↓r_eC, ↓r_rd, ↓r_vl, ↓r_rV, ↓r_eV, ↓r_uV, ↓r_uVl, ↓r_sq0, ↓r_sq, ↓r_e2, ↓r_e3, ↓r_call, ↓r_user, ↓r_enot, ↓r_eneg, ↓r_tup, ↓r_lst, ↓r_sl, ↓r_noP, ↓r_aP, ↓r_iOf, ↓r_iF, ↓r_def, ↓r_ref, r_seqNx, r_seqRt, r_seqBk, r_seqCt, r_ifT, r_ifF, r_setV, r_setOt, r_setOl, r_setOd, r_setOs, r_retK, r_retVv, r_retVo, r_asgK, r_tgN, r_tgT, r_tgL, r_tgs0, r_tgs, r_parK, r_ownL, r_ownLo, r_ownD, r_ownDo, r_appK, r_appJ, r_extK, r_extJ, r_stoK, r_stoI, r_stoJ, r_stoL, r_orT, r_orF, r_andT, r_andF, r_vorK, r_vorT, r_vorF, r_vandK, r_vandT, r_vandF, r_notK, r_truK, r_truB, r_truI, r_truL, r_truT, r_truN, r_isBK, r_rdV, r_rdO, r_dV, r_dO, r_valV, r_valL, r_valD, r_rVv, r_rVo, r_rVb, r_eVv, r_uVv, r_uVo, r_uVb, r_uVlK, r_sqK, r_consK, r_opK, r_opJ, r_chK, r_chJ, r_chT, r_chF, r_clK, r_ntK, r_ngK, r_tpK, r_lsK, r_slK, r_slJ, r_slI, r_slL, r_slT, r_aPK, r_sqL, r_sqT, r_sqS, r_rtR, r_rtN, r_refO, r_refE, r_wdK, r_bAdd, r_bSub, r_bMul, r_bDiv, r_bMod, r_bPow, r_cLt, r_cLe, r_cGt, r_cGe, r_cEq, r_cNe, r_ixL, r_ixT, r_of, r_lenL, r_lenT, r_lenS, Pd.R.bind_ok, Pd.R.bind_err, Pd.R.bind_stuck, noE_ok', mul_r, div_i, mod_i, add_i, sub_i, lt_i, le_i, gt_i, ge_i, eq_i, ne_i, pow18, List.cons_append, List.nil_append, List.getElem?_cons_zero, List.getElem?_cons_succ, List.replicate_succ, List.replicate_zero, List.set_cons_zero, List.set_cons_succ, List.length_cons, List.length_nil, if_true, if_false, Bool.not_true, Bool.not_false, Bool.false_eq_true, ↓reduceIte, Nat.reduceAdd, Nat.reduceLeDiff, Nat.reduceLT, Nat.zero_add, Option.map_some, Int.cast_ofNat_Int, Int.natCast_one, Int.natCast_zero, Int.reduceBEq, Int.reduceLT, Int.reduceLE, Int.reduceAdd, Int.reduceSub, Int.reduceMul, Int.reduceNeg, Int.reduceDiv, Int.reduceMod, decide_true, decide_false, e1, e2', hlenD]
end
end Pd

set_option Elab.async false
set_option linter.all false
set_option maxRecDepth 100000
set_option maxHeartbeats 1000000
namespace Pd
open PySem PySem.Spec L2 Pr
def Sol (m a z : Nat) : Prop := ∃ x, (x * a) % m = z % m
section
variable {m a b : Nat}
def onN (m a b x y : Nat) : Bool := decide ((x * a + y * b) % m = 0)
def pN (m a : Nat) : Nat := m / Nat.gcd m a
def rN (m a b : Nat) : Nat := Nat.gcd m a / Nat.gcd (Nat.gcd m a) b
def qN (m a b : Nat) : Nat := ((List.range m).filter fun x => onN m a b x (rN m a b)).headD 0
def netD (m a b : Nat) : D := .tup [.tup [.int (pN m a : Nat), .int 0], .tup [.int (qN m a b : Nat), .int (rN m a b : Nat)]]
end
def isCel (k : Int) : D → Bool
  | .tup ds => decide (ds.length = 2) && ds.all fun d => isNum d (-k) k
  | _ => false
theorem is_cell_v {d : D} (k : Int) (h : okD d = true) : d_is_cell [.val d, .val (.int k)] = .ok (.v (.bl (isCel k d))) := by
  have it := isi_tup h
  unfold d_is_cell f_is_cell
  cases ht : isT d with
  | false =>
    rw [ht] at it
    have : isCel k d = false := by cases d <;> first | rfl | (cases ht; done)
    rw [this]
    simp (implicitDefEqProofs := false) (disch := omega) only [↓r_seq, ↓r_next, ↓r_if, ↓r_eif, ↓r_set, ↓r_ret, ↓r_retV, ↓r_expr, ↓r_asg, ↓r_par, ↓r_app, ↓r_ext, ↓r_sto, ↓r_or1, ↓r_or, ↓r_and1, ↓r_and, ↓r_vor1, ↓r_vor, ↓r_vand1, ↓r_vand, ↓r_not, ↓r_tru, ↓r_isB, ↓r_eC, ↓r_rd, ↓r_vl, ↓r_rV, ↓r_eV, ↓r_uV, ↓r_uVl, ↓r_sq0, ↓r_sq, ↓r_e2, ↓r_e3, ↓r_call, ↓r_user, ↓r_enot, ↓r_eneg, ↓r_tup, ↓r_lst, ↓r_sl, ↓r_noP, ↓r_aP, ↓r_iOf, ↓r_iF, ↓r_def, ↓r_ref, r_seqNx, r_seqRt, r_seqBk, r_seqCt, r_ifT, r_ifF, r_setV, r_setOt, r_setOl, r_setOd, r_setOs, r_retK, r_retVv, r_retVo, r_asgK, r_tgN, r_tgT, r_tgL, r_tgs0, r_tgs, r_parK, r_ownL, r_ownLo, r_ownD, r_ownDo, r_appK, r_appJ, r_extK, r_extJ, r_stoK, r_stoI, r_stoJ, r_stoL, r_orT, r_orF, r_andT, r_andF, r_vorK, r_vorT, r_vorF, r_vandK, r_vandT, r_vandF, r_notK, r_truK, r_truB, r_truI, r_truL, r_truT, r_truN, r_isBK, r_rdV, r_rdO, r_dV, r_dO, r_valV, r_valL, r_valD, r_rVv, r_rVo, r_rVb, r_eVv, r_uVv, r_uVo, r_uVb, r_uVlK, r_sqK, r_consK, r_opK, r_opJ, r_chK, r_chJ, r_chT, r_chF, r_clK, r_ntK, r_ngK, r_tpK, r_lsK, r_slK, r_slJ, r_slI, r_slL, r_slT, r_aPK, r_sqL, r_sqT, r_sqS, r_rtR, r_rtN, r_refO, r_refE, r_wdK, r_bAdd, r_bSub, r_bMul, r_bDiv, r_bMod, r_bPow, r_cLt, r_cLe, r_cGt, r_cGe, r_cEq, r_cNe, r_ixL, r_ixT, r_of, r_lenL, r_lenT, r_lenS, Pd.R.bind_ok, Pd.R.bind_err, Pd.R.bind_stuck, noE_ok', mul_r, div_i, mod_i, add_i, sub_i, lt_i, le_i, gt_i, ge_i, eq_i, ne_i, pow18, List.cons_append, List.nil_append, List.getElem?_cons_zero, List.getElem?_cons_succ, List.replicate_succ, List.replicate_zero, List.set_cons_zero, List.set_cons_succ, List.length_cons, List.length_nil, if_true, if_false, Bool.not_true, Bool.not_false, Bool.false_eq_true, ↓reduceIte, Nat.reduceAdd, Nat.reduceLeDiff, Nat.reduceLT, Nat.zero_add, Option.map_some, Int.cast_ofNat_Int, Int.natCast_one, Int.natCast_zero, Int.reduceBEq, Int.reduceLT, Int.reduceLE, Int.reduceAdd, Int.reduceSub, Int.reduceMul, Int.reduceNeg, Int.reduceDiv, Int.reduceMod, decide_true, decide_false, it]
  | true =>
    rw [ht] at it
    obtain ⟨ds, rfl⟩ : ∃ ds, d = .tup ds := by cases d <;> first | (cases ht; done) | exact ⟨_, rfl⟩
    have hn := len_tup ds
    by_cases hl : ds.length = 2
    · have hb : ((ds.length : Int) == 2) = true := by rw [hl]; rfl
      have hok : ∀ d ∈ ds, okD d = true := okDs_all.mp (by rw [okD] at h; exact h)
      have hp : isCel k (.tup ds) = ds.all fun d => isNum d (-k) k := by
        show (decide (ds.length = 2) && _) = _
        rw [decide_eq_true hl, Bool.true_and]
      rw [hp]
      refine def_rt ?_
      refine seq_nx (Γ1 := [.val (.tup ds), .val (.int k), .un]) (if_no (by simp (implicitDefEqProofs := false) (disch := omega) only [↓r_seq, ↓r_next, ↓r_if, ↓r_eif, ↓r_set, ↓r_ret, ↓r_retV, ↓r_expr, ↓r_asg, ↓r_par, ↓r_app, ↓r_ext, ↓r_sto, ↓r_or1, ↓r_or, ↓r_and1, ↓r_and, ↓r_vor1, ↓r_vor, ↓r_vand1, ↓r_vand, ↓r_not, ↓r_tru, ↓r_isB, ↓r_eC, ↓r_rd, ↓r_vl, ↓r_rV, ↓r_eV, ↓r_uV, ↓r_uVl, ↓r_sq0, ↓r_sq, ↓r_e2, ↓r_e3, ↓r_call, ↓r_user, ↓r_enot, ↓r_eneg, ↓r_tup, ↓r_lst, ↓r_sl, ↓r_noP, ↓r_aP, ↓r_iOf, ↓r_iF, ↓r_def, ↓r_ref, r_seqNx, r_seqRt, r_seqBk, r_seqCt, r_ifT, r_ifF, r_setV, r_setOt, r_setOl, r_setOd, r_setOs, r_retK, r_retVv, r_retVo, r_asgK, r_tgN, r_tgT, r_tgL, r_tgs0, r_tgs, r_parK, r_ownL, r_ownLo, r_ownD, r_ownDo, r_appK, r_appJ, r_extK, r_extJ, r_stoK, r_stoI, r_stoJ, r_stoL, r_orT, r_orF, r_andT, r_andF, r_vorK, r_vorT, r_vorF, r_vandK, r_vandT, r_vandF, r_notK, r_truK, r_truB, r_truI, r_truL, r_truT, r_truN, r_isBK, r_rdV, r_rdO, r_dV, r_dO, r_valV, r_valL, r_valD, r_rVv, r_rVo, r_rVb, r_eVv, r_uVv, r_uVo, r_uVb, r_uVlK, r_sqK, r_consK, r_opK, r_opJ, r_chK, r_chJ, r_chT, r_chF, r_clK, r_ntK, r_ngK, r_tpK, r_lsK, r_slK, r_slJ, r_slI, r_slL, r_slT, r_aPK, r_sqL, r_sqT, r_sqS, r_rtR, r_rtN, r_refO, r_refE, r_wdK, r_bAdd, r_bSub, r_bMul, r_bDiv, r_bMod, r_bPow, r_cLt, r_cLe, r_cGt, r_cGe, r_cEq, r_cNe, r_ixL, r_ixT, r_of, r_lenL, r_lenT, r_lenS, Pd.R.bind_ok, Pd.R.bind_err, Pd.R.bind_stuck, noE_ok', mul_r, div_i, mod_i, add_i, sub_i, lt_i, le_i, gt_i, ge_i, eq_i, ne_i, pow18, List.cons_append, List.nil_append, List.getElem?_cons_zero, List.getElem?_cons_succ, List.replicate_succ, List.replicate_zero, List.set_cons_zero, List.set_cons_succ, List.length_cons, List.length_nil, if_true, if_false, Bool.not_true, Bool.not_false, Bool.false_eq_true, ↓reduceIte, Nat.reduceAdd, Nat.reduceLeDiff, Nat.reduceLT, Nat.zero_add, Option.map_some, Int.cast_ofNat_Int, Int.natCast_one, Int.natCast_zero, Int.reduceBEq, Int.reduceLT, Int.reduceLE, Int.reduceAdd, Int.reduceSub, Int.reduceMul, Int.reduceNeg, Int.reduceDiv, Int.reduceMod, decide_true, decide_false, it, hn, hb])) ?_
      have hz : (0 : Int) - k = -k := Int.zero_sub k
      have e1 := lc_of (fi := iF (rVar 0)) (i := 2) (te := vl (eUser d_is_number (seqR [uVar 2, uVal (vl (e2 (dBin .Sub) (rd (eC (.int 0))) (rVar 1))), uVar 1]))) (vs := [2]) (Γ := [.val (.tup ds), .val (.int k), .un]) (l := ds) (φ := fun d => d) (fun d => .bl (isNum d (-k) k)) (by
          simp (implicitDefEqProofs := false) (disch := omega) only [↓r_seq, ↓r_next, ↓r_if, ↓r_eif, ↓r_set, ↓r_ret, ↓r_retV, ↓r_expr, ↓r_asg, ↓r_par, ↓r_app, ↓r_ext, ↓r_sto, ↓r_or1, ↓r_or, ↓r_and1, ↓r_and, ↓r_vor1, ↓r_vor, ↓r_vand1, ↓r_vand, ↓r_not, ↓r_tru, ↓r_isB, ↓r_eC, ↓r_rd, ↓r_vl, ↓r_rV, ↓r_eV, ↓r_uV, ↓r_uVl, ↓r_sq0, ↓r_sq, ↓r_e2, ↓r_e3, ↓r_call, ↓r_user, ↓r_enot, ↓r_eneg, ↓r_tup, ↓r_lst, ↓r_sl, ↓r_noP, ↓r_aP, ↓r_iOf, ↓r_iF, ↓r_def, ↓r_ref, r_seqNx, r_seqRt, r_seqBk, r_seqCt, r_ifT, r_ifF, r_setV, r_setOt, r_setOl, r_setOd, r_setOs, r_retK, r_retVv, r_retVo, r_asgK, r_tgN, r_tgT, r_tgL, r_tgs0, r_tgs, r_parK, r_ownL, r_ownLo, r_ownD, r_ownDo, r_appK, r_appJ, r_extK, r_extJ, r_stoK, r_stoI, r_stoJ, r_stoL, r_orT, r_orF, r_andT, r_andF, r_vorK, r_vorT, r_vorF, r_vandK, r_vandT, r_vandF, r_notK, r_truK, r_truB, r_truI, r_truL, r_truT, r_truN, r_isBK, r_rdV, r_rdO, r_dV, r_dO, r_valV, r_valL, r_valD, r_rVv, r_rVo, r_rVb, r_eVv, r_uVv, r_uVo, r_uVb, r_uVlK, r_sqK, r_consK, r_opK, r_opJ, r_chK, r_chJ, r_chT, r_chF, r_clK, r_ntK, r_ngK, r_tpK, r_lsK, r_slK, r_slJ, r_slI, r_slL, r_slT, r_aPK, r_sqL, r_sqT, r_sqS, r_rtR, r_rtN, r_refO, r_refE, r_wdK, r_bAdd, r_bSub, r_bMul, r_bDiv, r_bMod, r_bPow, r_cLt, r_cLe, r_cGt, r_cGe, r_cEq, r_cNe, r_ixL, r_ixT, r_of, r_lenL, r_lenT, r_lenS, Pd.R.bind_ok, Pd.R.bind_err, Pd.R.bind_stuck, noE_ok', mul_r, div_i, mod_i, add_i, sub_i, lt_i, le_i, gt_i, ge_i, eq_i, ne_i, pow18, List.cons_append, List.nil_append, List.getElem?_cons_zero, List.getElem?_cons_succ, List.replicate_succ, List.replicate_zero, List.set_cons_zero, List.set_cons_succ, List.length_cons, List.length_nil, if_true, if_false, Bool.not_true, Bool.not_false, Bool.false_eq_true, ↓reduceIte, Nat.reduceAdd, Nat.reduceLeDiff, Nat.reduceLT, Nat.zero_add, Option.map_some, Int.cast_ofNat_Int, Int.natCast_one, Int.natCast_zero, Int.reduceBEq, Int.reduceLT, Int.reduceLE, Int.reduceAdd, Int.reduceSub, Int.reduceMul, Int.reduceNeg, Int.reduceDiv, Int.reduceMod, decide_true, decide_false]
          rw [List.map_id']) (fun d hd => by
          have := num_v (-k) k (hok d hd)
          simp (implicitDefEqProofs := false) (disch := omega) only [↓r_seq, ↓r_next, ↓r_if, ↓r_eif, ↓r_set, ↓r_ret, ↓r_retV, ↓r_expr, ↓r_asg, ↓r_par, ↓r_app, ↓r_ext, ↓r_sto, ↓r_or1, ↓r_or, ↓r_and1, ↓r_and, ↓r_vor1, ↓r_vor, ↓r_vand1, ↓r_vand, ↓r_not, ↓r_tru, ↓r_isB, ↓r_eC, ↓r_rd, ↓r_vl, ↓r_rV, ↓r_eV, ↓r_uV, ↓r_uVl, ↓r_sq0, ↓r_sq, ↓r_e2, ↓r_e3, ↓r_call, ↓r_user, ↓r_enot, ↓r_eneg, ↓r_tup, ↓r_lst, ↓r_sl, ↓r_noP, ↓r_aP, ↓r_iOf, ↓r_iF, ↓r_def, ↓r_ref, r_seqNx, r_seqRt, r_seqBk, r_seqCt, r_ifT, r_ifF, r_setV, r_setOt, r_setOl, r_setOd, r_setOs, r_retK, r_retVv, r_retVo, r_asgK, r_tgN, r_tgT, r_tgL, r_tgs0, r_tgs, r_parK, r_ownL, r_ownLo, r_ownD, r_ownDo, r_appK, r_appJ, r_extK, r_extJ, r_stoK, r_stoI, r_stoJ, r_stoL, r_orT, r_orF, r_andT, r_andF, r_vorK, r_vorT, r_vorF, r_vandK, r_vandT, r_vandF, r_notK, r_truK, r_truB, r_truI, r_truL, r_truT, r_truN, r_isBK, r_rdV, r_rdO, r_dV, r_dO, r_valV, r_valL, r_valD, r_rVv, r_rVo, r_rVb, r_eVv, r_uVv, r_uVo, r_uVb, r_uVlK, r_sqK, r_consK, r_opK, r_opJ, r_chK, r_chJ, r_chT, r_chF, r_clK, r_ntK, r_ngK, r_tpK, r_lsK, r_slK, r_slJ, r_slI, r_slL, r_slT, r_aPK, r_sqL, r_sqT, r_sqS, r_rtR, r_rtN, r_refO, r_refE, r_wdK, r_bAdd, r_bSub, r_bMul, r_bDiv, r_bMod, r_bPow, r_cLt, r_cLe, r_cGt, r_cGe, r_cEq, r_cNe, r_ixL, r_ixT, r_of, r_lenL, r_lenT, r_lenS, Pd.R.bind_ok, Pd.R.bind_err, Pd.R.bind_stuck, noE_ok', mul_r, div_i, mod_i, add_i, sub_i, lt_i, le_i, gt_i, ge_i, eq_i, ne_i, pow18, List.cons_append, List.nil_append, List.getElem?_cons_zero, List.getElem?_cons_succ, List.replicate_succ, List.replicate_zero, List.set_cons_zero, List.set_cons_succ, List.length_cons, List.length_nil, if_true, if_false, Bool.not_true, Bool.not_false, Bool.false_eq_true, ↓reduceIte, Nat.reduceAdd, Nat.reduceLeDiff, Nat.reduceLT, Nat.zero_add, Option.map_some, Int.cast_ofNat_Int, Int.natCast_one, Int.natCast_zero, Int.reduceBEq, Int.reduceLT, Int.reduceLE, Int.reduceAdd, Int.reduceSub, Int.reduceMul, Int.reduceNeg, Int.reduceDiv, Int.reduceMod, decide_true, decide_false, wipeG, hz, this])
      have e2' := all_b (fun d => isNum d (-k) k) ds
      simp (implicitDefEqProofs := false) (disch := omega) only [↓r_seq, ↓r_next, ↓r_if, ↓r_eif, ↓r_set, ↓r_ret, ↓r_retV, ↓r_expr, ↓r_asg, ↓r_par, ↓r_app, ↓r_ext, ↓r_sto, ↓r_or1, ↓r_or, ↓r_and1, ↓r_and, ↓r_vor1, ↓r_vor, ↓r_vand1, ↓r_vand, ↓r_not, ↓r_tru, ↓r_isB, ↓r_eC, ↓r_rd, ↓r_vl, ↓r_rV, ↓r_eV, ↓r_uV, ↓r_uVl, ↓r_sq0, ↓r_sq, ↓r_e2, ↓r_e3, ↓r_call, ↓r_user, ↓r_enot, ↓r_eneg, ↓r_tup, ↓r_lst, ↓r_sl, ↓r_noP, ↓r_aP, ↓r_iOf, ↓r_iF, ↓r_def, ↓r_ref, r_seqNx, r_seqRt, r_seqBk, r_seqCt, r_ifT, r_ifF, r_setV, r_setOt, r_setOl, r_setOd, r_setOs, r_retK, r_retVv, r_retVo, r_asgK, r_tgN, r_tgT, r_tgL, r_tgs0, r_tgs, r_parK, r_ownL, r_ownLo, r_ownD, r_ownDo, r_appK, r_appJ, r_extK, r_extJ, r_stoK, r_stoI, r_stoJ, r_stoL, r_orT, r_orF, r_andT, r_andF, r_vorK, r_vorT, r_vorF, r_vandK, r_vandT, r_vandF, r_notK, r_truK, r_truB, r_truI, r_truL, r_truT, r_truN, r_isBK, r_rdV, r_rdO, r_dV, r_dO, r_valV, r_valL, r_valD, r_rVv, r_rVo, r_rVb, r_eVv, r_uVv, r_uVo, r_uVb, r_uVlK, r_sqK, r_consK, r_opK, r_opJ, r_chK, r_chJ, r_chT, r_chF, r_clK, r_ntK, r_ngK, r_tpK, r_lsK, r_slK, r_slJ, r_slI, r_slL, r_slT, r_aPK, r_sqL, r_sqT, r_sqS, r_rtR, r_rtN, r_refO, r_refE, r_wdK, r_bAdd, r_bSub, r_bMul, r_bDiv, r_bMod, r_bPow, r_cLt, r_cLe, r_cGt, r_cGe, r_cEq, r_cNe, r_ixL, r_ixT, r_of, r_lenL, r_lenT, r_lenS, Pd.R.bind_ok, Pd.R.bind_err, Pd.R.bind_stuck, noE_ok', mul_r, div_i, mod_i, add_i, sub_i, lt_i, le_i, gt_i, ge_i, eq_i, ne_i, pow18, List.cons_append, List.nil_append, List.getElem?_cons_zero, List.getElem?_cons_succ, List.replicate_succ, List.replicate_zero, List.set_cons_zero, List.set_cons_succ, List.length_cons, List.length_nil, if_true, if_false, Bool.not_true, Bool.not_false, Bool.false_eq_true, ↓reduceIte, Nat.reduceAdd, Nat.reduceLeDiff, Nat.reduceLT, Nat.zero_add, Option.map_some, Int.cast_ofNat_Int, Int.natCast_one, Int.natCast_zero, Int.reduceBEq, Int.reduceLT, Int.reduceLE, Int.reduceAdd, Int.reduceSub, Int.reduceMul, Int.reduceNeg, Int.reduceDiv, Int.reduceMod, decide_true, decide_false, e1, e2']
    · have hb : ((ds.length : Int) == 2) = false := by rw [beq_eq_false_iff_ne]; omega
      have hp : isCel k (.tup ds) = false := by
        show (decide (ds.length = 2) && _) = _
        rw [decide_eq_false hl, Bool.false_and]
      rw [hp]
      simp (implicitDefEqProofs := false) (disch := omega) only [↓r_seq, ↓r_next, ↓r_if, ↓r_eif, ↓r_set, ↓r_ret, ↓r_retV, ↓r_expr, ↓r_asg, ↓r_par, ↓r_app, ↓r_ext, ↓r_sto, ↓r_or1, ↓r_or, ↓r_and1, ↓r_and, ↓r_vor1, ↓r_vor, ↓r_vand1, ↓r_vand, ↓r_not, ↓r_tru, ↓r_isB, ↓r_eC, ↓r_rd, ↓r_vl, ↓r_rV, ↓r_eV, ↓r_uV, ↓r_uVl, ↓r_sq0, ↓r_sq, ↓r_e2, ↓r_e3, ↓r_call, ↓r_user, ↓r_enot, ↓r_eneg, ↓r_tup, ↓r_lst, ↓r_sl, ↓r_noP, ↓r_aP, ↓r_iOf, ↓r_iF, ↓r_def, ↓r_ref, r_seqNx, r_seqRt, r_seqBk, r_seqCt, r_ifT, r_ifF, r_setV, r_setOt, r_setOl, r_setOd, r_setOs, r_retK, r_retVv, r_retVo, r_asgK, r_tgN, r_tgT, r_tgL, r_tgs0, r_tgs, r_parK, r_ownL, r_ownLo, r_ownD, r_ownDo, r_appK, r_appJ, r_extK, r_extJ, r_stoK, r_stoI, r_stoJ, r_stoL, r_orT, r_orF, r_andT, r_andF, r_vorK, r_vorT, r_vorF, r_vandK, r_vandT, r_vandF, r_notK, r_truK, r_truB, r_truI, r_truL, r_truT, r_truN, r_isBK, r_rdV, r_rdO, r_dV, r_dO, r_valV, r_valL, r_valD, r_rVv, r_rVo, r_rVb, r_eVv, r_uVv, r_uVo, r_uVb, r_uVlK, r_sqK, r_consK, r_opK, r_opJ, r_chK, r_chJ, r_chT, r_chF, r_clK, r_ntK, r_ngK, r_tpK, r_lsK, r_slK, r_slJ, r_slI, r_slL, r_slT, r_aPK, r_sqL, r_sqT, r_sqS, r_rtR, r_rtN, r_refO, r_refE, r_wdK, r_bAdd, r_bSub, r_bMul, r_bDiv, r_bMod, r_bPow, r_cLt, r_cLe, r_cGt, r_cGe, r_cEq, r_cNe, r_ixL, r_ixT, r_of, r_lenL, r_lenT, r_lenS, Pd.R.bind_ok, Pd.R.bind_err, Pd.R.bind_stuck, noE_ok', mul_r, div_i, mod_i, add_i, sub_i, lt_i, le_i, gt_i, ge_i, eq_i, ne_i, pow18, List.cons_append, List.nil_append, List.getElem?_cons_zero, List.getElem?_cons_succ, List.replicate_succ, List.replicate_zero, List.set_cons_zero, List.set_cons_succ, List.length_cons, List.length_nil, if_true, if_false, Bool.not_true, Bool.not_false, Bool.false_eq_true, ↓reduceIte, Nat.reduceAdd, Nat.reduceLeDiff, Nat.reduceLT, Nat.zero_add, Option.map_some, Int.cast_ofNat_Int, Int.natCast_one, Int.natCast_zero, Int.reduceBEq, Int.reduceLT, Int.reduceLE, Int.reduceAdd, Int.reduceSub, Int.reduceMul, Int.reduceNeg, Int.reduceDiv, Int.reduceMod, decide_true, decide_false, it, hn, hb]
theorem isCel_c {k : Int} {c : Cel} (h1 : -k ≤ c.1) (h2 : c.1 ≤ k) (h3 : -k ≤ c.2) (h4 : c.2 ≤ k) : isCel k (cD c) = true := by
  show (decide ((2 : Nat) = 2) && (isNum (.int c.1) (-k) k && (isNum (.int c.2) (-k) k && true))) = true
  have q1 : isNum (.int c.1) (-k) k = (decide (-k ≤ c.1) && decide (c.1 ≤ k)) := rfl
  have q2 : isNum (.int c.2) (-k) k = (decide (-k ≤ c.2) && decide (c.2 ≤ k)) := rfl
  rw [q1, q2, decide_eq_true h1, decide_eq_true h2, decide_eq_true h3, decide_eq_true h4]
  rfl
theorem need_cell_v {d : D} (h : okD d = true) : d_need_cell [.val d] = if isCel 999999999999 d = true then .ok (.v .non) else .err "NoCell" := by
  have e := is_cell_v 999999999999 h
  unfold d_need_cell f_need_cell
  cases hb : isCel 999999999999 d with
  | true =>
    rw [hb] at e
    simp (implicitDefEqProofs := false) (disch := omega) only [↓r_seq, ↓r_next, ↓r_if, ↓r_eif, ↓r_set, ↓r_ret, ↓r_retV, ↓r_expr, ↓r_asg, ↓r_par, ↓r_app, ↓r_ext, ↓r_sto, ↓r_or1, ↓r_or, ↓r_and1, ↓r_and, ↓r_vor1, ↓r_vor, ↓r_vand1, ↓r_vand, ↓r_not, ↓r_tru, ↓r_isB, ↓r_eC, ↓r_rd, ↓r_vl, ↓r_rV, ↓r_eV, ↓r_uV, ↓r_uVl, ↓r_sq0, ↓r_sq, ↓r_e2, ↓r_e3, ↓r_call, ↓r_user, ↓r_enot, ↓r_eneg, ↓r_tup, ↓r_lst, ↓r_sl, ↓r_noP, ↓r_aP, ↓r_iOf, ↓r_iF, ↓r_def, ↓r_ref, r_seqNx, r_seqRt, r_seqBk, r_seqCt, r_ifT, r_ifF, r_setV, r_setOt, r_setOl, r_setOd, r_setOs, r_retK, r_retVv, r_retVo, r_asgK, r_tgN, r_tgT, r_tgL, r_tgs0, r_tgs, r_parK, r_ownL, r_ownLo, r_ownD, r_ownDo, r_appK, r_appJ, r_extK, r_extJ, r_stoK, r_stoI, r_stoJ, r_stoL, r_orT, r_orF, r_andT, r_andF, r_vorK, r_vorT, r_vorF, r_vandK, r_vandT, r_vandF, r_notK, r_truK, r_truB, r_truI, r_truL, r_truT, r_truN, r_isBK, r_rdV, r_rdO, r_dV, r_dO, r_valV, r_valL, r_valD, r_rVv, r_rVo, r_rVb, r_eVv, r_uVv, r_uVo, r_uVb, r_uVlK, r_sqK, r_consK, r_opK, r_opJ, r_chK, r_chJ, r_chT, r_chF, r_clK, r_ntK, r_ngK, r_tpK, r_lsK, r_slK, r_slJ, r_slI, r_slL, r_slT, r_aPK, r_sqL, r_sqT, r_sqS, r_rtR, r_rtN, r_refO, r_refE, r_wdK, r_bAdd, r_bSub, r_bMul, r_bDiv, r_bMod, r_bPow, r_cLt, r_cLe, r_cGt, r_cGe, r_cEq, r_cNe, r_ixL, r_ixT, r_of, r_lenL, r_lenT, r_lenS, Pd.R.bind_ok, Pd.R.bind_err, Pd.R.bind_stuck, noE_ok', mul_r, div_i, mod_i, add_i, sub_i, lt_i, le_i, gt_i, ge_i, eq_i, ne_i, pow18, List.cons_append, List.nil_append, List.getElem?_cons_zero, List.getElem?_cons_succ, List.replicate_succ, List.replicate_zero, List.set_cons_zero, List.set_cons_succ, List.length_cons, List.length_nil, if_true, if_false, Bool.not_true, Bool.not_false, Bool.false_eq_true, ↓reduceIte, Nat.reduceAdd, Nat.reduceLeDiff, Nat.reduceLT, Nat.zero_add, Option.map_some, Int.cast_ofNat_Int, Int.natCast_one, Int.natCast_zero, Int.reduceBEq, Int.reduceLT, Int.reduceLE, Int.reduceAdd, Int.reduceSub, Int.reduceMul, Int.reduceNeg, Int.reduceDiv, Int.reduceMod, decide_true, decide_false, e]
  | false =>
    rw [hb] at e
    simp (implicitDefEqProofs := false) (disch := omega) only [↓r_seq, ↓r_next, ↓r_if, ↓r_eif, ↓r_set, ↓r_ret, ↓r_retV, ↓r_expr, ↓r_asg, ↓r_par, ↓r_app, ↓r_ext, ↓r_sto, ↓r_or1, ↓r_or, ↓r_and1, ↓r_and, ↓r_vor1, ↓r_vor, ↓r_vand1, ↓r_vand, ↓r_not, ↓r_tru, ↓r_isB, ↓r_eC, ↓r_rd, ↓r_vl, ↓r_rV, ↓r_eV, ↓r_uV, ↓r_uVl, ↓r_sq0, ↓r_sq, ↓r_e2, ↓r_e3, ↓r_call, ↓r_user, ↓r_enot, ↓r_eneg, ↓r_tup, ↓r_lst, ↓r_sl, ↓r_noP, ↓r_aP, ↓r_iOf, ↓r_iF, ↓r_def, ↓r_ref, r_seqNx, r_seqRt, r_seqBk, r_seqCt, r_ifT, r_ifF, r_setV, r_setOt, r_setOl, r_setOd, r_setOs, r_retK, r_retVv, r_retVo, r_asgK, r_tgN, r_tgT, r_tgL, r_tgs0, r_tgs, r_parK, r_ownL, r_ownLo, r_ownD, r_ownDo, r_appK, r_appJ, r_extK, r_extJ, r_stoK, r_stoI, r_stoJ, r_stoL, r_orT, r_orF, r_andT, r_andF, r_vorK, r_vorT, r_vorF, r_vandK, r_vandT, r_vandF, r_notK, r_truK, r_truB, r_truI, r_truL, r_truT, r_truN, r_isBK, r_rdV, r_rdO, r_dV, r_dO, r_valV, r_valL, r_valD, r_rVv, r_rVo, r_rVb, r_eVv, r_uVv, r_uVo, r_uVb, r_uVlK, r_sqK, r_consK, r_opK, r_opJ, r_chK, r_chJ, r_chT, r_chF, r_clK, r_ntK, r_ngK, r_tpK, r_lsK, r_slK, r_slJ, r_slI, r_slL, r_slT, r_aPK, r_sqL, r_sqT, r_sqS, r_rtR, r_rtN, r_refO, r_refE, r_wdK, r_bAdd, r_bSub, r_bMul, r_bDiv, r_bMod, r_bPow, r_cLt, r_cLe, r_cGt, r_cGe, r_cEq, r_cNe, r_ixL, r_ixT, r_of, r_lenL, r_lenT, r_lenS, Pd.R.bind_ok, Pd.R.bind_err, Pd.R.bind_stuck, noE_ok', mul_r, div_i, mod_i, add_i, sub_i, lt_i, le_i, gt_i, ge_i, eq_i, ne_i, pow18, List.cons_append, List.nil_append, List.getElem?_cons_zero, List.getElem?_cons_succ, List.replicate_succ, List.replicate_zero, List.set_cons_zero, List.set_cons_succ, List.length_cons, List.length_nil, if_true, if_false, Bool.not_true, Bool.not_false, Bool.false_eq_true, ↓reduceIte, Nat.reduceAdd, Nat.reduceLeDiff, Nat.reduceLT, Nat.zero_add, Option.map_some, Int.cast_ofNat_Int, Int.natCast_one, Int.natCast_zero, Int.reduceBEq, Int.reduceLT, Int.reduceLE, Int.reduceAdd, Int.reduceSub, Int.reduceMul, Int.reduceNeg, Int.reduceDiv, Int.reduceMod, decide_true, decide_false, e]
end Pd

set_option Elab.async false
set_option linter.all false
set_option maxRecDepth 100000
set_option maxHeartbeats 1000000
namespace Pr
open PySem PySem.Spec L2 Pd
def f__law_cell : Gm → R Out := sSeq (sSet false 2 (e2 dIx (rd (eLst (seqR [vl (eC (.int 3)), vl (eC (.int 30)), vl (e2 (dBin .Pow) (rd (eC (.int 10))) (rd (eC (.int 12))))]))) (rd (eUser d__law_draw (seqR [uVar 0, uVar 1, uVal (vl (eC (.int 3)))])))))
  (sSeq (sSet true 3 (eLst (seqR [])))
  (sSeq (sFor (iF (vl (eTup (seqR [vl (eC (.int 1)), vl (eC (.int 2))])))) (.nm 4) (sSeq (sSet false 5 (e2 (dBin .Add) (rd (e2 (dBin .Mult) (rd (eUser d__law_draw (seqR [uVar 0, uVal (vl (e2 (dBin .Add) (rVar 1) (rVar 4))), uVal (vl (e2 (dBin .Pow) (rd (eC (.int 2))) (rd (eC (.int 21)))))]))) (rd (e2 (dBin .Pow) (rd (eC (.int 2))) (rd (eC (.int 21))))))) (rd (eUser d__law_draw (seqR [uVar 0, uVal (vl (e2 (dBin .Add) (rd (e2 (dBin .Add) (rVar 1) (rd (eC (.int 200))))) (rVar 4))), uVal (vl (e2 (dBin .Pow) (rd (eC (.int 2))) (rd (eC (.int 21)))))])))))
  (sSeq (sApp 3 (vl (e2 (dBin .Add) (rd (e2 (dBin .Sub) (rd (e2 (dBin .Mod) (rVar 5) (rd (e2 (dBin .Sub) (rd (e2 (dBin .Mult) (rd (eC (.int 2))) (rVar 2))) (rd (eC (.int 1))))))) (rVar 2))) (rd (eC (.int 1))))))
  (sNext))))
  (sSeq (sRet (eTup (seqR [vl (e2 dIx (rVar 3) (rd (eC (.int 0)))), vl (e2 dIx (rVar 3) (rd (eC (.int 1))))])))
  (sNext))))
def d__law_cell : List Sl → R O := defF 4 f__law_cell
end Pr
namespace Pd
open PySem PySem.Spec L2 Pr
theorem pow12 : dPow (.int 10) (.int 12) = some (.v (.int 1000000000000)) := rfl
theorem pow2_21 : dPow (.int 2) (.int 21) = some (.v (.int 2097152)) := rfl
theorem law_cell_v (c : Int) {k : Int} (hk : 0 ≤ k) (hk2 : k < 900000) : ∃ z : Cel, (-999999999999 ≤ z.1 ∧ z.1 ≤ 999999999999 ∧ -999999999999 ≤ z.2 ∧ z.2 ≤ 999999999999) ∧ d__law_cell [.val (.int c), .val (.int k)] = .ok (.v (cD z)) := by
  obtain ⟨r0, l0, h0⟩ := draw_i c (k := k) (b := 3) (by omega) (by omega) (by omega) (by omega)
  obtain ⟨most, hm, ea⟩ : ∃ most : Int, (most = 3 ∨ most = 30 ∨ most = 1000000000000) ∧ atI [D.int 3, .int 30, .int 1000000000000] (r0 : Int) = some (.int most) := by
    rcases (show r0 = 0 ∨ r0 = 1 ∨ r0 = 2 by omega) with rfl | rfl | rfl
    · exact ⟨3, by omega, rfl⟩
    · exact ⟨30, by omega, rfl⟩
    · exact ⟨1000000000000, by omega, rfl⟩
  have go := go_of (fi := iF (vl (eTup (seqR [vl (eC (.int 1)), vl (eC (.int 2))])))) (t := 4) (b := (sSeq (sSet false 5 (e2 (dBin .Add) (rd (e2 (dBin .Mult) (rd (eUser d__law_draw (seqR [uVar 0, uVal (vl (e2 (dBin .Add) (rVar 1) (rVar 4))), uVal (vl (e2 (dBin .Pow) (rd (eC (.int 2))) (rd (eC (.int 21)))))]))) (rd (e2 (dBin .Pow) (rd (eC (.int 2))) (rd (eC (.int 21))))))) (rd (eUser d__law_draw (seqR [uVar 0, uVal (vl (e2 (dBin .Add) (rd (e2 (dBin .Add) (rVar 1) (rd (eC (.int 200))))) (rVar 4))), uVal (vl (e2 (dBin .Pow) (rd (eC (.int 2))) (rd (eC (.int 21)))))]))))) (sSeq (sApp 3 (vl (e2 (dBin .Add) (rd (e2 (dBin .Sub) (rd (e2 (dBin .Mod) (rVar 5) (rd (e2 (dBin .Sub) (rd (e2 (dBin .Mult) (rd (eC (.int 2))) (rVar 2))) (rd (eC (.int 1))))))) (rVar 2))) (rd (eC (.int 1)))))) (sNext)))) (l := [1, 2]) (φ := fun n : Nat => .int (n : Int)) (Γ := [.val (.int c), .val (.int k), .val (.int most), .own (.lst []), .un, .un]) (fun a Γ => ∃ (xs : List Int) (s4 s5 : Sl), xs.length = a.length ∧ (∀ x ∈ xs, -999999999999 ≤ x ∧ x ≤ 999999999999) ∧ Γ = [.val (.int c), .val (.int k), .val (.int most), .own (.lst (iD xs)), s4, s5]) (by
      simp (implicitDefEqProofs := false) (disch := omega) only [↓r_seq, ↓r_next, ↓r_if, ↓r_eif, ↓r_set, ↓r_ret, ↓r_retV, ↓r_expr, ↓r_asg, ↓r_par, ↓r_app, ↓r_ext, ↓r_sto, ↓r_or1, ↓r_or, ↓r_and1, ↓r_and, ↓r_vor1, ↓r_vor, ↓r_vand1, ↓r_vand, ↓r_not, ↓r_tru, ↓r_isB, ↓r_eC, ↓r_rd, ↓r_vl, ↓r_rV, ↓r_eV, ↓r_uV, ↓r_uVl, ↓r_sq0, ↓r_sq, ↓r_e2, ↓r_e3, ↓r_call, ↓r_user, ↓r_enot, ↓r_eneg, ↓r_tup, ↓r_lst, ↓r_sl, ↓r_noP, ↓r_aP, ↓r_iOf, ↓r_iF, ↓r_def, ↓r_ref, r_seqNx, r_seqRt, r_seqBk, r_seqCt, r_ifT, r_ifF, r_setV, r_setOt, r_setOl, r_setOd, r_setOs, r_retK, r_retVv, r_retVo, r_asgK, r_tgN, r_tgT, r_tgL, r_tgs0, r_tgs, r_parK, r_ownL, r_ownLo, r_ownD, r_ownDo, r_appK, r_appJ, r_extK, r_extJ, r_stoK, r_stoI, r_stoJ, r_stoL, r_orT, r_orF, r_andT, r_andF, r_vorK, r_vorT, r_vorF, r_vandK, r_vandT, r_vandF, r_notK, r_truK, r_truB, r_truI, r_truL, r_truT, r_truN, r_isBK, r_rdV, r_rdO, r_dV, r_dO, r_valV, r_valL, r_valD, r_rVv, r_rVo, r_rVb, r_eVv, r_uVv, r_uVo, r_uVb, r_uVlK, r_sqK, r_consK, r_opK, r_opJ, r_chK, r_chJ, r_chT, r_chF, r_clK, r_ntK, r_ngK, r_tpK, r_lsK, r_slK, r_slJ, r_slI, r_slL, r_slT, r_aPK, r_sqL, r_sqT, r_sqS, r_rtR, r_rtN, r_refO, r_refE, r_wdK, r_bAdd, r_bSub, r_bMul, r_bDiv, r_bMod, r_bPow, r_cLt, r_cLe, r_cGt, r_cGe, r_cEq, r_cNe, r_ixL, r_ixT, r_of, r_lenL, r_lenT, r_lenS, Pd.R.bind_ok, Pd.R.bind_err, Pd.R.bind_stuck, noE_ok', mul_r, div_i, mod_i, add_i, sub_i, lt_i, le_i, gt_i, ge_i, eq_i, ne_i, pow18, List.cons_append, List.nil_append, List.getElem?_cons_zero, List.getElem?_cons_succ, List.replicate_succ, List.replicate_zero, List.set_cons_zero, List.set_cons_succ, List.length_cons, List.length_nil, if_true, if_false, Bool.not_true, Bool.not_false, Bool.false_eq_true, ↓reduceIte, Nat.reduceAdd, Nat.reduceLeDiff, Nat.reduceLT, Nat.zero_add, Option.map_some, Int.cast_ofNat_Int, Int.natCast_one, Int.natCast_zero, Int.reduceBEq, Int.reduceLT, Int.reduceLE, Int.reduceAdd, Int.reduceSub, Int.reduceMul, Int.reduceNeg, Int.reduceDiv, Int.reduceMod, decide_true, decide_false]
      rfl) ⟨[], _, _, rfl, fun x hx => (by cases hx), rfl⟩ (by
      rintro a b x Γ e ⟨xs, s4, s5, h1, h2, rfl⟩
      have hx : x = 1 ∨ x = 2 := by
        have : x ∈ [1, 2] := by rw [e]; exact List.mem_append_right _ (List.mem_cons_self ..)
        simpa using this
      have hal : a.length ≤ 2 := by
        have := congrArg List.length e
        rw [List.length_append] at this
        simp at this
        omega
      obtain ⟨r, lr, er⟩ := draw_i c (k := k + (x : Int)) (b := 2097152) (by omega) (by omega) (by omega) (by omega)
      obtain ⟨q, lq, eq⟩ := draw_i c (k := k + 200 + (x : Int)) (b := 2097152) (by omega) (by omega) (by omega) (by omega)
      have hpos : 0 < 2 * most - 1 := by omega
      have g1 := Int.emod_nonneg ((r : Int) * 2097152 + (q : Int)) (show 2 * most - 1 ≠ 0 by omega)
      have g2 := Int.emod_lt_of_pos ((r : Int) * 2097152 + (q : Int)) hpos
      have hap : (iD xs).length < 16777216 := by rw [len_iD]; omega
      refine go_seq (Γ1 := [.val (.int c), .val (.int k), .val (.int most), .own (.lst (iD xs)), .val (.int x), .val (.int ((r : Int) * 2097152 + (q : Int)))]) (by simp (implicitDefEqProofs := false) (disch := omega) only [↓r_seq, ↓r_next, ↓r_if, ↓r_eif, ↓r_set, ↓r_ret, ↓r_retV, ↓r_expr, ↓r_asg, ↓r_par, ↓r_app, ↓r_ext, ↓r_sto, ↓r_or1, ↓r_or, ↓r_and1, ↓r_and, ↓r_vor1, ↓r_vor, ↓r_vand1, ↓r_vand, ↓r_not, ↓r_tru, ↓r_isB, ↓r_eC, ↓r_rd, ↓r_vl, ↓r_rV, ↓r_eV, ↓r_uV, ↓r_uVl, ↓r_sq0, ↓r_sq, ↓r_e2, ↓r_e3, ↓r_call, ↓r_user, ↓r_enot, ↓r_eneg, ↓r_tup, ↓r_lst, ↓r_sl, ↓r_noP, ↓r_aP, ↓r_iOf, ↓r_iF, ↓r_def, ↓r_ref, r_seqNx, r_seqRt, r_seqBk, r_seqCt, r_ifT, r_ifF, r_setV, r_setOt, r_setOl, r_setOd, r_setOs, r_retK, r_retVv, r_retVo, r_asgK, r_tgN, r_tgT, r_tgL, r_tgs0, r_tgs, r_parK, r_ownL, r_ownLo, r_ownD, r_ownDo, r_appK, r_appJ, r_extK, r_extJ, r_stoK, r_stoI, r_stoJ, r_stoL, r_orT, r_orF, r_andT, r_andF, r_vorK, r_vorT, r_vorF, r_vandK, r_vandT, r_vandF, r_notK, r_truK, r_truB, r_truI, r_truL, r_truT, r_truN, r_isBK, r_rdV, r_rdO, r_dV, r_dO, r_valV, r_valL, r_valD, r_rVv, r_rVo, r_rVb, r_eVv, r_uVv, r_uVo, r_uVb, r_uVlK, r_sqK, r_consK, r_opK, r_opJ, r_chK, r_chJ, r_chT, r_chF, r_clK, r_ntK, r_ngK, r_tpK, r_lsK, r_slK, r_slJ, r_slI, r_slL, r_slT, r_aPK, r_sqL, r_sqT, r_sqS, r_rtR, r_rtN, r_refO, r_refE, r_wdK, r_bAdd, r_bSub, r_bMul, r_bDiv, r_bMod, r_bPow, r_cLt, r_cLe, r_cGt, r_cGe, r_cEq, r_cNe, r_ixL, r_ixT, r_of, r_lenL, r_lenT, r_lenS, Pd.R.bind_ok, Pd.R.bind_err, Pd.R.bind_stuck, noE_ok', mul_r, div_i, mod_i, add_i, sub_i, lt_i, le_i, gt_i, ge_i, eq_i, ne_i, pow18, List.cons_append, List.nil_append, List.getElem?_cons_zero, List.getElem?_cons_succ, List.replicate_succ, List.replicate_zero, List.set_cons_zero, List.set_cons_succ, List.length_cons, List.length_nil, if_true, if_false, Bool.not_true, Bool.not_false, Bool.false_eq_true, ↓reduceIte, Nat.reduceAdd, Nat.reduceLeDiff, Nat.reduceLT, Nat.zero_add, Option.map_some, Int.cast_ofNat_Int, Int.natCast_one, Int.natCast_zero, Int.reduceBEq, Int.reduceLT, Int.reduceLE, Int.reduceAdd, Int.reduceSub, Int.reduceMul, Int.reduceNeg, Int.reduceDiv, Int.reduceMod, decide_true, decide_false, pow2_21, er, eq]) ?_
      generalize (r : Int) * 2097152 + (q : Int) = w at g1 g2 ⊢
      refine go_seq (Γ1 := [.val (.int c), .val (.int k), .val (.int most), .own (.lst (iD xs ++ [.int (w % (2 * most - 1) - most + 1)])), .val (.int x), .val (.int w)]) (by simp (implicitDefEqProofs := false) (disch := omega) only [↓r_seq, ↓r_next, ↓r_if, ↓r_eif, ↓r_set, ↓r_ret, ↓r_retV, ↓r_expr, ↓r_asg, ↓r_par, ↓r_app, ↓r_ext, ↓r_sto, ↓r_or1, ↓r_or, ↓r_and1, ↓r_and, ↓r_vor1, ↓r_vor, ↓r_vand1, ↓r_vand, ↓r_not, ↓r_tru, ↓r_isB, ↓r_eC, ↓r_rd, ↓r_vl, ↓r_rV, ↓r_eV, ↓r_uV, ↓r_uVl, ↓r_sq0, ↓r_sq, ↓r_e2, ↓r_e3, ↓r_call, ↓r_user, ↓r_enot, ↓r_eneg, ↓r_tup, ↓r_lst, ↓r_sl, ↓r_noP, ↓r_aP, ↓r_iOf, ↓r_iF, ↓r_def, ↓r_ref, r_seqNx, r_seqRt, r_seqBk, r_seqCt, r_ifT, r_ifF, r_setV, r_setOt, r_setOl, r_setOd, r_setOs, r_retK, r_retVv, r_retVo, r_asgK, r_tgN, r_tgT, r_tgL, r_tgs0, r_tgs, r_parK, r_ownL, r_ownLo, r_ownD, r_ownDo, r_appK, r_appJ, r_extK, r_extJ, r_stoK, r_stoI, r_stoJ, r_stoL, r_orT, r_orF, r_andT, r_andF, r_vorK, r_vorT, r_vorF, r_vandK, r_vandT, r_vandF, r_notK, r_truK, r_truB, r_truI, r_truL, r_truT, r_truN, r_isBK, r_rdV, r_rdO, r_dV, r_dO, r_valV, r_valL, r_valD, r_rVv, r_rVo, r_rVb, r_eVv, r_uVv, r_uVo, r_uVb, r_uVlK, r_sqK, r_consK, r_opK, r_opJ, r_chK, r_chJ, r_chT, r_chF, r_clK, r_ntK, r_ngK, r_tpK, r_lsK, r_slK, r_slJ, r_slI, r_slL, r_slT, r_aPK, r_sqL, r_sqT, r_sqS, r_rtR, r_rtN, r_refO, r_refE, r_wdK, r_bAdd, r_bSub, r_bMul, r_bDiv, r_bMod, r_bPow, r_cLt, r_cLe, r_cGt, r_cGe, r_cEq, r_cNe, r_ixL, r_ixT, r_of, r_lenL, r_lenT, r_lenS, Pd.R.bind_ok, Pd.R.bind_err, Pd.R.bind_stuck, noE_ok', mul_r, div_i, mod_i, add_i, sub_i, lt_i, le_i, gt_i, ge_i, eq_i, ne_i, pow18, List.cons_append, List.nil_append, List.getElem?_cons_zero, List.getElem?_cons_succ, List.replicate_succ, List.replicate_zero, List.set_cons_zero, List.set_cons_succ, List.length_cons, List.length_nil, if_true, if_false, Bool.not_true, Bool.not_false, Bool.false_eq_true, ↓reduceIte, Nat.reduceAdd, Nat.reduceLeDiff, Nat.reduceLT, Nat.zero_add, Option.map_some, Int.cast_ofNat_Int, Int.natCast_one, Int.natCast_zero, Int.reduceBEq, Int.reduceLT, Int.reduceLE, Int.reduceAdd, Int.reduceSub, Int.reduceMul, Int.reduceNeg, Int.reduceDiv, Int.reduceMod, decide_true, decide_false, r_appJ hap]) (go_next ⟨xs ++ [w % (2 * most - 1) - most + 1], .val (.int x), .val (.int w), by rw [List.length_append, List.length_append, h1]; rfl, fun y hy => ?_, ?_⟩)
      · rcases List.mem_append.mp hy with hy | hy
        · exact h2 y hy
        · obtain rfl := List.mem_singleton.mp hy
          omega
      · unfold iD
        rw [List.map_append]
        rfl)
  obtain ⟨_, e, xs, s4, s5, h1, h2, rfl⟩ := go
  obtain ⟨x, y, rfl⟩ : ∃ x y, xs = [x, y] := by
    match xs, h1 with
    | [x, y], _ => exact ⟨x, y, rfl⟩
  have hx := h2 x (by simp)
  have hy := h2 y (by simp)
  have hi0 : atI (iD [x, y]) 0 = some (.int x) := rfl
  have hi1 : atI (iD [x, y]) 1 = some (.int y) := rfl
  refine ⟨(x, y), ⟨hx.1, hx.2, hy.1, hy.2⟩, ?_⟩
  unfold d__law_cell f__law_cell
  refine def_rt ?_
  refine seq_nx (Γ1 := [.val (.int c), .val (.int k), .val (.int most), .un, .un, .un]) (by simp (implicitDefEqProofs := false) (disch := omega) only [↓r_seq, ↓r_next, ↓r_if, ↓r_eif, ↓r_set, ↓r_ret, ↓r_retV, ↓r_expr, ↓r_asg, ↓r_par, ↓r_app, ↓r_ext, ↓r_sto, ↓r_or1, ↓r_or, ↓r_and1, ↓r_and, ↓r_vor1, ↓r_vor, ↓r_vand1, ↓r_vand, ↓r_not, ↓r_tru, ↓r_isB, ↓r_eC, ↓r_rd, ↓r_vl, ↓r_rV, ↓r_eV, ↓r_uV, ↓r_uVl, ↓r_sq0, ↓r_sq, ↓r_e2, ↓r_e3, ↓r_call, ↓r_user, ↓r_enot, ↓r_eneg, ↓r_tup, ↓r_lst, ↓r_sl, ↓r_noP, ↓r_aP, ↓r_iOf, ↓r_iF, ↓r_def, ↓r_ref, r_seqNx, r_seqRt, r_seqBk, r_seqCt, r_ifT, r_ifF, r_setV, r_setOt, r_setOl, r_setOd, r_setOs, r_retK, r_retVv, r_retVo, r_asgK, r_tgN, r_tgT, r_tgL, r_tgs0, r_tgs, r_parK, r_ownL, r_ownLo, r_ownD, r_ownDo, r_appK, r_appJ, r_extK, r_extJ, r_stoK, r_stoI, r_stoJ, r_stoL, r_orT, r_orF, r_andT, r_andF, r_vorK, r_vorT, r_vorF, r_vandK, r_vandT, r_vandF, r_notK, r_truK, r_truB, r_truI, r_truL, r_truT, r_truN, r_isBK, r_rdV, r_rdO, r_dV, r_dO, r_valV, r_valL, r_valD, r_rVv, r_rVo, r_rVb, r_eVv, r_uVv, r_uVo, r_uVb, r_uVlK, r_sqK, r_consK, r_opK, r_opJ, r_chK, r_chJ, r_chT, r_chF, r_clK, r_ntK, r_ngK, r_tpK, r_lsK, r_slK, r_slJ, r_slI, r_slL, r_slT, r_aPK, r_sqL, r_sqT, r_sqS, r_rtR, r_rtN, r_refO, r_refE, r_wdK, r_bAdd, r_bSub, r_bMul, r_bDiv, r_bMod, r_bPow, r_cLt, r_cLe, r_cGt, r_cGe, r_cEq, r_cNe, r_ixL, r_ixT, r_of, r_lenL, r_lenT, r_lenS, Pd.R.bind_ok, Pd.R.bind_err, Pd.R.bind_stuck, noE_ok', mul_r, div_i, mod_i, add_i, sub_i, lt_i, le_i, gt_i, ge_i, eq_i, ne_i, pow18, List.cons_append, List.nil_append, List.getElem?_cons_zero, List.getElem?_cons_succ, List.replicate_succ, List.replicate_zero, List.set_cons_zero, List.set_cons_succ, List.length_cons, List.length_nil, if_true, if_false, Bool.not_true, Bool.not_false, Bool.false_eq_true, ↓reduceIte, Nat.reduceAdd, Nat.reduceLeDiff, Nat.reduceLT, Nat.zero_add, Option.map_some, Int.cast_ofNat_Int, Int.natCast_one, Int.natCast_zero, Int.reduceBEq, Int.reduceLT, Int.reduceLE, Int.reduceAdd, Int.reduceSub, Int.reduceMul, Int.reduceNeg, Int.reduceDiv, Int.reduceMod, decide_true, decide_false, pow12, h0, ea]) ?_
  refine seq_nx (Γ1 := [.val (.int c), .val (.int k), .val (.int most), .own (.lst []), .un, .un]) (by simp (implicitDefEqProofs := false) (disch := omega) only [↓r_seq, ↓r_next, ↓r_if, ↓r_eif, ↓r_set, ↓r_ret, ↓r_retV, ↓r_expr, ↓r_asg, ↓r_par, ↓r_app, ↓r_ext, ↓r_sto, ↓r_or1, ↓r_or, ↓r_and1, ↓r_and, ↓r_vor1, ↓r_vor, ↓r_vand1, ↓r_vand, ↓r_not, ↓r_tru, ↓r_isB, ↓r_eC, ↓r_rd, ↓r_vl, ↓r_rV, ↓r_eV, ↓r_uV, ↓r_uVl, ↓r_sq0, ↓r_sq, ↓r_e2, ↓r_e3, ↓r_call, ↓r_user, ↓r_enot, ↓r_eneg, ↓r_tup, ↓r_lst, ↓r_sl, ↓r_noP, ↓r_aP, ↓r_iOf, ↓r_iF, ↓r_def, ↓r_ref, r_seqNx, r_seqRt, r_seqBk, r_seqCt, r_ifT, r_ifF, r_setV, r_setOt, r_setOl, r_setOd, r_setOs, r_retK, r_retVv, r_retVo, r_asgK, r_tgN, r_tgT, r_tgL, r_tgs0, r_tgs, r_parK, r_ownL, r_ownLo, r_ownD, r_ownDo, r_appK, r_appJ, r_extK, r_extJ, r_stoK, r_stoI, r_stoJ, r_stoL, r_orT, r_orF, r_andT, r_andF, r_vorK, r_vorT, r_vorF, r_vandK, r_vandT, r_vandF, r_notK, r_truK, r_truB, r_truI, r_truL, r_truT, r_truN, r_isBK, r_rdV, r_rdO, r_dV, r_dO, r_valV, r_valL, r_valD, r_rVv, r_rVo, r_rVb, r_eVv, r_uVv, r_uVo, r_uVb, r_uVlK, r_sqK, r_consK, r_opK, r_opJ, r_chK, r_chJ, r_chT, r_chF, r_clK, r_ntK, r_ngK, r_tpK, r_lsK, r_slK, r_slJ, r_slI, r_slL, r_slT, r_aPK, r_sqL, r_sqT, r_sqS, r_rtR, r_rtN, r_refO, r_refE, r_wdK, r_bAdd, r_bSub, r_bMul, r_bDiv, r_bMod, r_bPow, r_cLt, r_cLe, r_cGt, r_cGe, r_cEq, r_cNe, r_ixL, r_ixT, r_of, r_lenL, r_lenT, r_lenS, Pd.R.bind_ok, Pd.R.bind_err, Pd.R.bind_stuck, noE_ok', mul_r, div_i, mod_i, add_i, sub_i, lt_i, le_i, gt_i, ge_i, eq_i, ne_i, pow18, List.cons_append, List.nil_append, List.getElem?_cons_zero, List.getElem?_cons_succ, List.replicate_succ, List.replicate_zero, List.set_cons_zero, List.set_cons_succ, List.length_cons, List.length_nil, if_true, if_false, Bool.not_true, Bool.not_false, Bool.false_eq_true, ↓reduceIte, Nat.reduceAdd, Nat.reduceLeDiff, Nat.reduceLT, Nat.zero_add, Option.map_some, Int.cast_ofNat_Int, Int.natCast_one, Int.natCast_zero, Int.reduceBEq, Int.reduceLT, Int.reduceLE, Int.reduceAdd, Int.reduceSub, Int.reduceMul, Int.reduceNeg, Int.reduceDiv, Int.reduceMod, decide_true, decide_false]) ?_
  refine seq_nx e ?_
  simp (implicitDefEqProofs := false) (disch := omega) only [↓r_seq, ↓r_next, ↓r_if, ↓r_eif, ↓r_set, ↓r_ret, ↓r_retV, ↓r_expr, ↓r_asg, ↓r_par, ↓r_app, ↓r_ext, ↓r_sto, ↓r_or1, ↓r_or, ↓r_and1, ↓r_and, ↓r_vor1, ↓r_vor, ↓r_vand1, ↓r_vand, ↓r_not, ↓r_tru, ↓r_isB, ↓r_eC, ↓r_rd, ↓r_vl, ↓r_rV, ↓r_eV, ↓r_uV, ↓r_uVl, ↓r_sq0, ↓r_sq, ↓r_e2, ↓r_e3, ↓r_call, ↓r_user, ↓r_enot, ↓r_eneg, ↓r_tup, ↓r_lst, ↓r_sl, ↓r_noP, ↓r_aP, ↓r_iOf, ↓r_iF, ↓r_def, ↓r_ref, r_seqNx, r_seqRt, r_seqBk, r_seqCt, r_ifT, r_ifF, r_setV, r_setOt, r_setOl, r_setOd, r_setOs, r_retK, r_retVv, r_retVo, r_asgK, r_tgN, r_tgT, r_tgL, r_tgs0, r_tgs, r_parK, r_ownL, r_ownLo, r_ownD, r_ownDo, r_appK, r_appJ, r_extK, r_extJ, r_stoK, r_stoI, r_stoJ, r_stoL, r_orT, r_orF, r_andT, r_andF, r_vorK, r_vorT, r_vorF, r_vandK, r_vandT, r_vandF, r_notK, r_truK, r_truB, r_truI, r_truL, r_truT, r_truN, r_isBK, r_rdV, r_rdO, r_dV, r_dO, r_valV, r_valL, r_valD, r_rVv, r_rVo, r_rVb, r_eVv, r_uVv, r_uVo, r_uVb, r_uVlK, r_sqK, r_consK, r_opK, r_opJ, r_chK, r_chJ, r_chT, r_chF, r_clK, r_ntK, r_ngK, r_tpK, r_lsK, r_slK, r_slJ, r_slI, r_slL, r_slT, r_aPK, r_sqL, r_sqT, r_sqS, r_rtR, r_rtN, r_refO, r_refE, r_wdK, r_bAdd, r_bSub, r_bMul, r_bDiv, r_bMod, r_bPow, r_cLt, r_cLe, r_cGt, r_cGe, r_cEq, r_cNe, r_ixL, r_ixT, r_of, r_lenL, r_lenT, r_lenS, Pd.R.bind_ok, Pd.R.bind_err, Pd.R.bind_stuck, noE_ok', mul_r, div_i, mod_i, add_i, sub_i, lt_i, le_i, gt_i, ge_i, eq_i, ne_i, pow18, List.cons_append, List.nil_append, List.getElem?_cons_zero, List.getElem?_cons_succ, List.replicate_succ, List.replicate_zero, List.set_cons_zero, List.set_cons_succ, List.length_cons, List.length_nil, if_true, if_false, Bool.not_true, Bool.not_false, Bool.false_eq_true, ↓reduceIte, Nat.reduceAdd, Nat.reduceLeDiff, Nat.reduceLT, Nat.zero_add, Option.map_some, Int.cast_ofNat_Int, Int.natCast_one, Int.natCast_zero, Int.reduceBEq, Int.reduceLT, Int.reduceLE, Int.reduceAdd, Int.reduceSub, Int.reduceMul, Int.reduceNeg, Int.reduceDiv, Int.reduceMod, decide_true, decide_false, hi0, hi1]
  rfl
end Pd

set_option Elab.async false
set_option linter.all false
set_option maxRecDepth 100000
set_option maxHeartbeats 1000000
namespace Pd
open PySem PySem.Spec L2
def tLkO (t : TE) : TE := fun σ H Q => tLockE t σ H Q ∨ t σ H Q
def tLkS (t : TS) : TS := fun D σ H => tLock t D σ H ∨ t D σ H
theorem pe_lkO {X : Cx} {e : PySem.Expr} {t : TE} (h : PE X e t) : PE X e (tLkO t) := ⟨fun pins s σ H Q I w => w.elim (fun w => (pe_lock h).run pins s σ H Q I w) fun w => h.run pins s σ H Q I w⟩
def lkS : Sl → Sl
  | .bor _ => .un
  | s => s
def lkG (Γ : Gm) : Gm := Γ.map lkS
@[simp] theorem lkS_val (d : D) : lkS (.val d) = .val d := rfl
@[simp] theorem lkS_own (d : D) : lkS (.own d) = .own d := rfl
@[simp] theorem lkS_un : lkS .un = .un := rfl
@[simp] theorem lkG_nil : lkG [] = [] := rfl
@[simp] theorem lkG_cons (s : Sl) (Γ : Gm) : lkG (s :: Γ) = lkS s :: lkG Γ := rfl
def intKB (kvs : List (D × D)) : Bool := !kvs.isEmpty && kvs.all fun p => match p.1 with
  | .int _ => true
  | _ => false
def kyD : D → R (List D)
  | .dct kvs => if intKB kvs = true then .ok (kvs.map (·.1)) else .stuck
  | _ => .stuck
def vlD : D → R (List D)
  | .dct kvs => if intKB kvs = true then .ok (kvs.map (·.2)) else .stuck
  | _ => .stuck
def valAt (i : Nat) (Γ : Gm) : R D := match Γ[i]? with
  | some (.val d) => .ok d
  | _ => .stuck
abbrev iKy (i : Nat) : Gm → R (List D) := fun Γ => (valAt i Γ).bind kyD
abbrev iVl (i : Nat) : Gm → R (List D) := fun Γ => (valAt i Γ).bind vlD
def eLcD (fi : Gm → R (List D)) (t : Tg) (tt : Gm → R Bool) (te : Gm → R D) (vs : List Nat) : Gm → R O := fun Γ => (fi Γ).bind fun ds => (noE (lcGo t tt te (wipeG (lkG Γ) vs) ds)).bind fun out => .ok (.o (.lst out))
section
variable {T : List (Addr × Str)} {K : PySem.W.Frag} {F0 F F' : Fz T} {H0 H H' : Hp} {σ : L2.St} {Γ : Gm}
theorem lc_at {wi : TI} {t : Tg} {tt : Gm → R Bool} {te : Gm → R D} {vs : List Nat} (hv : ∀ i ∈ t.ix, i ∈ vs) {Q : VK} (I : EnvOk K F0 H0 F H σ Γ) {ds out : List D} (eo : lcGo t tt te (wipeG Γ vs) ds = .ok out)
    (hi : ∀ R' : It → Hp → Prop, (∀ J F' H', Grow F H F' H' → Items K (Grow F' H') J ds → R' J H') → wi σ H R')
    (q : ∀ v F' H', Grow F H F' H' → ORep K H F' H' v (.o (.lst out)) → Q v H') : tLc wi (tGof T K t) (tTof T K tt) (tVof T K te) vs σ H Q := by
  refine hi _ fun J F1 H1 g1 it D hD => ?_
  have I1 := (I.grow g1).wipe vs
  have nF1 : F1 D = none := g1.sub.free hD
  refine ⟨fun i m H => m = ds.length - i ∧ i ≤ ds.length ∧ ∃ (F2 : Fz T) (acc : List V) (a b : List Pd.D), Grow F1 H1 F2 H ∧ H D = some (.lst acc) ∧ F2 D = none ∧ Reps K F2 acc a ∧ a.length ≤ i ∧ lcGo t tt te (wipeG Γ vs) (ds.drop i) = .ok b ∧ a ++ b = out,
    ⟨ds.length, rfl, Nat.zero_le _, F1, [], [], out, Grow.newO g1.sub hD, upd_same, nF1, .nil, Nat.le_refl _, eo, rfl⟩, ?_⟩
  rintro i m H2 ⟨rfl, hle, F2, acc, a, b, g2, hD2, nF2, ra, la, eb, eab⟩
  by_cases hlt : i < ds.length
  · refine .inr ⟨it.go i F2 H2 hlt g2, _, fun H' (w : ∃ (F2 : Fz T) (acc : List V) (a b : List Pd.D), Grow F1 H1 F2 H' ∧ H' D = some (.lst acc) ∧ F2 D = none ∧ Reps K F2 acc a ∧ a.length ≤ i + 1 ∧ lcGo t tt te (wipeG Γ vs) (ds.drop (i + 1)) = .ok b ∧ a ++ b = out) => ⟨ds.length - (i + 1), by omega, rfl, hlt, w⟩, fun x H3 y => ?_⟩
    obtain ⟨d, ed⟩ := get_some hlt
    obtain ⟨F3, g3, rx⟩ := it.yld i d F2 H2 x H3 ed g2 y
    have g13 := g2.trans g3
    have nF3 : F3 D = none := (g3.old D _ hD2 fun _ z => nomatch z).trans nF2
    have hD3 : H3 D = some (.lst acc) := g3.hh _ _ hD2 fun _ z => nomatch z
    have e1 : ds.drop i = d :: ds.drop (i + 1) := by
      rw [List.drop_eq_getElem_cons hlt]
      rw [List.getElem?_eq_getElem hlt] at ed
      cases ed
      rfl
    rw [e1, lcGo] at eb
    obtain ⟨Γ1, et, eb⟩ := bind_ok eb
    obtain ⟨k, ek, eb⟩ := bind_ok eb
    have et := noE_ok et
    have ek := noE_ok ek
    refine ⟨wipeG Γ vs, F0, H0, F3, d, I1.grow g13, rx, ?_⟩
    rw [et]
    intro σ' I' hw
    refine ⟨by rw [hw vs hv, wipe_wipe], Γ1, F0, H0, F3, I', ?_⟩
    rw [ek]
    intro F4 H4 g4
    have nF4 : F4 D = none := (g4.old D _ hD3 fun _ z => nomatch z).trans nF3
    have hD4 : H4 D = some (.lst acc) := g4.hh _ _ hD3 fun _ z => nomatch z
    cases k with
    | false =>
      rw [if_neg Bool.false_ne_true] at eb ⊢
      exact ⟨F4, acc, a, b, g13.trans g4, hD4, nF4, (ra.mono g3.ff).mono g4.ff, by omega, eb, eab⟩
    | true =>
      rw [if_pos rfl] at eb ⊢
      obtain ⟨y', ey, eb⟩ := bind_ok eb
      obtain ⟨ys, eys, eb⟩ := bind_ok eb
      cases eb
      have ey := noE_ok ey
      refine ⟨Γ1, F0, H0, F4, I'.grow g4, ?_⟩
      rw [ey]
      intro w F5 H5 g5 rw5
      have nF5 : F5 D = none := (g5.old D _ hD4 fun _ z => nomatch z).trans nF4
      have hD5 : H5 D = some (.lst acc) := g5.hh _ _ hD4 fun _ z => nomatch z
      have g15 := (g13.trans g4).trans g5
      have ll := it.len
      have el := ra.length
      refine ⟨acc, hD5, by omega, F5, acc ++ [w], a ++ [y'], ys, ⟨fun p o z n => ?_, g15.ff, g15.sub.upd hD5 ⟨(fun _ z => nomatch z), fun _ z => nomatch z⟩ nF5, g15.old⟩, upd_same, nF5, (((ra.mono g3.ff).mono g4.ff).mono g5.ff).append (.cons rw5 .nil), by rw [List.length_append]; exact Nat.succ_le_succ la, eys, by rw [List.append_assoc]; exact eab⟩
      rw [upd_ne (fun z' => by rw [z', hD] at z; cases z)]
      exact g15.hh _ _ z n
  · have e : i = ds.length := by omega
    subst e
    rw [List.drop_length] at eb
    cases eb
    rw [List.append_nil] at eab
    subst eab
    have ll := it.len
    have el := ra.length
    exact .inl ⟨it.stop F2 H2 g2, q _ F2 H2 (g1.trans g2) ⟨D, rfl, (Fre.of hD).back g1.hh, nF2, .lst hD2 ra (by omega)⟩⟩
theorem EnvOk.noBor (I : EnvOk K F0 H0 F H σ Γ) : EnvOk K F0 H0 F H σ (lkG Γ) := by
  have hk : ∀ (i : Nat) (s : Sl), (lkG Γ)[i]? = some s → ∃ s', Γ[i]? = some s' ∧ s = lkS s' := fun i s e => by
    unfold lkG at e
    rw [List.getElem?_map] at e
    cases h : Γ[i]? with
    | none => rw [h] at e; cases e
    | some s' => rw [h] at e; cases e; exact ⟨s', rfl, rfl⟩
  refine ⟨I.hH, I.hF, I.sub, I.old, by rw [I.len]; exact (List.length_map ..).symm, fun i s e => ?_, fun i j p d e hi hj => ?_⟩
  · obtain ⟨s', e1, rfl⟩ := hk i s e
    have h := I.slot i s' e1
    cases s' with
    | bor d => trivial
    | _ => exact h
  · obtain ⟨s1, e1, q1⟩ := hk i _ hi
    obtain ⟨s2, e2, q2⟩ := hk j _ hj
    have k1 : s1 = .own d := by cases s1 <;> first | exact q1.symm | cases q1
    have k2 : s2 = .own e := by cases s2 <;> first | exact q2.symm | cases q2
    rw [k1] at e1
    rw [k2] at e2
    exact I.apart i j p d e e1 e2
def unB (H0 : Hp) (a : Addr) : Hp := fun b => if b = a then none else H0 b
theorem unB_some {a b : Addr} {o : HO} (h : unB H0 a b = some o) : b ≠ a ∧ H0 b = some o := by
  unfold unB at h
  split at h
  · cases h
  · rename_i n
    exact ⟨n, h⟩
theorem noT_frz {o : Obj} {u : HO} : noT (HO.frz o u) := fun _ z => nomatch z
theorem EnvOk.lock (I : EnvOk K F0 H0 F H σ Γ) {a : Addr} {kvs : List (Key × V)} (hF : F a = some (.dK kvs)) (hH : H a = some (.dK kvs)) (od : Obj) : EnvOk K F0 (unB H0 a) F (L2.upd H a (.frz od (.dK kvs))) σ (lkG Γ) := by
  have J := I.noBor
  refine ⟨fun b o e n => ?_, I.hF, ⟨fun b o e => ?_, I.sub.nt, tabs_upd I.sub.tb hH ⟨(fun _ z => nomatch z), fun _ z => nomatch z⟩⟩, fun b o e n => I.old b o (unB_some e).2 n, J.len, fun i s e => ?_, J.apart⟩
  · obtain ⟨h1, h2⟩ := unB_some e
    rw [upd_ne h1]
    exact I.hH b o h2 n
  · by_cases hb : b = a
    · subst hb
      rw [hF] at e
      cases e
      exact .inr ⟨rfl, od, upd_same⟩
    · rw [upd_ne hb]
      exact I.sub.at_ b o e
  · have h := J.slot i s e
    cases s with
    | un => trivial
    | val d => exact h
    | own d =>
      obtain ⟨p, e1, e2, e3, e4⟩ := h
      have hp : p ≠ a := fun z => by rw [z, hF] at e3; cases e3
      refine ⟨p, e1, fun o z => e2 o (unB_some z).2, e3, ?_⟩
      cases e4 with
      | lst h r l => exact .lst (by rw [upd_ne hp]; exact h) r l
      | dctK h r l => exact .dctK (by rw [upd_ne hp]; exact h) r l
      | dctT h r l => exact .dctT (by rw [upd_ne hp]; exact h) r l
      | set h => exact .set (by rw [upd_ne hp]; exact h)
    | bor d =>
      unfold lkG at e
      rw [List.getElem?_map] at e
      cases h2 : Γ[i]? with
      | none => rw [h2] at e; cases e
      | some s' =>
        rw [h2] at e
        cases s' <;> cases e
theorem Grow.unlock {a : Addr} {kvs : List (Key × V)} {od : Obj} (hF : F a = some (.dK kvs)) (hH : H a = some (.dK kvs)) (g : Grow F (L2.upd H a (.frz od (.dK kvs))) F' H') : H' a = some (.frz od (.dK kvs)) ∧ Grow F H F' (L2.upd H' a (.dK kvs)) := by
  have h1 : H' a = some (.frz od (.dK kvs)) := g.hh a _ upd_same noT_frz
  refine ⟨h1, fun b o e n => ?_, g.ff, ⟨fun b o e => ?_, g.sub.nt, tabs_upd g.sub.tb h1 ⟨(fun _ z => nomatch z), fun _ z => nomatch z⟩⟩, fun b o e n => ?_⟩
  · by_cases hb : b = a
    · subst hb
      rw [hH] at e
      cases e
      exact upd_same
    · rw [upd_ne hb]
      exact g.hh b o (by rw [upd_ne hb]; exact e) n
  · by_cases hb : b = a
    · subst hb
      rw [g.ff _ _ hF] at e
      cases e
      exact .inl upd_same
    · rw [upd_ne hb]
      exact g.sub.at_ b o e
  · by_cases hb : b = a
    · subst hb
      rw [g.ff _ _ hF, hF]
    · exact g.old b o (by rw [upd_ne hb]; exact e) n
theorem ORep.unlock {a : Addr} {kvs : List (Key × V)} {od : Obj} {v : V} {ds : List D} (hF : F' a = some (.dK kvs)) (h : ORep K (L2.upd H a (.frz od (.dK kvs))) F' H' v (.o (.lst ds))) : ORep K H F' (L2.upd H' a (.dK kvs)) v (.o (.lst ds)) := by
  obtain ⟨p, e1, e2, e3, e4⟩ := h
  have hp : p ≠ a := fun z => by rw [z, hF] at e3; cases e3
  refine ⟨p, e1, fun o z => e2 o (by rw [upd_ne hp]; exact z), e3, ?_⟩
  cases e4 with
  | lst h r l => exact .lst (by rw [upd_ne hp]; exact h) r l
theorem rep_dK {F : Hp} {v : V} {ds : List (D × D)} (h : Rep K F v (.dct ds)) (hk : intKB ds = true) : ∃ a kvs, v = .ref a ∧ F a = some (.dK kvs) ∧ RepK K F kvs ds ∧ ds.length ≤ sizeLine := by
  cases h with
  | dctK h r l => exact ⟨_, _, rfl, h, r, l⟩
  | dctT h r l =>
    cases r with
    | nil => cases hk
    | cons r t =>
      unfold intKB at hk
      rw [List.all_cons] at hk
      simp [keyT] at hk
theorem repK_get {F : Hp} : ∀ {kvs : List (Key × V)} {ds : List (D × D)}, RepK K F kvs ds → ∀ (i : Nat) (k : Key) (v : V), kvs[i]? = some (k, v) → ∃ d, ds[i]? = some (keyD k, d) ∧ Rep K F v d
  | _, _, .nil, i, k, v, e => by cases e
  | _, _, .cons (k := k0) (d := d0) r t, 0, k, v, e => by
    cases e
    exact ⟨d0, rfl, r⟩
  | _, _, .cons r t, i + 1, k, v, e => repK_get t i k v e
theorem items_ky {On : Fz T → Hp → Prop} {a : Addr} {od : Obj} {kvs : List (Key × V)} {ds : List (D × D)} (r : RepK K F kvs ds) (l : ds.length ≤ sizeLine) (h : ∀ F' H', On F' H' → H' a = some (.frz od (.dK kvs)) ∧ Sub F' H') : Items K On (Itk a od kvs) (ds.map (·.1)) := by
  have el := r.length
  refine ⟨by rw [List.length_map]; exact l, fun i F' H' hi o => ⟨(h _ _ o).1, by rw [List.length_map] at hi; omega⟩, fun i d F' H' x H'' ed o y => ?_, fun F' H' o => ⟨(h _ _ o).1, by rw [List.length_map]; omega⟩⟩
  obtain ⟨rfl, k, v, e1, rfl⟩ := y
  obtain ⟨d', e2, _⟩ := repK_get r i k v e1
  rw [List.getElem?_map, e2] at ed
  cases ed
  refine ⟨F', .refl (h _ _ o).2, ?_⟩
  cases k with
  | inl i => exact .int _
  | inr s => exact .str _
def WkD (K : PySem.W.Frag) (T : List (Addr × Str)) (wi : TI) (i : Nat) (src : D → R (List D)) : Prop :=
  ∀ (F : Fz T) (H : Hp) (σ : L2.St) (a : Addr) (od : Obj) (kvs : List (Key × V)) (ds : List (D × D)) (out : List D), Sub F H → σ.getD i none = some (.ref a) → F a = some (.dK kvs) → H a = some (.frz od (.dK kvs)) → RepK K F kvs ds → ds.length ≤ sizeLine → src (.dct ds) = .ok out →
    ∀ R' : It → Hp → Prop, (∀ J F' H', Grow F H F' H' → Items K (Grow F' H') J out → R' J H') → wi σ H R'
theorem wk_ky {i : Nat} : WkD K T (iKeys (tVar i)) i kyD := fun F H σ a od kvs ds out s es hF hH r l e R' q => by
  have e : (if intKB ds = true then R.ok (ds.map (·.1)) else R.stuck) = R.ok out := e
  split at e
  · cases e
    exact ⟨_, getD_some es, a, od, rfl, .inl ⟨kvs, hH, q _ F H (.refl s) (items_ky r l fun F2 H2 g => ⟨g.hh _ _ hH noT_frz, g.sub⟩)⟩⟩
  · cases e
theorem src_int {src : D → R (List D)} (hs : src = kyD ∨ src = vlD) {d : D} {out : List D} (e : src d = .ok out) : ∃ ds, d = .dct ds ∧ intKB ds = true := by
  rcases hs with rfl | rfl
  · cases d with
    | dct ds =>
      refine ⟨ds, rfl, ?_⟩
      have e : (if intKB ds = true then R.ok (ds.map (·.1)) else R.stuck) = R.ok out := e
      split at e
      · assumption
      · cases e
    | _ => cases e
  · cases d with
    | dct ds =>
      refine ⟨ds, rfl, ?_⟩
      have e : (if intKB ds = true then R.ok (ds.map (·.2)) else R.stuck) = R.ok out := e
      split at e
      · assumption
      · cases e
    | _ => cases e
theorem ge_lcD {mg : Str → Option Value} {E : Ex T} {wi : TI} {src : D → R (List D)} (hs : src = kyD ∨ src = vlD) {i : Nat} (hw : WkD K T wi i src) {t : Tg} {tt : Gm → R Bool} {te : Gm → R D} {vs : List Nat} (hv : ∀ i ∈ t.ix, i ∈ vs) :
    GE K mg E (tLkO (tLc wi (tGof T K t) (tTof T K tt) (tVof T K te) vs)) (eLcD (fun Γ => (valAt i Γ).bind src) t tt te vs) := fun Γ F0 H0 F H σ Q I q => by
  have q : ((valAt i Γ).bind src).post _ _ := R.post_bind q
  cases ev : valAt i Γ with
  | stuck => rw [ev] at q; exact q.elim
  | err n =>
    unfold valAt at ev
    split at ev <;> cases ev
  | ok d =>
    rw [ev] at q
    have q : (src d).post _ _ := q
    cases es : src d with
    | stuck => rw [es] at q; exact q.elim
    | err n =>
      rcases hs with rfl | rfl
      · cases d with
        | dct ds =>
          have es : (if intKB ds = true then R.ok (ds.map (·.1)) else R.stuck) = R.err n := es
          split at es <;> cases es
        | _ => cases es
      · cases d with
        | dct ds =>
          have es : (if intKB ds = true then R.ok (ds.map (·.2)) else R.stuck) = R.err n := es
          split at es <;> cases es
        | _ => cases es
    | ok its =>
      rw [es] at q
      obtain ⟨out, eo, qq⟩ := noE_post (R.post_bind q)
      clear q
      obtain ⟨ds, rfl, hk⟩ := src_int hs es
      have hsl : Γ[i]? = some (.val (.dct ds)) := by
        unfold valAt at ev
        split at ev
        · rename_i d' h
          cases ev
          exact h
        · cases ev
      obtain ⟨v, ei, rv⟩ := I.slot i _ hsl
      obtain ⟨a, kvs, rfl, hF, rk, l⟩ := rep_dK rv hk
      have q : ∀ v F' H', Grow F H F' H' → ORep K H F' H' v (.o (.lst out)) → Q v H' := qq
      rcases I.sub.at_ a _ hF with hH | ⟨_, x, hH⟩
      · refine .inl ⟨a, .dK kvs, hH, trivial, fun od => ?_⟩
        have J := I.lock hF hH od
        refine lc_at hv J eo (hw F _ σ a od kvs ds its J.sub ei hF upd_same rk l es) fun v F' H' g o => ?_
        obtain ⟨k1, k2⟩ := Grow.unlock hF hH g
        exact ⟨k1, q v F' _ k2 (ORep.unlock (g.ff _ _ hF) o)⟩
      · exact .inr (lc_at hv I.noBor eo (hw F H σ a x kvs ds its I.sub ei hF hH rk l es) q)
end
section
variable {T : List (Addr × Str)} {X : Cx} {E : Ex T} {G : Gl5} {k : Nat} {N : List Str} {sc : Scope} {fnb : Str → Bool}
variable {e a b c tg iter elt : PySem.Expr} {ifs : List PySem.Expr} {pos p p2 p3 apos cpos : Pos} {i j : Nat} {x y : Str} {scope : Scope}
def DSrc (X : Cx) (T : List (Addr × Str)) (tg e : PySem.Expr) (i : Nat) (src : D → R (List D)) : Prop := (src = kyD ∨ src = vlD) ∧ ∃ wi, PI X tg e wi ∧ WkD X.K T wi i src
theorem d_keys (C : Cok X E G k N sc fnb) (h : varB N sc i x = true) : DSrc X T tg (.Name x pos) i kyD := let ⟨a, b, c, d⟩ := C.var h; ⟨.inl rfl, _, pi_keys (pe_var a b c d), wk_ky⟩
theorem c_lcD (C : Cok X E G k N sc fnb) {src : D → R (List D)} {t : Tg} {tt : Gm → R Bool} {te : Gm → R D} (own : List (Str × Nat)) (hi : DSrc X T tg iter i src) (ok : blkC N sc scope own = true)
    (hg : ∀ Y, Cok Y (EN_ T) G k N (relS scope sc) (fnBlk scope) → SG Y tg t) (ht : ∀ Y, Cok Y (EN_ T) G k N (relS scope sc) (fnBlk scope) → STf T Y ifs tt) (he : ∀ Y, Cok Y (EN_ T) G k N (relS scope sc) (fnBlk scope) → SV Y (EN_ T) elt te)
    (hs : isSetE iter = false := by rfl) (hv : ∀ i ∈ t.ix, i ∈ own.map (·.2) := by decide) : SE X E (.ListComp elt [⟨tg, iter, ifs, 0⟩] scope pos) (eLcD (fun Γ => (valAt i Γ).bind src) t tt te (own.map (·.2))) := by
  obtain ⟨h1, wi, pi, gi⟩ := hi
  exact ⟨_, pe_lkO (pe_lc C.calm (by rw [C.hN]; exact C.nd) pi (by rw [C.hN, C.sc]; exact blkOk_by ok) (fun s H c cl fp => SG.of (hg _ (C.blk s H scope c cl fp))) (fun s H c cl fp => STf.of (ht _ (C.blk s H scope c cl fp))) (fun s H c cl fp => SV.of (EN_ T) (he _ (C.blk s H scope c cl fp))) (folded_of hs)), ge_lcD h1 gi hv⟩
end
end Pd
namespace Pd
open PySem PySem.Spec L2
theorem lcD_eq {fi : Gm → R (List D)} {t : Tg} {tt : Gm → R Bool} {te : Gm → R D} {vs : List Nat} {Γ : Gm} : eLcD fi t tt te vs Γ = eLc (fun _ => fi Γ) t tt te vs (lkG Γ) := rfl
theorem valAt_val {i : Nat} {Γ : Gm} {d : D} (h : Γ[i]? = some (.val d)) : valAt i Γ = .ok d := by
  unfold valAt
  rw [h]
theorem ky_of {i : Nat} {Γ : Gm} {kvs : List (D × D)} (h : Γ[i]? = some (.val (.dct kvs))) (k : intKB kvs = true) : iKy i Γ = .ok (kvs.map (·.1)) := by
  show (valAt i Γ).bind kyD = _
  rw [valAt_val h]
  show (if intKB kvs = true then R.ok (kvs.map (·.1)) else R.stuck) = _
  rw [if_pos k]
end Pd

set_option Elab.async false
set_option linter.all false
set_option maxRecDepth 100000
set_option maxHeartbeats 1000000
namespace Pr
open PySem PySem.Spec L2 Pd
def f_places_many : Gm → R Out := sSeq (sRet (e2 (dBin .FloorDiv) (rd (e2 dIx (rVar 0) (rd (eC (.int 0))))) (rd (eUser d_pieces_of (seqR [uVar 0])))))
  (sNext)
def d_places_many : List Sl → R O := defF 0 f_places_many
def f__law_homes : Gm → R Out := sSeq (sSet true 1 ((fun _ => .ok (.o (.dct [])))))
  (sSeq (sSet false 2 (eC (.int 0)))
  (sSeq (whR (isB (e2 (dCmp .Lt) (rd (eCall fLen (seqR [rVar 1]))) (rd (eUser d__law_come (seqR [uVar 0]))))) (sSeq (sFor (iF (vl (eUser d__law_sized (seqR [uVar 2])))) (.tp [.nm 3, .nm 4]) (sSeq (sSet false 5 (eUser d__law_lies (seqR [uVar 0, uVar 3, uVar 4])))
  (sSeq (sIf (isB (e2 (dCmp .NotIn) (rVar 5) (rVar 1))) (sSeq (sSto 1 (vl (eTup (seqR [vl (eVar 3), vl (eVar 4)]))) (rVar 5))
  (sNext)) (sNext))
  (sNext))))
  (sSeq (sSet false 2 (e2 (dBin .Add) (rVar 2) (rd (eC (.int 1)))))
  (sNext))) whN)
  (sSeq (sRetV 1)
  (sNext))))
def d__law_homes : List Sl → R O := defF 5 f__law_homes
end Pr
namespace Pd
open PySem PySem.Spec L2 Pr
section
variable {β : Type}
def kvG (v : β → D) (L : List (Nat × β)) : List (D × D) := L.map fun p => (.int (p.1 : Int), v p.2)
theorem kvg_int (v : β → D) (L : List (Nat × β)) : intKeys (kvG v L) := fun p hp => by
  obtain ⟨q, _, rfl⟩ := List.mem_map.mp hp
  exact ⟨_, rfl⟩
theorem kvg_len (v : β → D) (L : List (Nat × β)) : (kvG v L).length = L.length := List.length_map ..
theorem in_kvg (v : β → D) (L : List (Nat × β)) (x : Nat) : inKeys (kvG v L) (.int (x : Int)) = decide (x ∈ L.map Prod.fst) := by
  induction L with
  | nil => rfl
  | cons p L ih =>
    have : inKeys (kvG v (p :: L)) (.int (x : Int)) = (keyEq (.int (p.1 : Int)) (.int (x : Int)) || inKeys (kvG v L) (.int (x : Int))) := rfl
    rw [this, ih, key_nat, Bool.eq_iff_iff]
    simp only [List.map_cons, List.mem_cons, Bool.or_eq_true, decide_eq_true_eq]
    exact or_congr ⟨Eq.symm, Eq.symm⟩ Iff.rfl
theorem get_kvg (v : β → D) : ∀ {L : List (Nat × β)} {x : Nat} {c : β}, (L.map Prod.fst).Nodup → (x, c) ∈ L → getK (kvG v L) (.int (x : Int)) = some (v c)
  | p :: L, x, c, hn, h => by
    rw [List.map_cons, List.nodup_cons] at hn
    have e : getK (kvG v (p :: L)) (.int (x : Int)) = if keyEq (.int (p.1 : Int)) (.int (x : Int)) = true then some (v p.2) else getK (kvG v L) (.int (x : Int)) := by
      unfold getK kvG
      rw [List.map_cons, List.find?_cons]
      show (match keyEq (.int (p.1 : Int)) (.int (x : Int)) with | true => _ | false => _ : Option (D × D)).map _ = _
      cases keyEq (.int (p.1 : Int)) (.int (x : Int)) <;> rfl
    rw [e, key_nat]
    rcases List.mem_cons.mp h with rfl | h
    · rw [if_pos (decide_eq_true rfl)]
    · have : p.1 ≠ x := fun e => hn.1 (e ▸ List.mem_map.mpr ⟨_, h, rfl⟩)
      rw [if_neg (by rw [decide_eq_false this]; exact Bool.false_ne_true)]
      exact get_kvg v hn.2 h
theorem notin_kvg (v : β → D) (L : List (Nat × β)) (x : Nat) : dInO true (.int (x : Int)) (.dct (kvG v L)) = some (.v (.bl (!decide (x ∈ L.map Prod.fst)))) := by
  unfold dInO dIn
  dsimp only
  rw [if_pos ⟨rfl, kind_int (kvg_int v L) _⟩, in_kvg]
  cases decide (x ∈ L.map Prod.fst) <;> rfl
theorem put_kvg (v : β → D) {L : List (Nat × β)} {x : Nat} (c : β) (h : x ∉ L.map Prod.fst) : putD (kvG v L) (.int (x : Int)) (v c) = kvG v (L ++ [(x, c)]) := by
  unfold putD
  rw [in_kvg, decide_eq_false h, if_neg Bool.false_ne_true]
  unfold kvG
  rw [List.map_append]
  rfl
theorem sto_kvg (v : β → D) {L : List (Nat × β)} {x : Nat} (c : β) (h : x ∉ L.map Prod.fst) (hl : L.length < 1000000) : stoD (.dct (kvG v L)) (.int (x : Int)) (v c) = some (.dct (kvG v (L ++ [(x, c)]))) := by
  rw [sto_dct (kvg_int v L) (by rw [kvg_len]; exact hl), put_kvg v c h]
theorem len_kvg (v : β → D) (L : List (Nat × β)) : fLen [.dct (kvG v L)] = some (.v (.int (L.length : Nat))) := by
  show some (O.v (.int ((kvG v L).length : Nat))) = _
  rw [kvg_len]
theorem intKB_kvg (v : β → D) {L : List (Nat × β)} (h : 0 < L.length) : intKB (kvG v L) = true := by
  unfold intKB
  rw [Bool.and_eq_true]
  constructor
  · cases L with
    | nil => cases h
    | cons p L => rfl
  · rw [List.all_eq_true]
    intro p hp
    obtain ⟨q, _, rfl⟩ := List.mem_map.mp hp
    rfl
def putC (pl : β → Nat) (L : List (Nat × β)) (c : β) : List (Nat × β) := if pl c ∈ L.map Prod.fst then L else L ++ [(pl c, c)]
def colC (pl : β → Nat) (cs : List β) (L : List (Nat × β)) : List (Nat × β) := cs.foldl (putC pl) L
def colS (pl : β → Nat) (cells : Nat → List β) : Nat → List (Nat × β)
  | 0 => []
  | n + 1 => colC pl (cells n) (colS pl cells n)
def colF (pl : β → Nat) (cells : Nat → List β) (many : Nat) : Nat → Nat → List (Nat × β) → List (Nat × β)
  | 0, _, L => L
  | f + 1, n, L => if L.length < many then colF pl cells many f (n + 1) (colC pl (cells n) L) else L
variable {pl : β → Nat} {cells : Nat → List β}
theorem colC_app (a b : List β) (L : List (Nat × β)) : colC pl (a ++ b) L = colC pl b (colC pl a L) := List.foldl_append ..
theorem putC_nd {L : List (Nat × β)} {c : β} (h : (L.map Prod.fst).Nodup) : ((putC pl L c).map Prod.fst).Nodup := by
  unfold putC
  split
  · exact h
  · rename_i n
    rw [List.map_append]
    refine List.nodup_append.mpr ⟨h, by simp, fun a ha b hb e => ?_⟩
    obtain rfl := List.mem_singleton.mp hb
    exact n (show pl c ∈ _ from (show a = pl c from e) ▸ ha)
theorem colC_nd : ∀ {cs : List β} {L : List (Nat × β)}, (L.map Prod.fst).Nodup → ((colC pl cs L).map Prod.fst).Nodup
  | [], _, h => h
  | c :: cs, _, h => colC_nd (cs := cs) (putC_nd (c := c) h)
theorem putC_mem {L : List (Nat × β)} {c d : β} {q : Nat} (h : (q, d) ∈ putC pl L c) : (q, d) ∈ L ∨ (d = c ∧ pl d = q) := by
  unfold putC at h
  split at h
  · exact .inl h
  · rcases List.mem_append.mp h with h | h
    · exact .inl h
    · cases List.mem_singleton.mp h
      exact .inr ⟨rfl, rfl⟩
theorem colC_mem : ∀ {cs : List β} {L : List (Nat × β)} {d : β} {q : Nat}, (q, d) ∈ colC pl cs L → (q, d) ∈ L ∨ (d ∈ cs ∧ pl d = q)
  | [], _, _, _, h => .inl h
  | c :: cs, L, d, q, h => by
    rcases colC_mem (cs := cs) (L := putC pl L c) h with h | h
    · rcases putC_mem h with h | ⟨e, h⟩
      · exact .inl h
      · exact .inr ⟨by rw [e]; exact List.mem_cons_self .., h⟩
    · exact .inr ⟨List.mem_cons_of_mem _ h.1, h.2⟩
theorem putC_keep {L : List (Nat × β)} {c : β} {q : Nat} (h : q ∈ L.map Prod.fst) : q ∈ (putC pl L c).map Prod.fst := by
  unfold putC
  split
  · exact h
  · rw [List.map_append]
    exact List.mem_append_left _ h
theorem putC_has {L : List (Nat × β)} {c : β} : pl c ∈ (putC pl L c).map Prod.fst := by
  unfold putC
  split
  · assumption
  · rw [List.map_append]
    exact List.mem_append_right _ (List.mem_singleton.mpr rfl)
theorem colC_keep : ∀ {cs : List β} {L : List (Nat × β)} {q : Nat}, q ∈ L.map Prod.fst → q ∈ (colC pl cs L).map Prod.fst
  | [], _, _, h => h
  | c :: cs, _, _, h => colC_keep (cs := cs) (putC_keep h)
theorem colC_has : ∀ {cs : List β} {L : List (Nat × β)} {c : β}, c ∈ cs → pl c ∈ (colC pl cs L).map Prod.fst
  | c :: cs, L, d, h => by
    rcases List.mem_cons.mp h with rfl | h
    · exact colC_keep (cs := cs) putC_has
    · exact colC_has (cs := cs) h
theorem colS_nd : ∀ n, ((colS pl cells n).map Prod.fst).Nodup
  | 0 => List.nodup_nil
  | n + 1 => colC_nd (colS_nd n)
theorem colS_mem : ∀ {n : Nat} {q : Nat} {d : β}, (q, d) ∈ colS pl cells n → ∃ i, i < n ∧ d ∈ cells i ∧ pl d = q
  | 0, _, _, h => by cases h
  | n + 1, q, d, h => by
    rcases colC_mem h with h | ⟨h1, h2⟩
    · obtain ⟨i, h1, h2⟩ := colS_mem h
      exact ⟨i, by omega, h2⟩
    · exact ⟨n, by omega, h1, h2⟩
theorem colS_has : ∀ {n i : Nat} {c : β}, i < n → c ∈ cells i → pl c ∈ (colS pl cells n).map Prod.fst
  | n + 1, i, c, h, hc => by
    by_cases g : i = n
    · subst g
      exact colC_has hc
    · exact colC_keep (colS_has (by omega) hc)
theorem colS_lt {m n q : Nat} (h : ∀ c, pl c < m) (hq : q ∈ (colS pl cells n).map Prod.fst) : q < m := by
  obtain ⟨⟨q, c⟩, hc, rfl⟩ := List.mem_map.mp hq
  obtain ⟨i, _, _, e⟩ := colS_mem hc
  show q < m
  rw [← e]
  exact h c
theorem colC_le {m : Nat} {cs : List β} {L : List (Nat × β)} (hn : (L.map Prod.fst).Nodup) (h1 : ∀ q ∈ L.map Prod.fst, q < m) (h2 : ∀ c ∈ cs, pl c < m) : (colC pl cs L).length ≤ m := by
  have := nodup_len ((colC pl cs L).map Prod.fst) (List.range m) (colC_nd hn) fun q hq => by
    obtain ⟨⟨q, c⟩, hc, rfl⟩ := List.mem_map.mp hq
    refine List.mem_range.mpr (show q < m from ?_)
    rcases colC_mem hc with hc | ⟨h3, e⟩
    · exact h1 q (List.mem_map.mpr ⟨_, hc, rfl⟩)
    · rw [← e]
      exact h2 c h3
  rw [List.length_map, List.length_range] at this
  exact this
theorem colF_first {many : Nat} : ∀ (k f n : Nat), k < f → ¬ (colS pl cells (n + k)).length < many → (∀ i, i < k → (colS pl cells (n + i)).length < many) → colF pl cells many f n (colS pl cells n) = colS pl cells (n + k)
  | 0, f + 1, n, _, h, _ => by
    rw [colF, if_neg (show ¬ (colS pl cells n).length < many from h)]
    rfl
  | k + 1, f + 1, n, hk, h, hl => by
    rw [colF, if_pos (show (colS pl cells n).length < many from hl 0 (by omega))]
    have := colF_first k f (n + 1) (by omega) (by rw [show n + 1 + k = n + (k + 1) by omega]; exact h) fun i hi => by
      rw [show n + 1 + i = n + (i + 1) by omega]
      exact hl (i + 1) (by omega)
    rw [show n + 1 + k = n + (k + 1) by omega] at this
    exact this
  | k + 1, 0, n, hk, _, _ => by omega
  | 0, 0, n, hk, _, _ => by omega
theorem first_not (P : Nat → Prop) : ∀ (k n : Nat), ¬ P (n + k) → ∃ i, i ≤ k ∧ ¬ P (n + i) ∧ ∀ j, j < i → P (n + j)
  | 0, n, h => ⟨0, Nat.le_refl _, h, fun j hj => by omega⟩
  | k + 1, n, h => by
    by_cases h0 : P n
    · obtain ⟨i, hi, h1, h2⟩ := first_not P k (n + 1) (by rw [show n + 1 + k = n + (k + 1) by omega]; exact h)
      refine ⟨i + 1, by omega, by rw [show n + (i + 1) = n + 1 + i by omega]; exact h1, fun j hj => ?_⟩
      cases j with
      | zero => exact h0
      | succ j =>
        rw [show n + (j + 1) = n + 1 + j by omega]
        exact h2 j (by omega)
    · exact ⟨0, by omega, h0, fun j hj => by omega⟩
theorem up_whileE {c : Gm → R Bool} {b : Gm → R Out} {St : Nat → Gm → Prop} {P : Nat → Prop} [DecidablePred P] (hc : ∀ n Γ, n ≤ 1000 → St n Γ → c Γ = .ok (decide (P n))) (hb : ∀ n Γ, n ≤ 1000 → St n Γ → P n → Go (b Γ) (St (n + 1))) :
    ∀ (k n fuel : Nat) (Γ : Gm), k < fuel → n + k ≤ 1000 → St n Γ → ¬ P (n + k) → (∀ i, i < k → P (n + i)) → Go (whR c b fuel Γ) (St (n + k))
  | 0, n, f + 1, Γ, _, hn, s, h, _ => by
    rw [whR, hc n Γ (by omega) s, Pd.R.bind_ok, decide_eq_false (show ¬ P n from h), if_neg Bool.false_ne_true]
    exact ⟨Γ, rfl, s⟩
  | k + 1, n, f + 1, Γ, hf, hn, s, h, hl => by
    obtain ⟨Γ1, e, s1⟩ := hb n Γ (by omega) s (hl 0 (by omega))
    rw [whR, hc n Γ (by omega) s, Pd.R.bind_ok, decide_eq_true (show P n from hl 0 (by omega)), if_pos rfl, e, Pd.R.bind_ok]
    dsimp only
    have := up_whileE hc hb k (n + 1) f Γ1 (by omega) (by omega) s1 (by rw [show n + 1 + k = n + (k + 1) by omega]; exact h) fun i hi => by
      rw [show n + 1 + i = n + (i + 1) by omega]
      exact hl (i + 1) (by omega)
    rw [show n + 1 + k = n + (k + 1) by omega] at this
    exact this
  | k + 1, n, 0, Γ, hf, _, _, _, _ => by omega
  | 0, n, 0, Γ, hf, _, _, _, _ => by omega
end
theorem gcd_cl {S : Nat → Prop} {m : Nat} (hm : 0 < m) (h0 : S 0) (hadd : ∀ y z, S y → S z → S (y + z)) (hof : ∀ y z, y % m = z % m → S y → S z) (a b : Nat) : S a → S b → S (Nat.gcd a b) := by
  have hmul : ∀ z, S z → ∀ k, S (z * k) := fun z hz k => by
    induction k with
    | zero => exact h0
    | succ k ih => rw [Nat.mul_succ]; exact hadd _ _ ih hz
  have hmod : ∀ a b, S a → S b → S (b % a) := fun a b ha hb => by
    have h := hadd _ _ hb (hmul _ (hmul _ ha (b / a)) (m - 1))
    refine hof _ _ ?_ h
    have e : b + a * (b / a) * (m - 1) = b % a + a * (b / a) * m := by
      have h1 := Nat.div_add_mod b a
      obtain ⟨k, hk⟩ : ∃ k, m = k + 1 := ⟨m - 1, by omega⟩
      rw [hk, Nat.add_sub_cancel, Nat.mul_succ]
      omega
    rw [e, Nat.mul_comm, Nat.add_mul_mod_self_left]
  induction a, b using Nat.gcd.induction with
  | H0 b => intro _ h; rw [Nat.gcd_zero_left]; exact h
  | H1 a b ha ih =>
    intro h1 h2
    rw [Nat.gcd_rec]
    exact ih (hmod _ _ h1 h2) h1
section
variable {m a b : Nat}
def plN (m a b x y : Nat) : Nat := (x * a + y * b) % m
theorem pl_all (hm : 0 < m) {q : Nat} (hq : q < m) (hd : gcdL m [a, b] ∣ q) : ∃ x y, x < m ∧ y < m ∧ plN m a b x y = q := by
  have hadd : ∀ y z : Nat, (∃ u v, (u * a + v * b) % m = y % m) → (∃ u v, (u * a + v * b) % m = z % m) → ∃ u v, (u * a + v * b) % m = (y + z) % m := by
    rintro y z ⟨u, v, h1⟩ ⟨u', v', h2⟩
    refine ⟨u + u', v + v', ?_⟩
    rw [Nat.add_mod y z, ← h1, ← h2, ← Nat.add_mod, Nat.add_mul, Nat.add_mul]
    congr 1
    omega
  have hcl := gcd_cl (S := fun z => ∃ u v, (u * a + v * b) % m = z % m) hm ⟨0, 0, by simp⟩ hadd (fun y z e ⟨u, v, h⟩ => ⟨u, v, h.trans e⟩)
  have h1 := hcl m a ⟨0, 0, by simp⟩ ⟨1, 0, by simp⟩
  have h2 := hcl (Nat.gcd m a) b h1 ⟨0, 1, by simp⟩
  obtain ⟨k, hk⟩ := hd
  have h3 : ∀ k, ∃ u v, (u * a + v * b) % m = (Nat.gcd (Nat.gcd m a) b * k) % m := fun k => by
    induction k with
    | zero => exact ⟨0, 0, by simp⟩
    | succ k ih => rw [Nat.mul_succ]; exact hadd _ _ ih h2
  obtain ⟨u, v, h⟩ := h3 k
  have hk' : Nat.gcd (Nat.gcd m a) b * k = q := hk.symm
  rw [hk', Nat.mod_eq_of_lt hq] at h
  refine ⟨u % m, v % m, Nat.mod_lt _ hm, Nat.mod_lt _ hm, ?_⟩
  unfold plN
  rw [← h, Nat.add_mod, Nat.mod_mul_mod, Nat.mod_mul_mod, ← Nat.add_mod]
theorem places_many_v {ls : List Nat} (R : Ring m ls) : d_places_many [.val (ringD m ls)] = .ok (.v (.int ((m / gcdL m ls : Nat) : Int))) := by
  have e := pieces_of_v R
  have ix := ring_ix m ls
  have hg := gcdL_le ls m (by have := R.m3; omega)
  have hm := R.m100
  have hd : (m : Int) / ((gcdL m ls : Nat) : Int) = ((m / gcdL m ls : Nat) : Int) := rfl
  unfold d_places_many f_places_many
  simp (implicitDefEqProofs := false) (disch := omega) only [↓r_seq, ↓r_next, ↓r_if, ↓r_eif, ↓r_set, ↓r_ret, ↓r_retV, ↓r_expr, ↓r_asg, ↓r_par, ↓r_app, ↓r_ext, ↓r_sto, ↓r_or1, ↓r_or, ↓r_and1, ↓r_and, ↓r_vor1, ↓r_vor, ↓r_vand1, ↓r_vand, ↓r_not, ↓r_tru, ↓r_isB, ↓r_eC, ↓r_rd, ↓r_vl, ↓r_rV, ↓r_eV, ↓r_uV, ↓r_uVl, ↓r_sq0, ↓r_sq, ↓r_e2, ↓r_e3, ↓r_call, ↓r_user, ↓r_enot, ↓r_eneg, ↓r_tup, ↓r_lst, ↓r_sl, ↓r_noP, ↓r_aP, ↓r_iOf, ↓r_iF, ↓r_def, ↓r_ref, r_seqNx, r_seqRt, r_seqBk, r_seqCt, r_ifT, r_ifF, r_setV, r_setOt, r_setOl, r_setOd, r_setOs, r_retK, r_retVv, r_retVo, r_asgK, r_tgN, r_tgT, r_tgL, r_tgs0, r_tgs, r_parK, r_ownL, r_ownLo, r_ownD, r_ownDo, r_appK, r_appJ, r_extK, r_extJ, r_stoK, r_stoI, r_stoJ, r_stoL, r_orT, r_orF, r_andT, r_andF, r_vorK, r_vorT, r_vorF, r_vandK, r_vandT, r_vandF, r_notK, r_truK, r_truB, r_truI, r_truL, r_truT, r_truN, r_isBK, r_rdV, r_rdO, r_dV, r_dO, r_valV, r_valL, r_valD, r_rVv, r_rVo, r_rVb, r_eVv, r_uVv, r_uVo, r_uVb, r_uVlK, r_sqK, r_consK, r_opK, r_opJ, r_chK, r_chJ, r_chT, r_chF, r_clK, r_ntK, r_ngK, r_tpK, r_lsK, r_slK, r_slJ, r_slI, r_slL, r_slT, r_aPK, r_sqL, r_sqT, r_sqS, r_rtR, r_rtN, r_refO, r_refE, r_wdK, r_bAdd, r_bSub, r_bMul, r_bDiv, r_bMod, r_bPow, r_cLt, r_cLe, r_cGt, r_cGe, r_cEq, r_cNe, r_ixL, r_ixT, r_of, r_lenL, r_lenT, r_lenS, Pd.R.bind_ok, Pd.R.bind_err, Pd.R.bind_stuck, noE_ok', mul_r, div_i, mod_i, add_i, sub_i, lt_i, le_i, gt_i, ge_i, eq_i, ne_i, pow18, List.cons_append, List.nil_append, List.getElem?_cons_zero, List.getElem?_cons_succ, List.replicate_succ, List.replicate_zero, List.set_cons_zero, List.set_cons_succ, List.length_cons, List.length_nil, if_true, if_false, Bool.not_true, Bool.not_false, Bool.false_eq_true, ↓reduceIte, Nat.reduceAdd, Nat.reduceLeDiff, Nat.reduceLT, Nat.zero_add, Option.map_some, Int.cast_ofNat_Int, Int.natCast_one, Int.natCast_zero, Int.reduceBEq, Int.reduceLT, Int.reduceLE, Int.reduceAdd, Int.reduceSub, Int.reduceMul, Int.reduceNeg, Int.reduceDiv, Int.reduceMod, decide_true, decide_false, e, ix, hd]
theorem col_end {β : Type} {pl : β → Nat} {cells : Nat → List β} (hm : 0 < m) {B : Nat} (h1 : ∀ n c, c ∈ cells n → pl c < m ∧ gcdL m [a, b] ∣ pl c) (h2 : ∀ q, q < m → gcdL m [a, b] ∣ q → ∃ n c, n ≤ B ∧ c ∈ cells n ∧ pl c = q) :
    ∃ N, N ≤ B + 1 ∧ ¬ (colS pl cells N).length < m / gcdL m [a, b] ∧ (∀ i, i < N → (colS pl cells i).length < m / gcdL m [a, b]) ∧ (∀ n, (colS pl cells n).length ≤ m / gcdL m [a, b]) ∧ ∀ q, q ∈ (colS pl cells N).map Prod.fst ↔ q < m ∧ gcdL m [a, b] ∣ q := by
  have hg := gcdL_le [a, b] m hm
  have hd := ((dvd_gcdL (d := gcdL m [a, b]) [a, b] m).mp (Nat.dvd_refl _)).1
  generalize gcdL m [a, b] = g at h1 h2 hg hd ⊢
  obtain ⟨k, hk⟩ := hd
  have hgk : m / g = k := Nat.div_eq_of_eq_mul_right hg.1 hk
  have hml : ∀ q, q < m ∧ g ∣ q ↔ q ∈ (List.range k).map (g * ·) := fun q => by
    rw [List.mem_map]
    constructor
    · rintro ⟨hq, j, rfl⟩
      refine ⟨j, List.mem_range.mpr ?_, rfl⟩
      rw [hk] at hq
      exact Nat.lt_of_mul_lt_mul_left hq
    · rintro ⟨j, hj, rfl⟩
      refine ⟨?_, Nat.dvd_mul_right ..⟩
      conv => rhs; rw [hk]
      exact Nat.mul_lt_mul_of_pos_left (List.mem_range.mp hj) hg.1
  have hkeys : ∀ n q, q ∈ (colS pl cells n).map Prod.fst → q < m ∧ g ∣ q := fun n q hq => by
    obtain ⟨⟨q, c⟩, hc, rfl⟩ := List.mem_map.mp hq
    obtain ⟨i, _, hc2, e⟩ := colS_mem hc
    show q < m ∧ g ∣ q
    rw [← e]
    exact h1 i c hc2
  have hle : ∀ n, (colS pl cells n).length ≤ m / g := fun n => by
    have := nodup_len _ ((List.range k).map (g * ·)) (colS_nd (pl := pl) (cells := cells) n) fun q hq => (hml q).mp (hkeys n q hq)
    rw [List.length_map, List.length_map, List.length_range] at this
    rw [hgk]
    exact this
  have hnd : ((List.range k).map (g * ·)).Nodup := nodup_map_of List.nodup_range fun a _ b _ e => Nat.eq_of_mul_eq_mul_left hg.1 e
  have hall : ¬ (colS pl cells (0 + (B + 1))).length < m / g := by
    rw [Nat.zero_add]
    have := nodup_len ((List.range k).map (g * ·)) ((colS pl cells (B + 1)).map Prod.fst) hnd fun q hq => by
      obtain ⟨q1, q2⟩ := (hml q).mpr hq
      obtain ⟨n, c, hn, hc, rfl⟩ := h2 q q1 q2
      exact colS_has (by omega) hc
    rw [List.length_map, List.length_map, List.length_range] at this
    rw [hgk]
    omega
  obtain ⟨N, hN, n1, n2⟩ := first_not (fun n => (colS pl cells n).length < m / g) (B + 1) 0 hall
  rw [Nat.zero_add] at n1
  refine ⟨N, hN, n1, fun i hi => by have := n2 i hi; rw [Nat.zero_add] at this; exact this, hle, fun q => ⟨hkeys N q, fun hq => ?_⟩⟩
  have hl : ((colS pl cells N).map Prod.fst).length = k := by
    rw [List.length_map]
    have := hle N
    omega
  exact Classical.byContradiction fun hno => by
    have := nodup_len (q :: (colS pl cells N).map Prod.fst) ((List.range k).map (g * ·)) (List.nodup_cons.mpr ⟨hno, colS_nd N⟩) fun x hx => by
      rcases List.mem_cons.mp hx with rfl | hx
      · exact (hml x).mp hq
      · exact (hml x).mp (hkeys N x hx)
    rw [List.length_cons, hl, List.length_map, List.length_range] at this
    omega
def plC (m a b : Nat) (c : Cel) : Nat := (plZ m a b c).toNat
theorem plC_z (hm : 0 < m) (c : Cel) : plZ m a b c = ((plC m a b c : Nat) : Int) := by
  unfold plC
  have : 0 ≤ plZ m a b c := Int.emod_nonneg _ (by omega)
  omega
theorem plC_dvd (hm : 0 < m) (c : Cel) : plC m a b c < m ∧ gcdL m [a, b] ∣ plC m a b c := by
  have e := plC_z (a := a) (b := b) hm c
  have h1 : plZ m a b c < (m : Int) := Int.emod_lt_of_pos _ (by omega)
  refine ⟨by omega, ?_⟩
  have h := (dvd_gcdL (d := gcdL m [a, b]) [a, b] m).mp (Nat.dvd_refl _)
  have hz : ((gcdL m [a, b] : Nat) : Int) ∣ plZ m a b c := by
    unfold plZ
    rw [Int.emod_def]
    refine Int.dvd_sub ?_ (Int.dvd_trans (Int.natCast_dvd_natCast.mpr h.1) (Int.dvd_mul_right ..))
    exact Int.dvd_add (Int.dvd_trans (Int.natCast_dvd_natCast.mpr (h.2 a (by simp))) (Int.dvd_mul_left ..)) (Int.dvd_trans (Int.natCast_dvd_natCast.mpr (h.2 b (by simp))) (Int.dvd_mul_left ..))
  rw [e] at hz
  exact Int.natCast_dvd_natCast.mp hz
theorem plC_nat (x y : Nat) : plC m a b ((x : Int), (y : Int)) = plN m a b x y := by
  unfold plC plN plZ
  dsimp only
  rw [← Int.natCast_mul, ← Int.natCast_mul, ← Int.natCast_add]
  rfl
def homeL (m a b : Nat) : List (Nat × Cel) := colF (plC m a b) szC (m / gcdL m [a, b]) 202 0 []
theorem home_first (R : Ring m [a, b]) : ∃ N, N ≤ 201 ∧ homeL m a b = colS (plC m a b) szC N ∧ ¬ (colS (plC m a b) szC N).length < m / gcdL m [a, b] ∧ (∀ i, i < N → (colS (plC m a b) szC i).length < m / gcdL m [a, b]) ∧ (∀ n, (colS (plC m a b) szC n).length ≤ m / gcdL m [a, b]) ∧ ∀ q, q ∈ (colS (plC m a b) szC N).map Prod.fst ↔ q < m ∧ gcdL m [a, b] ∣ q := by
  obtain ⟨h1, h2, h3, h4, h5⟩ := ring_ab R
  have hm : 0 < m := by omega
  obtain ⟨N, n1, n2, n3, n4, n5⟩ := col_end (a := a) (b := b) (pl := plC m a b) (cells := szC) hm (B := 2 * m) (fun n c _ => plC_dvd hm c) fun q hq hd => by
    obtain ⟨x, y, hx, hy, e⟩ := pl_all hm hq hd
    exact ⟨x + y, ((x : Int), (y : Int)), by omega, mem_sz.mpr (by dsimp only; omega), by rw [plC_nat]; exact e⟩
  refine ⟨N, by omega, ?_, n2, n3, n4, n5⟩
  have := colF_first (pl := plC m a b) (cells := szC) (many := m / gcdL m [a, b]) N 202 0 (by omega) (by rw [Nat.zero_add]; exact n2) fun i hi => by rw [Nat.zero_add]; exact n3 i hi
  rw [Nat.zero_add] at this
  exact this
theorem lhomes_v (R : Ring m [a, b]) : d__law_homes [.val (ringD m [a, b])] = .ok (.o (.dct (kvG cD (homeL m a b)))) := by
  obtain ⟨h1, h2, h3, h4, h5⟩ := ring_ab R
  have hm : 0 < m := by omega
  obtain ⟨N, n0, ne, n1, n2, n3, n4⟩ := home_first R
  have hg : m / gcdL m [a, b] ≤ 100 := Nat.le_trans (Nat.div_le_self ..) h5
  have ec := come_v R
  rw [ne]
  unfold d__law_homes f__law_homes
  refine def_rt ?_
  refine seq_nx (Γ1 := [.val (ringD m [a, b]), .own (.dct []), .un, .un, .un, .un]) (by simp (implicitDefEqProofs := false) (disch := omega) only [↓r_seq, ↓r_next, ↓r_if, ↓r_eif, ↓r_set, ↓r_ret, ↓r_retV, ↓r_expr, ↓r_asg, ↓r_par, ↓r_app, ↓r_ext, ↓r_sto, ↓r_or1, ↓r_or, ↓r_and1, ↓r_and, ↓r_vor1, ↓r_vor, ↓r_vand1, ↓r_vand, ↓r_not, ↓r_tru, ↓r_isB, ↓r_eC, ↓r_rd, ↓r_vl, ↓r_rV, ↓r_eV, ↓r_uV, ↓r_uVl, ↓r_sq0, ↓r_sq, ↓r_e2, ↓r_e3, ↓r_call, ↓r_user, ↓r_enot, ↓r_eneg, ↓r_tup, ↓r_lst, ↓r_sl, ↓r_noP, ↓r_aP, ↓r_iOf, ↓r_iF, ↓r_def, ↓r_ref, r_seqNx, r_seqRt, r_seqBk, r_seqCt, r_ifT, r_ifF, r_setV, r_setOt, r_setOl, r_setOd, r_setOs, r_retK, r_retVv, r_retVo, r_asgK, r_tgN, r_tgT, r_tgL, r_tgs0, r_tgs, r_parK, r_ownL, r_ownLo, r_ownD, r_ownDo, r_appK, r_appJ, r_extK, r_extJ, r_stoK, r_stoI, r_stoJ, r_stoL, r_orT, r_orF, r_andT, r_andF, r_vorK, r_vorT, r_vorF, r_vandK, r_vandT, r_vandF, r_notK, r_truK, r_truB, r_truI, r_truL, r_truT, r_truN, r_isBK, r_rdV, r_rdO, r_dV, r_dO, r_valV, r_valL, r_valD, r_rVv, r_rVo, r_rVb, r_eVv, r_uVv, r_uVo, r_uVb, r_uVlK, r_sqK, r_consK, r_opK, r_opJ, r_chK, r_chJ, r_chT, r_chF, r_clK, r_ntK, r_ngK, r_tpK, r_lsK, r_slK, r_slJ, r_slI, r_slL, r_slT, r_aPK, r_sqL, r_sqT, r_sqS, r_rtR, r_rtN, r_refO, r_refE, r_wdK, r_bAdd, r_bSub, r_bMul, r_bDiv, r_bMod, r_bPow, r_cLt, r_cLe, r_cGt, r_cGe, r_cEq, r_cNe, r_ixL, r_ixT, r_of, r_lenL, r_lenT, r_lenS, Pd.R.bind_ok, Pd.R.bind_err, Pd.R.bind_stuck, noE_ok', mul_r, div_i, mod_i, add_i, sub_i, lt_i, le_i, gt_i, ge_i, eq_i, ne_i, pow18, List.cons_append, List.nil_append, List.getElem?_cons_zero, List.getElem?_cons_succ, List.replicate_succ, List.replicate_zero, List.set_cons_zero, List.set_cons_succ, List.length_cons, List.length_nil, if_true, if_false, Bool.not_true, Bool.not_false, Bool.false_eq_true, ↓reduceIte, Nat.reduceAdd, Nat.reduceLeDiff, Nat.reduceLT, Nat.zero_add, Option.map_some, Int.cast_ofNat_Int, Int.natCast_one, Int.natCast_zero, Int.reduceBEq, Int.reduceLT, Int.reduceLE, Int.reduceAdd, Int.reduceSub, Int.reduceMul, Int.reduceNeg, Int.reduceDiv, Int.reduceMod, decide_true, decide_false]) ?_
  refine seq_nx (Γ1 := [.val (ringD m [a, b]), .own (.dct []), .val (.int 0), .un, .un, .un]) (by simp (implicitDefEqProofs := false) (disch := omega) only [↓r_seq, ↓r_next, ↓r_if, ↓r_eif, ↓r_set, ↓r_ret, ↓r_retV, ↓r_expr, ↓r_asg, ↓r_par, ↓r_app, ↓r_ext, ↓r_sto, ↓r_or1, ↓r_or, ↓r_and1, ↓r_and, ↓r_vor1, ↓r_vor, ↓r_vand1, ↓r_vand, ↓r_not, ↓r_tru, ↓r_isB, ↓r_eC, ↓r_rd, ↓r_vl, ↓r_rV, ↓r_eV, ↓r_uV, ↓r_uVl, ↓r_sq0, ↓r_sq, ↓r_e2, ↓r_e3, ↓r_call, ↓r_user, ↓r_enot, ↓r_eneg, ↓r_tup, ↓r_lst, ↓r_sl, ↓r_noP, ↓r_aP, ↓r_iOf, ↓r_iF, ↓r_def, ↓r_ref, r_seqNx, r_seqRt, r_seqBk, r_seqCt, r_ifT, r_ifF, r_setV, r_setOt, r_setOl, r_setOd, r_setOs, r_retK, r_retVv, r_retVo, r_asgK, r_tgN, r_tgT, r_tgL, r_tgs0, r_tgs, r_parK, r_ownL, r_ownLo, r_ownD, r_ownDo, r_appK, r_appJ, r_extK, r_extJ, r_stoK, r_stoI, r_stoJ, r_stoL, r_orT, r_orF, r_andT, r_andF, r_vorK, r_vorT, r_vorF, r_vandK, r_vandT, r_vandF, r_notK, r_truK, r_truB, r_truI, r_truL, r_truT, r_truN, r_isBK, r_rdV, r_rdO, r_dV, r_dO, r_valV, r_valL, r_valD, r_rVv, r_rVo, r_rVb, r_eVv, r_uVv, r_uVo, r_uVb, r_uVlK, r_sqK, r_consK, r_opK, r_opJ, r_chK, r_chJ, r_chT, r_chF, r_clK, r_ntK, r_ngK, r_tpK, r_lsK, r_slK, r_slJ, r_slI, r_slL, r_slT, r_aPK, r_sqL, r_sqT, r_sqS, r_rtR, r_rtN, r_refO, r_refE, r_wdK, r_bAdd, r_bSub, r_bMul, r_bDiv, r_bMod, r_bPow, r_cLt, r_cLe, r_cGt, r_cGe, r_cEq, r_cNe, r_ixL, r_ixT, r_of, r_lenL, r_lenT, r_lenS, Pd.R.bind_ok, Pd.R.bind_err, Pd.R.bind_stuck, noE_ok', mul_r, div_i, mod_i, add_i, sub_i, lt_i, le_i, gt_i, ge_i, eq_i, ne_i, pow18, List.cons_append, List.nil_append, List.getElem?_cons_zero, List.getElem?_cons_succ, List.replicate_succ, List.replicate_zero, List.set_cons_zero, List.set_cons_succ, List.length_cons, List.length_nil, if_true, if_false, Bool.not_true, Bool.not_false, Bool.false_eq_true, ↓reduceIte, Nat.reduceAdd, Nat.reduceLeDiff, Nat.reduceLT, Nat.zero_add, Option.map_some, Int.cast_ofNat_Int, Int.natCast_one, Int.natCast_zero, Int.reduceBEq, Int.reduceLT, Int.reduceLE, Int.reduceAdd, Int.reduceSub, Int.reduceMul, Int.reduceNeg, Int.reduceDiv, Int.reduceMod, decide_true, decide_false]) ?_
  have w := up_whileE (c := (isB (e2 (dCmp .Lt) (rd (eCall fLen (seqR [rVar 1]))) (rd (eUser d__law_come (seqR [uVar 0])))))) (b := (sSeq (sFor (iF (vl (eUser d__law_sized (seqR [uVar 2])))) (.tp [.nm 3, .nm 4]) (sSeq (sSet false 5 (eUser d__law_lies (seqR [uVar 0, uVar 3, uVar 4]))) (sSeq (sIf (isB (e2 (dCmp .NotIn) (rVar 5) (rVar 1))) (sSeq (sSto 1 (vl (eTup (seqR [vl (eVar 3), vl (eVar 4)]))) (rVar 5)) (sNext)) (sNext)) (sNext)))) (sSeq (sSet false 2 (e2 (dBin .Add) (rVar 2) (rd (eC (.int 1))))) (sNext)))) (St := fun n Γ => ∃ s3 s4 s5, Γ = [.val (ringD m [a, b]), .own (.dct (kvG cD (colS (plC m a b) szC n))), .val (.int (n : Int)), s3, s4, s5]) (P := fun n => (colS (plC m a b) szC n).length < m / gcdL m [a, b]) (by
      rintro n Γ hn ⟨s3, s4, s5, rfl⟩
      have hl := len_kvg cD (colS (plC m a b) szC n)
      have hd : decide (((colS (plC m a b) szC n).length : Int) < ((m / gcdL m [a, b] : Nat) : Int)) = decide ((colS (plC m a b) szC n).length < m / gcdL m [a, b]) := by
        rw [Bool.eq_iff_iff, decide_eq_true_eq, decide_eq_true_eq]
        omega
      simp (implicitDefEqProofs := false) (disch := omega) only [↓r_seq, ↓r_next, ↓r_if, ↓r_eif, ↓r_set, ↓r_ret, ↓r_retV, ↓r_expr, ↓r_asg, ↓r_par, ↓r_app, ↓r_ext, ↓r_sto, ↓r_or1, ↓r_or, ↓r_and1, ↓r_and, ↓r_vor1, ↓r_vor, ↓r_vand1, ↓r_vand, ↓r_not, ↓r_tru, ↓r_isB, ↓r_eC, ↓r_rd, ↓r_vl, ↓r_rV, ↓r_eV, ↓r_uV, ↓r_uVl, ↓r_sq0, ↓r_sq, ↓r_e2, ↓r_e3, ↓r_call, ↓r_user, ↓r_enot, ↓r_eneg, ↓r_tup, ↓r_lst, ↓r_sl, ↓r_noP, ↓r_aP, ↓r_iOf, ↓r_iF, ↓r_def, ↓r_ref, r_seqNx, r_seqRt, r_seqBk, r_seqCt, r_ifT, r_ifF, r_setV, r_setOt, r_setOl, r_setOd, r_setOs, r_retK, r_retVv, r_retVo, r_asgK, r_tgN, r_tgT, r_tgL, r_tgs0, r_tgs, r_parK, r_ownL, r_ownLo, r_ownD, r_ownDo, r_appK, r_appJ, r_extK, r_extJ, r_stoK, r_stoI, r_stoJ, r_stoL, r_orT, r_orF, r_andT, r_andF, r_vorK, r_vorT, r_vorF, r_vandK, r_vandT, r_vandF, r_notK, r_truK, r_truB, r_truI, r_truL, r_truT, r_truN, r_isBK, r_rdV, r_rdO, r_dV, r_dO, r_valV, r_valL, r_valD, r_rVv, r_rVo, r_rVb, r_eVv, r_uVv, r_uVo, r_uVb, r_uVlK, r_sqK, r_consK, r_opK, r_opJ, r_chK, r_chJ, r_chT, r_chF, r_clK, r_ntK, r_ngK, r_tpK, r_lsK, r_slK, r_slJ, r_slI, r_slL, r_slT, r_aPK, r_sqL, r_sqT, r_sqS, r_rtR, r_rtN, r_refO, r_refE, r_wdK, r_bAdd, r_bSub, r_bMul, r_bDiv, r_bMod, r_bPow, r_cLt, r_cLe, r_cGt, r_cGe, r_cEq, r_cNe, r_ixL, r_ixT, r_of, r_lenL, r_lenT, r_lenS, Pd.R.bind_ok, Pd.R.bind_err, Pd.R.bind_stuck, noE_ok', mul_r, div_i, mod_i, add_i, sub_i, lt_i, le_i, gt_i, ge_i, eq_i, ne_i, pow18, List.cons_append, List.nil_append, List.getElem?_cons_zero, List.getElem?_cons_succ, List.replicate_succ, List.replicate_zero, List.set_cons_zero, List.set_cons_succ, List.length_cons, List.length_nil, if_true, if_false, Bool.not_true, Bool.not_false, Bool.false_eq_true, ↓reduceIte, Nat.reduceAdd, Nat.reduceLeDiff, Nat.reduceLT, Nat.zero_add, Option.map_some, Int.cast_ofNat_Int, Int.natCast_one, Int.natCast_zero, Int.reduceBEq, Int.reduceLT, Int.reduceLE, Int.reduceAdd, Int.reduceSub, Int.reduceMul, Int.reduceNeg, Int.reduceDiv, Int.reduceMod, decide_true, decide_false, hl, ec, hd]) (by
      rintro n Γ hn ⟨s3, s4, s5, rfl⟩ _
      have es := sized_v (n := n) hn
      refine go_seq' (fun Γ => ∃ s3 s4 s5, Γ = [.val (ringD m [a, b]), .own (.dct (kvG cD (colS (plC m a b) szC (n + 1)))), .val (.int (n : Int)), s3, s4, s5]) ?_ ?_
      · refine go_tg (l := szC n) (φ := cD) (fun l Γ => ∃ s3 s4 s5, Γ = [.val (ringD m [a, b]), .own (.dct (kvG cD (colC (plC m a b) l (colS (plC m a b) szC n)))), .val (.int (n : Int)), s3, s4, s5]) (by simp (implicitDefEqProofs := false) (disch := omega) only [↓r_seq, ↓r_next, ↓r_if, ↓r_eif, ↓r_set, ↓r_ret, ↓r_retV, ↓r_expr, ↓r_asg, ↓r_par, ↓r_app, ↓r_ext, ↓r_sto, ↓r_or1, ↓r_or, ↓r_and1, ↓r_and, ↓r_vor1, ↓r_vor, ↓r_vand1, ↓r_vand, ↓r_not, ↓r_tru, ↓r_isB, ↓r_eC, ↓r_rd, ↓r_vl, ↓r_rV, ↓r_eV, ↓r_uV, ↓r_uVl, ↓r_sq0, ↓r_sq, ↓r_e2, ↓r_e3, ↓r_call, ↓r_user, ↓r_enot, ↓r_eneg, ↓r_tup, ↓r_lst, ↓r_sl, ↓r_noP, ↓r_aP, ↓r_iOf, ↓r_iF, ↓r_def, ↓r_ref, r_seqNx, r_seqRt, r_seqBk, r_seqCt, r_ifT, r_ifF, r_setV, r_setOt, r_setOl, r_setOd, r_setOs, r_retK, r_retVv, r_retVo, r_asgK, r_tgN, r_tgT, r_tgL, r_tgs0, r_tgs, r_parK, r_ownL, r_ownLo, r_ownD, r_ownDo, r_appK, r_appJ, r_extK, r_extJ, r_stoK, r_stoI, r_stoJ, r_stoL, r_orT, r_orF, r_andT, r_andF, r_vorK, r_vorT, r_vorF, r_vandK, r_vandT, r_vandF, r_notK, r_truK, r_truB, r_truI, r_truL, r_truT, r_truN, r_isBK, r_rdV, r_rdO, r_dV, r_dO, r_valV, r_valL, r_valD, r_rVv, r_rVo, r_rVb, r_eVv, r_uVv, r_uVo, r_uVb, r_uVlK, r_sqK, r_consK, r_opK, r_opJ, r_chK, r_chJ, r_chT, r_chF, r_clK, r_ntK, r_ngK, r_tpK, r_lsK, r_slK, r_slJ, r_slI, r_slL, r_slT, r_aPK, r_sqL, r_sqT, r_sqS, r_rtR, r_rtN, r_refO, r_refE, r_wdK, r_bAdd, r_bSub, r_bMul, r_bDiv, r_bMod, r_bPow, r_cLt, r_cLe, r_cGt, r_cGe, r_cEq, r_cNe, r_ixL, r_ixT, r_of, r_lenL, r_lenT, r_lenS, Pd.R.bind_ok, Pd.R.bind_err, Pd.R.bind_stuck, noE_ok', mul_r, div_i, mod_i, add_i, sub_i, lt_i, le_i, gt_i, ge_i, eq_i, ne_i, pow18, List.cons_append, List.nil_append, List.getElem?_cons_zero, List.getElem?_cons_succ, List.replicate_succ, List.replicate_zero, List.set_cons_zero, List.set_cons_succ, List.length_cons, List.length_nil, if_true, if_false, Bool.not_true, Bool.not_false, Bool.false_eq_true, ↓reduceIte, Nat.reduceAdd, Nat.reduceLeDiff, Nat.reduceLT, Nat.zero_add, Option.map_some, Int.cast_ofNat_Int, Int.natCast_one, Int.natCast_zero, Int.reduceBEq, Int.reduceLT, Int.reduceLE, Int.reduceAdd, Int.reduceSub, Int.reduceMul, Int.reduceNeg, Int.reduceDiv, Int.reduceMod, decide_true, decide_false, es]) ⟨s3, s4, s5, rfl⟩ ?_
        rintro l l' x Γ e ⟨s3, s4, s5, rfl⟩
        refine ⟨[.val (ringD m [a, b]), .own (.dct (kvG cD (colC (plC m a b) l (colS (plC m a b) szC n)))), .val (.int (n : Int)), .val (.int x.1), .val (.int x.2), s5], by simp (implicitDefEqProofs := false) (disch := omega) only [↓r_seq, ↓r_next, ↓r_if, ↓r_eif, ↓r_set, ↓r_ret, ↓r_retV, ↓r_expr, ↓r_asg, ↓r_par, ↓r_app, ↓r_ext, ↓r_sto, ↓r_or1, ↓r_or, ↓r_and1, ↓r_and, ↓r_vor1, ↓r_vor, ↓r_vand1, ↓r_vand, ↓r_not, ↓r_tru, ↓r_isB, ↓r_eC, ↓r_rd, ↓r_vl, ↓r_rV, ↓r_eV, ↓r_uV, ↓r_uVl, ↓r_sq0, ↓r_sq, ↓r_e2, ↓r_e3, ↓r_call, ↓r_user, ↓r_enot, ↓r_eneg, ↓r_tup, ↓r_lst, ↓r_sl, ↓r_noP, ↓r_aP, ↓r_iOf, ↓r_iF, ↓r_def, ↓r_ref, r_seqNx, r_seqRt, r_seqBk, r_seqCt, r_ifT, r_ifF, r_setV, r_setOt, r_setOl, r_setOd, r_setOs, r_retK, r_retVv, r_retVo, r_asgK, r_tgN, r_tgT, r_tgL, r_tgs0, r_tgs, r_parK, r_ownL, r_ownLo, r_ownD, r_ownDo, r_appK, r_appJ, r_extK, r_extJ, r_stoK, r_stoI, r_stoJ, r_stoL, r_orT, r_orF, r_andT, r_andF, r_vorK, r_vorT, r_vorF, r_vandK, r_vandT, r_vandF, r_notK, r_truK, r_truB, r_truI, r_truL, r_truT, r_truN, r_isBK, r_rdV, r_rdO, r_dV, r_dO, r_valV, r_valL, r_valD, r_rVv, r_rVo, r_rVb, r_eVv, r_uVv, r_uVo, r_uVb, r_uVlK, r_sqK, r_consK, r_opK, r_opJ, r_chK, r_chJ, r_chT, r_chF, r_clK, r_ntK, r_ngK, r_tpK, r_lsK, r_slK, r_slJ, r_slI, r_slL, r_slT, r_aPK, r_sqL, r_sqT, r_sqS, r_rtR, r_rtN, r_refO, r_refE, r_wdK, r_bAdd, r_bSub, r_bMul, r_bDiv, r_bMod, r_bPow, r_cLt, r_cLe, r_cGt, r_cGe, r_cEq, r_cNe, r_ixL, r_ixT, r_of, r_lenL, r_lenT, r_lenS, Pd.R.bind_ok, Pd.R.bind_err, Pd.R.bind_stuck, noE_ok', mul_r, div_i, mod_i, add_i, sub_i, lt_i, le_i, gt_i, ge_i, eq_i, ne_i, pow18, List.cons_append, List.nil_append, List.getElem?_cons_zero, List.getElem?_cons_succ, List.replicate_succ, List.replicate_zero, List.set_cons_zero, List.set_cons_succ, List.length_cons, List.length_nil, if_true, if_false, Bool.not_true, Bool.not_false, Bool.false_eq_true, ↓reduceIte, Nat.reduceAdd, Nat.reduceLeDiff, Nat.reduceLT, Nat.zero_add, Option.map_some, Int.cast_ofNat_Int, Int.natCast_one, Int.natCast_zero, Int.reduceBEq, Int.reduceLT, Int.reduceLE, Int.reduceAdd, Int.reduceSub, Int.reduceMul, Int.reduceNeg, Int.reduceDiv, Int.reduceMod, decide_true, decide_false, cD], ?_⟩
        rw [colC_app]
        have hlen : (colC (plC m a b) l (colS (plC m a b) szC n)).length ≤ 100 := by
          have := colC_le (pl := plC m a b) (cs := l) (m := m) (L := colS (plC m a b) szC n) (colS_nd n) (fun q hq => colS_lt (pl := plC m a b) (cells := szC) (fun c => (plC_dvd (a := a) (b := b) hm c).1) hq) fun c _ => (plC_dvd (a := a) (b := b) hm c).1
          omega
        generalize colC (plC m a b) l (colS (plC m a b) szC n) = L at hlen ⊢
        have el : d__law_lies [.val (ringD m [a, b]), .val (.int x.1), .val (.int x.2)] = .ok (.v (.int ((plC m a b x : Nat) : Int))) := (lies_v R x.1 x.2).trans (by rw [← plC_z hm x])
        refine go_seq (Γ1 := [.val (ringD m [a, b]), .own (.dct (kvG cD L)), .val (.int (n : Int)), .val (.int x.1), .val (.int x.2), .val (.int ((plC m a b x : Nat) : Int))]) (by simp (implicitDefEqProofs := false) (disch := omega) only [↓r_seq, ↓r_next, ↓r_if, ↓r_eif, ↓r_set, ↓r_ret, ↓r_retV, ↓r_expr, ↓r_asg, ↓r_par, ↓r_app, ↓r_ext, ↓r_sto, ↓r_or1, ↓r_or, ↓r_and1, ↓r_and, ↓r_vor1, ↓r_vor, ↓r_vand1, ↓r_vand, ↓r_not, ↓r_tru, ↓r_isB, ↓r_eC, ↓r_rd, ↓r_vl, ↓r_rV, ↓r_eV, ↓r_uV, ↓r_uVl, ↓r_sq0, ↓r_sq, ↓r_e2, ↓r_e3, ↓r_call, ↓r_user, ↓r_enot, ↓r_eneg, ↓r_tup, ↓r_lst, ↓r_sl, ↓r_noP, ↓r_aP, ↓r_iOf, ↓r_iF, ↓r_def, ↓r_ref, r_seqNx, r_seqRt, r_seqBk, r_seqCt, r_ifT, r_ifF, r_setV, r_setOt, r_setOl, r_setOd, r_setOs, r_retK, r_retVv, r_retVo, r_asgK, r_tgN, r_tgT, r_tgL, r_tgs0, r_tgs, r_parK, r_ownL, r_ownLo, r_ownD, r_ownDo, r_appK, r_appJ, r_extK, r_extJ, r_stoK, r_stoI, r_stoJ, r_stoL, r_orT, r_orF, r_andT, r_andF, r_vorK, r_vorT, r_vorF, r_vandK, r_vandT, r_vandF, r_notK, r_truK, r_truB, r_truI, r_truL, r_truT, r_truN, r_isBK, r_rdV, r_rdO, r_dV, r_dO, r_valV, r_valL, r_valD, r_rVv, r_rVo, r_rVb, r_eVv, r_uVv, r_uVo, r_uVb, r_uVlK, r_sqK, r_consK, r_opK, r_opJ, r_chK, r_chJ, r_chT, r_chF, r_clK, r_ntK, r_ngK, r_tpK, r_lsK, r_slK, r_slJ, r_slI, r_slL, r_slT, r_aPK, r_sqL, r_sqT, r_sqS, r_rtR, r_rtN, r_refO, r_refE, r_wdK, r_bAdd, r_bSub, r_bMul, r_bDiv, r_bMod, r_bPow, r_cLt, r_cLe, r_cGt, r_cGe, r_cEq, r_cNe, r_ixL, r_ixT, r_of, r_lenL, r_lenT, r_lenS, Pd.R.bind_ok, Pd.R.bind_err, Pd.R.bind_stuck, noE_ok', mul_r, div_i, mod_i, add_i, sub_i, lt_i, le_i, gt_i, ge_i, eq_i, ne_i, pow18, List.cons_append, List.nil_append, List.getElem?_cons_zero, List.getElem?_cons_succ, List.replicate_succ, List.replicate_zero, List.set_cons_zero, List.set_cons_succ, List.length_cons, List.length_nil, if_true, if_false, Bool.not_true, Bool.not_false, Bool.false_eq_true, ↓reduceIte, Nat.reduceAdd, Nat.reduceLeDiff, Nat.reduceLT, Nat.zero_add, Option.map_some, Int.cast_ofNat_Int, Int.natCast_one, Int.natCast_zero, Int.reduceBEq, Int.reduceLT, Int.reduceLE, Int.reduceAdd, Int.reduceSub, Int.reduceMul, Int.reduceNeg, Int.reduceDiv, Int.reduceMod, decide_true, decide_false, el]) ?_
        have hni := notin_kvg cD L (plC m a b x)
        show Go _ (fun Γ => ∃ s3 s4 s5, Γ = [.val (ringD m [a, b]), .own (.dct (kvG cD (putC (plC m a b) L x))), .val (.int (n : Int)), s3, s4, s5])
        unfold putC
        by_cases g : plC m a b x ∈ L.map Prod.fst
        · rw [if_pos g]
          rw [decide_eq_true g] at hni
          exact go_seq (if_no (by simp (implicitDefEqProofs := false) (disch := omega) only [↓r_seq, ↓r_next, ↓r_if, ↓r_eif, ↓r_set, ↓r_ret, ↓r_retV, ↓r_expr, ↓r_asg, ↓r_par, ↓r_app, ↓r_ext, ↓r_sto, ↓r_or1, ↓r_or, ↓r_and1, ↓r_and, ↓r_vor1, ↓r_vor, ↓r_vand1, ↓r_vand, ↓r_not, ↓r_tru, ↓r_isB, ↓r_eC, ↓r_rd, ↓r_vl, ↓r_rV, ↓r_eV, ↓r_uV, ↓r_uVl, ↓r_sq0, ↓r_sq, ↓r_e2, ↓r_e3, ↓r_call, ↓r_user, ↓r_enot, ↓r_eneg, ↓r_tup, ↓r_lst, ↓r_sl, ↓r_noP, ↓r_aP, ↓r_iOf, ↓r_iF, ↓r_def, ↓r_ref, r_seqNx, r_seqRt, r_seqBk, r_seqCt, r_ifT, r_ifF, r_setV, r_setOt, r_setOl, r_setOd, r_setOs, r_retK, r_retVv, r_retVo, r_asgK, r_tgN, r_tgT, r_tgL, r_tgs0, r_tgs, r_parK, r_ownL, r_ownLo, r_ownD, r_ownDo, r_appK, r_appJ, r_extK, r_extJ, r_stoK, r_stoI, r_stoJ, r_stoL, r_orT, r_orF, r_andT, r_andF, r_vorK, r_vorT, r_vorF, r_vandK, r_vandT, r_vandF, r_notK, r_truK, r_truB, r_truI, r_truL, r_truT, r_truN, r_isBK, r_rdV, r_rdO, r_dV, r_dO, r_valV, r_valL, r_valD, r_rVv, r_rVo, r_rVb, r_eVv, r_uVv, r_uVo, r_uVb, r_uVlK, r_sqK, r_consK, r_opK, r_opJ, r_chK, r_chJ, r_chT, r_chF, r_clK, r_ntK, r_ngK, r_tpK, r_lsK, r_slK, r_slJ, r_slI, r_slL, r_slT, r_aPK, r_sqL, r_sqT, r_sqS, r_rtR, r_rtN, r_refO, r_refE, r_wdK, r_bAdd, r_bSub, r_bMul, r_bDiv, r_bMod, r_bPow, r_cLt, r_cLe, r_cGt, r_cGe, r_cEq, r_cNe, r_ixL, r_ixT, r_of, r_lenL, r_lenT, r_lenS, Pd.R.bind_ok, Pd.R.bind_err, Pd.R.bind_stuck, noE_ok', mul_r, div_i, mod_i, add_i, sub_i, lt_i, le_i, gt_i, ge_i, eq_i, ne_i, pow18, List.cons_append, List.nil_append, List.getElem?_cons_zero, List.getElem?_cons_succ, List.replicate_succ, List.replicate_zero, List.set_cons_zero, List.set_cons_succ, List.length_cons, List.length_nil, if_true, if_false, Bool.not_true, Bool.not_false, Bool.false_eq_true, ↓reduceIte, Nat.reduceAdd, Nat.reduceLeDiff, Nat.reduceLT, Nat.zero_add, Option.map_some, Int.cast_ofNat_Int, Int.natCast_one, Int.natCast_zero, Int.reduceBEq, Int.reduceLT, Int.reduceLE, Int.reduceAdd, Int.reduceSub, Int.reduceMul, Int.reduceNeg, Int.reduceDiv, Int.reduceMod, decide_true, decide_false, r_cNotIn, hni])) (go_next ⟨_, _, _, rfl⟩)
        · rw [if_neg g]
          rw [decide_eq_false g] at hni
          have hst : stoD (.dct (kvG cD L)) (.int ((plC m a b x : Nat) : Int)) (.tup [.int x.1, .int x.2]) = some (.dct (kvG cD (L ++ [(plC m a b x, x)]))) := sto_kvg cD x g (by omega)
          exact go_seq (Γ1 := [.val (ringD m [a, b]), .own (.dct (kvG cD (L ++ [(plC m a b x, x)]))), .val (.int (n : Int)), .val (.int x.1), .val (.int x.2), .val (.int ((plC m a b x : Nat) : Int))]) ((sIf_t (by simp (implicitDefEqProofs := false) (disch := omega) only [↓r_seq, ↓r_next, ↓r_if, ↓r_eif, ↓r_set, ↓r_ret, ↓r_retV, ↓r_expr, ↓r_asg, ↓r_par, ↓r_app, ↓r_ext, ↓r_sto, ↓r_or1, ↓r_or, ↓r_and1, ↓r_and, ↓r_vor1, ↓r_vor, ↓r_vand1, ↓r_vand, ↓r_not, ↓r_tru, ↓r_isB, ↓r_eC, ↓r_rd, ↓r_vl, ↓r_rV, ↓r_eV, ↓r_uV, ↓r_uVl, ↓r_sq0, ↓r_sq, ↓r_e2, ↓r_e3, ↓r_call, ↓r_user, ↓r_enot, ↓r_eneg, ↓r_tup, ↓r_lst, ↓r_sl, ↓r_noP, ↓r_aP, ↓r_iOf, ↓r_iF, ↓r_def, ↓r_ref, r_seqNx, r_seqRt, r_seqBk, r_seqCt, r_ifT, r_ifF, r_setV, r_setOt, r_setOl, r_setOd, r_setOs, r_retK, r_retVv, r_retVo, r_asgK, r_tgN, r_tgT, r_tgL, r_tgs0, r_tgs, r_parK, r_ownL, r_ownLo, r_ownD, r_ownDo, r_appK, r_appJ, r_extK, r_extJ, r_stoK, r_stoI, r_stoJ, r_stoL, r_orT, r_orF, r_andT, r_andF, r_vorK, r_vorT, r_vorF, r_vandK, r_vandT, r_vandF, r_notK, r_truK, r_truB, r_truI, r_truL, r_truT, r_truN, r_isBK, r_rdV, r_rdO, r_dV, r_dO, r_valV, r_valL, r_valD, r_rVv, r_rVo, r_rVb, r_eVv, r_uVv, r_uVo, r_uVb, r_uVlK, r_sqK, r_consK, r_opK, r_opJ, r_chK, r_chJ, r_chT, r_chF, r_clK, r_ntK, r_ngK, r_tpK, r_lsK, r_slK, r_slJ, r_slI, r_slL, r_slT, r_aPK, r_sqL, r_sqT, r_sqS, r_rtR, r_rtN, r_refO, r_refE, r_wdK, r_bAdd, r_bSub, r_bMul, r_bDiv, r_bMod, r_bPow, r_cLt, r_cLe, r_cGt, r_cGe, r_cEq, r_cNe, r_ixL, r_ixT, r_of, r_lenL, r_lenT, r_lenS, Pd.R.bind_ok, Pd.R.bind_err, Pd.R.bind_stuck, noE_ok', mul_r, div_i, mod_i, add_i, sub_i, lt_i, le_i, gt_i, ge_i, eq_i, ne_i, pow18, List.cons_append, List.nil_append, List.getElem?_cons_zero, List.getElem?_cons_succ, List.replicate_succ, List.replicate_zero, List.set_cons_zero, List.set_cons_succ, List.length_cons, List.length_nil, if_true, if_false, Bool.not_true, Bool.not_false, Bool.false_eq_true, ↓reduceIte, Nat.reduceAdd, Nat.reduceLeDiff, Nat.reduceLT, Nat.zero_add, Option.map_some, Int.cast_ofNat_Int, Int.natCast_one, Int.natCast_zero, Int.reduceBEq, Int.reduceLT, Int.reduceLE, Int.reduceAdd, Int.reduceSub, Int.reduceMul, Int.reduceNeg, Int.reduceDiv, Int.reduceMod, decide_true, decide_false, r_cNotIn, hni])).trans (by simp (implicitDefEqProofs := false) (disch := omega) only [↓r_seq, ↓r_next, ↓r_if, ↓r_eif, ↓r_set, ↓r_ret, ↓r_retV, ↓r_expr, ↓r_asg, ↓r_par, ↓r_app, ↓r_ext, ↓r_sto, ↓r_or1, ↓r_or, ↓r_and1, ↓r_and, ↓r_vor1, ↓r_vor, ↓r_vand1, ↓r_vand, ↓r_not, ↓r_tru, ↓r_isB, ↓r_eC, ↓r_rd, ↓r_vl, ↓r_rV, ↓r_eV, ↓r_uV, ↓r_uVl, ↓r_sq0, ↓r_sq, ↓r_e2, ↓r_e3, ↓r_call, ↓r_user, ↓r_enot, ↓r_eneg, ↓r_tup, ↓r_lst, ↓r_sl, ↓r_noP, ↓r_aP, ↓r_iOf, ↓r_iF, ↓r_def, ↓r_ref, r_seqNx, r_seqRt, r_seqBk, r_seqCt, r_ifT, r_ifF, r_setV, r_setOt, r_setOl, r_setOd, r_setOs, r_retK, r_retVv, r_retVo, r_asgK, r_tgN, r_tgT, r_tgL, r_tgs0, r_tgs, r_parK, r_ownL, r_ownLo, r_ownD, r_ownDo, r_appK, r_appJ, r_extK, r_extJ, r_stoK, r_stoI, r_stoJ, r_stoL, r_orT, r_orF, r_andT, r_andF, r_vorK, r_vorT, r_vorF, r_vandK, r_vandT, r_vandF, r_notK, r_truK, r_truB, r_truI, r_truL, r_truT, r_truN, r_isBK, r_rdV, r_rdO, r_dV, r_dO, r_valV, r_valL, r_valD, r_rVv, r_rVo, r_rVb, r_eVv, r_uVv, r_uVo, r_uVb, r_uVlK, r_sqK, r_consK, r_opK, r_opJ, r_chK, r_chJ, r_chT, r_chF, r_clK, r_ntK, r_ngK, r_tpK, r_lsK, r_slK, r_slJ, r_slI, r_slL, r_slT, r_aPK, r_sqL, r_sqT, r_sqS, r_rtR, r_rtN, r_refO, r_refE, r_wdK, r_bAdd, r_bSub, r_bMul, r_bDiv, r_bMod, r_bPow, r_cLt, r_cLe, r_cGt, r_cGe, r_cEq, r_cNe, r_ixL, r_ixT, r_of, r_lenL, r_lenT, r_lenS, Pd.R.bind_ok, Pd.R.bind_err, Pd.R.bind_stuck, noE_ok', mul_r, div_i, mod_i, add_i, sub_i, lt_i, le_i, gt_i, ge_i, eq_i, ne_i, pow18, List.cons_append, List.nil_append, List.getElem?_cons_zero, List.getElem?_cons_succ, List.replicate_succ, List.replicate_zero, List.set_cons_zero, List.set_cons_succ, List.length_cons, List.length_nil, if_true, if_false, Bool.not_true, Bool.not_false, Bool.false_eq_true, ↓reduceIte, Nat.reduceAdd, Nat.reduceLeDiff, Nat.reduceLT, Nat.zero_add, Option.map_some, Int.cast_ofNat_Int, Int.natCast_one, Int.natCast_zero, Int.reduceBEq, Int.reduceLT, Int.reduceLE, Int.reduceAdd, Int.reduceSub, Int.reduceMul, Int.reduceNeg, Int.reduceDiv, Int.reduceMod, decide_true, decide_false, hst])) (go_next ⟨_, _, _, rfl⟩)
      rintro Γ ⟨s3, s4, s5, rfl⟩
      have hn1 : (n : Int) + 1 = ((n + 1 : Nat) : Int) := by omega
      exact go_seq (Γ1 := [.val (ringD m [a, b]), .own (.dct (kvG cD (colS (plC m a b) szC (n + 1)))), .val (.int ((n + 1 : Nat) : Int)), s3, s4, s5]) (by simp (implicitDefEqProofs := false) (disch := omega) only [↓r_seq, ↓r_next, ↓r_if, ↓r_eif, ↓r_set, ↓r_ret, ↓r_retV, ↓r_expr, ↓r_asg, ↓r_par, ↓r_app, ↓r_ext, ↓r_sto, ↓r_or1, ↓r_or, ↓r_and1, ↓r_and, ↓r_vor1, ↓r_vor, ↓r_vand1, ↓r_vand, ↓r_not, ↓r_tru, ↓r_isB, ↓r_eC, ↓r_rd, ↓r_vl, ↓r_rV, ↓r_eV, ↓r_uV, ↓r_uVl, ↓r_sq0, ↓r_sq, ↓r_e2, ↓r_e3, ↓r_call, ↓r_user, ↓r_enot, ↓r_eneg, ↓r_tup, ↓r_lst, ↓r_sl, ↓r_noP, ↓r_aP, ↓r_iOf, ↓r_iF, ↓r_def, ↓r_ref, r_seqNx, r_seqRt, r_seqBk, r_seqCt, r_ifT, r_ifF, r_setV, r_setOt, r_setOl, r_setOd, r_setOs, r_retK, r_retVv, r_retVo, r_asgK, r_tgN, r_tgT, r_tgL, r_tgs0, r_tgs, r_parK, r_ownL, r_ownLo, r_ownD, r_ownDo, r_appK, r_appJ, r_extK, r_extJ, r_stoK, r_stoI, r_stoJ, r_stoL, r_orT, r_orF, r_andT, r_andF, r_vorK, r_vorT, r_vorF, r_vandK, r_vandT, r_vandF, r_notK, r_truK, r_truB, r_truI, r_truL, r_truT, r_truN, r_isBK, r_rdV, r_rdO, r_dV, r_dO, r_valV, r_valL, r_valD, r_rVv, r_rVo, r_rVb, r_eVv, r_uVv, r_uVo, r_uVb, r_uVlK, r_sqK, r_consK, r_opK, r_opJ, r_chK, r_chJ, r_chT, r_chF, r_clK, r_ntK, r_ngK, r_tpK, r_lsK, r_slK, r_slJ, r_slI, r_slL, r_slT, r_aPK, r_sqL, r_sqT, r_sqS, r_rtR, r_rtN, r_refO, r_refE, r_wdK, r_bAdd, r_bSub, r_bMul, r_bDiv, r_bMod, r_bPow, r_cLt, r_cLe, r_cGt, r_cGe, r_cEq, r_cNe, r_ixL, r_ixT, r_of, r_lenL, r_lenT, r_lenS, Pd.R.bind_ok, Pd.R.bind_err, Pd.R.bind_stuck, noE_ok', mul_r, div_i, mod_i, add_i, sub_i, lt_i, le_i, gt_i, ge_i, eq_i, ne_i, pow18, List.cons_append, List.nil_append, List.getElem?_cons_zero, List.getElem?_cons_succ, List.replicate_succ, List.replicate_zero, List.set_cons_zero, List.set_cons_succ, List.length_cons, List.length_nil, if_true, if_false, Bool.not_true, Bool.not_false, Bool.false_eq_true, ↓reduceIte, Nat.reduceAdd, Nat.reduceLeDiff, Nat.reduceLT, Nat.zero_add, Option.map_some, Int.cast_ofNat_Int, Int.natCast_one, Int.natCast_zero, Int.reduceBEq, Int.reduceLT, Int.reduceLE, Int.reduceAdd, Int.reduceSub, Int.reduceMul, Int.reduceNeg, Int.reduceDiv, Int.reduceMod, decide_true, decide_false, hn1]) (go_next ⟨_, _, _, rfl⟩)) N 0 whN [.val (ringD m [a, b]), .own (.dct []), .val (.int 0), .un, .un, .un] (by unfold whN; omega) (by omega) ⟨_, _, _, rfl⟩ (by rw [Nat.zero_add]; exact n1) (fun i hi => by rw [Nat.zero_add]; exact n2 i hi)
  rw [Nat.zero_add] at w
  obtain ⟨_, e, s3, s4, s5, rfl⟩ := w
  refine seq_nx e ?_
  simp (implicitDefEqProofs := false) (disch := omega) only [↓r_seq, ↓r_next, ↓r_if, ↓r_eif, ↓r_set, ↓r_ret, ↓r_retV, ↓r_expr, ↓r_asg, ↓r_par, ↓r_app, ↓r_ext, ↓r_sto, ↓r_or1, ↓r_or, ↓r_and1, ↓r_and, ↓r_vor1, ↓r_vor, ↓r_vand1, ↓r_vand, ↓r_not, ↓r_tru, ↓r_isB, ↓r_eC, ↓r_rd, ↓r_vl, ↓r_rV, ↓r_eV, ↓r_uV, ↓r_uVl, ↓r_sq0, ↓r_sq, ↓r_e2, ↓r_e3, ↓r_call, ↓r_user, ↓r_enot, ↓r_eneg, ↓r_tup, ↓r_lst, ↓r_sl, ↓r_noP, ↓r_aP, ↓r_iOf, ↓r_iF, ↓r_def, ↓r_ref, r_seqNx, r_seqRt, r_seqBk, r_seqCt, r_ifT, r_ifF, r_setV, r_setOt, r_setOl, r_setOd, r_setOs, r_retK, r_retVv, r_retVo, r_asgK, r_tgN, r_tgT, r_tgL, r_tgs0, r_tgs, r_parK, r_ownL, r_ownLo, r_ownD, r_ownDo, r_appK, r_appJ, r_extK, r_extJ, r_stoK, r_stoI, r_stoJ, r_stoL, r_orT, r_orF, r_andT, r_andF, r_vorK, r_vorT, r_vorF, r_vandK, r_vandT, r_vandF, r_notK, r_truK, r_truB, r_truI, r_truL, r_truT, r_truN, r_isBK, r_rdV, r_rdO, r_dV, r_dO, r_valV, r_valL, r_valD, r_rVv, r_rVo, r_rVb, r_eVv, r_uVv, r_uVo, r_uVb, r_uVlK, r_sqK, r_consK, r_opK, r_opJ, r_chK, r_chJ, r_chT, r_chF, r_clK, r_ntK, r_ngK, r_tpK, r_lsK, r_slK, r_slJ, r_slI, r_slL, r_slT, r_aPK, r_sqL, r_sqT, r_sqS, r_rtR, r_rtN, r_refO, r_refE, r_wdK, r_bAdd, r_bSub, r_bMul, r_bDiv, r_bMod, r_bPow, r_cLt, r_cLe, r_cGt, r_cGe, r_cEq, r_cNe, r_ixL, r_ixT, r_of, r_lenL, r_lenT, r_lenS, Pd.R.bind_ok, Pd.R.bind_err, Pd.R.bind_stuck, noE_ok', mul_r, div_i, mod_i, add_i, sub_i, lt_i, le_i, gt_i, ge_i, eq_i, ne_i, pow18, List.cons_append, List.nil_append, List.getElem?_cons_zero, List.getElem?_cons_succ, List.replicate_succ, List.replicate_zero, List.set_cons_zero, List.set_cons_succ, List.length_cons, List.length_nil, if_true, if_false, Bool.not_true, Bool.not_false, Bool.false_eq_true, ↓reduceIte, Nat.reduceAdd, Nat.reduceLeDiff, Nat.reduceLT, Nat.zero_add, Option.map_some, Int.cast_ofNat_Int, Int.natCast_one, Int.natCast_zero, Int.reduceBEq, Int.reduceLT, Int.reduceLE, Int.reduceAdd, Int.reduceSub, Int.reduceMul, Int.reduceNeg, Int.reduceDiv, Int.reduceMod, decide_true, decide_false]
end
end Pd

set_option Elab.async false
set_option linter.all false
set_option maxRecDepth 100000
set_option maxHeartbeats 1000000
namespace Pd
open PySem PySem.Spec L2
section
open PyProof.Rows Srt SrtO
variable {prog : Program} {w : World} {A : Around} {E : Value → Shared → Prop} {s : Shared}
theorem sorted_src {TN : String} {r d : Addr} {n : Nat} {P : Nat → Value → Prop} {OK : Heap → Prop} {vs : List Value} {k : Value → Int × Int} {Q : Value → Shared → Prop} (S : PySem.W.KdlSrc prog w TN r d n P OK) (hh : A.in1.handled = none) (hok : OK s.heap) (hn : n ≤ sizeLine) (hl : vs.length = n) (hP : ∀ i v, P i v → vs[i]? = some v)
    (hp : ∀ v ∈ vs, IsPair s.heap v (k v).1 (k v).2)
    (h : ∀ (hm h' : Heap) (tk : Nat) (d : Addr) (out : List Value), Srtd (fun v u => lexB (k v) (k u)) out → Stb (fun v u => lexB (k v) (k u)) out vs → (∀ b o, s.heap.get? b = some o → hm.get? b = some o) → (∀ b o, hm.get? b = some o → h'.get? b = some o) → hm.objs.size ≤ d → (∃ n, h'.get? d = some (seqObj "list" out.toArray n)) → Q (.ref d) { s with heap := h', toks := tk }) :
    wpAny (model prog w) A (call (.builtin "sorted") [.ref r]) Q E s := by
  refine Calls.call_function_entry kind_sorted plain_sorted entry_sorted (args_sorted1 _) ?_
  unfold Builtin.«sorted»
  refine wpAny_bind (m := checkCount "sorted" 1 1 _) (wpAny_pure ?_)
  refine wpAny_bind (PySem.W.kdu_collect (A := A.in1) S hh hok hn fun h' tk acc hk hacc => ?_)
  have ev : acc.toList = vs := by
    refine List.ext_getElem? fun i => ?_
    by_cases hi : i < acc.toList.length
    · have e1 : acc.toList[i]? = some acc.toList[i] := List.getElem?_eq_getElem hi
      have e2 := hP i _ (hacc.2 i acc.toList[i] (by rw [← Array.getElem?_toList]; exact e1))
      rw [e1, e2]
    · rw [List.getElem?_eq_none (by omega), List.getElem?_eq_none (by rw [hl, ← hacc.1, ← Array.length_toList]; omega)]
  rw [ev]
  refine wpAny_bind (wpAny_newList ?_ (by rw [hl]; exact hn))
  have hoL : (h'.push (seqObj "list" vs.toArray 0)).get? h'.objs.size = some (seqObj "list" vs.toArray 0) := Heap.get?_push_size _ rfl
  have keep : ∀ b o, s.heap.get? b = some o → b ≠ h'.objs.size ∧ (h'.push (seqObj "list" vs.toArray 0)).get? b = some o := fun b o q => by
    have q' := hk b o q
    exact ⟨Nat.ne_of_lt (Heap.lt_size q'), Heap.get?_push_of_some _ q'⟩
  show wpAny _ _ _ _ _ { s with heap := h'.push (seqObj "list" vs.toArray 0), toks := tk }
  refine wpAny_bind (wpAny_holding (wpAny_call_entry slot_list_sort ⟨_, hoL, rfl⟩ entry_list_sort (list_sort_ord (s := { s with heap := h'.push (seqObj "list" vs.toArray 0), toks := tk }) (swo_lex k) hoL (by rw [hl]; exact hn) (fun h2 => pairs_sortableO (by omega) (fun v hm => (hp v hm).keeps fun b o e _ => (keep b o e).2) fun o e => ?_) fun out hs hb => ⟨_, rfl, ?_⟩) (args_list_sort _)))
  · have e' : some o = some (seqObj "list" vs.toArray 0) := e.symm.trans hoL
    cases e'
    intro c
    exact absurd (Value.type.inj c) (by decide)
  · obtain ⟨e', he'⟩ := sortedHeap_at (vs := vs) (out := out.toArray) hoL
    refine wpAny_pure ⟨_, rfl, h h' _ tk _ out hs hb hk (fun b o e => ?_) (Nat.le_refl _) ⟨e', he'⟩⟩
    have hb : b < h'.objs.size := Heap.lt_size e
    rw [sortedHeap_old (Nat.ne_of_lt hb) (by rw [size_push']; exact Nat.lt_succ_of_lt hb)]
    exact Heap.get?_push_of_some _ e
end
theorem kv_vals {kvs : List (Key × V)} {vs : List (Key × Value)} (r : KV kvs vs) : Vals (kvs.map (·.2)) (vs.map (·.2)) := by
  unfold KV at r
  induction r with
  | nil => exact .nil
  | cons r t ih => exact .cons r.2 ih
def tSortVals (td : TE) : TE := fun σ H Q => td σ H fun x H1 => ∃ (a : Addr) (kvs : List (Key × V)) (k : V → Int × Int), x = V.ref a ∧ Rd H1 a (.dK kvs) ∧ (∀ x ∈ kvs.map (·.2), ∃ t, x = V.ref t ∧ H1 t = some (.tup [.int (k x).1, .int (k x).2])) ∧
  ∀ ys p, SrtO.Srtd (L2.ltP k) ys → SrtO.Stb (L2.ltP k) ys (kvs.map (·.2)) → H1 p = none → Q (.ref p) (upd H1 p (.lst ys))
section
variable {X : Cx} {o : PySem.Expr} {p pos apos mpos : Pos} {td : TE}
theorem pe_sortVals (hc : X.calm = true) (hg : Gl X "sorted") (hm : X.mg "sorted" = none) (hd : PE X o td) (hbase : attributeBase o "values" X.env (eval o X.env) = eval o X.env := by rfl) (hline : (apos.endLine == mpos.line) = true := by rfl)
    (hse : starEach [PySem.Expr.Call (.Attribute o "values" apos) [] [] mpos] X.env = [(false, eval (PySem.Expr.Call (.Attribute o "values" apos) [] [] mpos) X.env)] := by rfl) :
    PE X (.Call (.Name "sorted" p) [.Call (.Attribute o "values" apos) [] [] mpos] [] pos) (tSortVals td) := by
  refine ⟨fun pins s σ H Q I h => ?_⟩
  refine wpAny_Call_Name_kw (ld_blt I hg hm (u := .builtin "sorted") (by first | rfl | decide +kernel) ?_ (by first | decide +kernel | decide) (by first | decide +kernel | decide))
  rw [hse]
  refine PySem.callWith_builtin1 (wpAny_Call_method0_late hbase hline (thn (hd.run pins s σ H _ I h) fun v s1 ⟨x, H1, I1, r1, a, kvs, k, ex, ha, hv, q⟩ => ?_))
  subst ex
  obtain rfl : v = Value.ref a := r1
  obtain ⟨hz, hsys, vs, rel, dof⟩ := dk_rd I1.hok ha
  obtain ⟨ep, dat⟩ := dof.dictAt
  have dat' := dat
  obtain ⟨ob, es, ho, ex, hdat, hko, hpr, hnd⟩ := dat'
  refine ⟨"dict", "dict.values", F.plainAttrs_dict, F.slot_dict_values, F.type_dict_values, ⟨ob, ho, ex.1⟩, fun b e => ?_, Calls.callWith_builtin rfl (PySem.evalArgs_none ?_)⟩
  · cases e
    exact ⟨ob, ho, ex.2.1⟩
  refine call_meetsIn F.slot_dict_values ⟨ob, ho, ex.1⟩ F.entry_dict_values (F.args_dict_values_1 _) (meets_dict_values (mixKind X.prog X.w) a hsys) ⟨⟨vs, dof⟩, ?_⟩
  have k1 : ∀ b u, s1.heap.get? b = some u → (s1.heap.push { cls := .type "dict_values", data := .fields #[.ref a] }).get? b = some u := fun b u e => Heap.get?_push_of_some _ e
  have dat1 : (s1.heap.push { cls := .type "dict_values", data := .fields #[.ref a] }).DictAt (mixKind X.prog X.w) a vs ep := dat.keep k1
  have hlv : vs.length = kvs.length := (KV.length rel).symm
  have hvals := kv_vals rel
  obtain ⟨e1, e2⟩ := L2.refs_back hvals fun x m => by
    obtain ⟨t, e, _⟩ := hv x m
    exact ⟨t, e⟩
  refine sorted_src (k := fun u => k (L2.backV u)) (vs := vs.map (·.2)) (PySem.W.kdl_values (knd := mixKind X.prog X.w) (kvs := vs) (ep := ep) (r := s1.heap.objs.size) (d := a)) (I.ok.hd hc) ⟨⟨_, Heap.get?_push_size _ rfl, rfl, rfl⟩, dat1⟩ (by rw [hlv]; exact hz) (List.length_map ..) (fun i v ⟨kk, hk⟩ => by rw [List.getElem?_map, hk] <;> rfl) (fun v hv' => ?_) fun hm h' tk d out h1 h2 km kp hd hn => ?_
  · obtain ⟨t, rfl⟩ := e2 v hv'
    have hm : V.ref t ∈ kvs.map (·.2) := by rw [e1]; exact List.mem_map.mpr ⟨_, hv', rfl⟩
    obtain ⟨t', e, ht⟩ := hv _ hm
    cases e
    obtain ⟨_, its2, r2, o, ho, hc, n, hd⟩ := I1.hok _ _ ht
    obtain ⟨u1, u2, rfl, ri, rj⟩ := vals2 r2
    obtain ⟨t1, rfl⟩ := ri
    obtain ⟨t2, rfl⟩ := rj
    exact ⟨t, o, t1, t2, n, rfl, k1 _ _ ho, hc, hd⟩
  · have h3 : ∀ u ∈ out, ∃ a, u = Value.ref a := fun u hu => e2 u (h2.perm.mem_iff.mp hu)
    obtain ⟨n, hn⟩ := hn
    have hb : SrtO.Stb (L2.ltP k) (out.map L2.backV) (kvs.map (·.2)) := by
      rw [e1]
      exact SrtO.Stb.map (L2.ltP_swo k) L2.backV h2
    have I3 : L2.Inv X pins σ H1 { s1 with heap := hm, toks := tk } := I1.kept (t' := tk) fun b u e => km b u (k1 b u e)
    refine ⟨.ref d, upd H1 d (.lst (out.map L2.backV)), I3.laid (t' := tk) kp hd ⟨?_, out, n, L2.vals_back h3, hn⟩, rfl, q _ d (SrtO.srtd_map h1) hb (I3.hok.fresh hd)⟩
    rw [hb.len, List.length_map]
    exact hz
end
def fSortV : D → Option O
  | .dct kvs => if intKB kvs = true then (pairsOf (kvs.map (·.2))).map fun ps => .o (.lst ((sortP ps).map pairD)) else none
  | _ => none
def eSortV (f : Gm → R D) : Gm → R O := fun Γ => (f Γ).bind fun d => R.of (fSortV d)
theorem r_sortV {f : Gm → R D} {Γ : Gm} : eSortV f Γ = (f Γ).bind fun d => R.of (fSortV d) := rfl
theorem repK_vals {K : PySem.W.Frag} {F : Hp} : ∀ {kvs : List (Key × V)} {ds : List (D × D)}, RepK K F kvs ds → Reps K F (kvs.map (·.2)) (ds.map (·.2))
  | _, _, .nil => .nil
  | _, _, .cons r t => .cons r (repK_vals t)
theorem ge_sortV {T : List (Addr × Str)} {K : PySem.W.Frag} {mg : Str → Option Value} {E : Ex T} {td : TE} {f : Gm → R D} (g : GR K mg E td f) : GE K mg E (tSortVals td) (eSortV f) := fun Γ F0 H0 F H σ Q I q => by
  refine g Γ F0 H0 F H σ _ I (R.post_imp (R.post_bind q) fun d q v F' H' gr c => ?_)
  have s := gr.sub
  cases d with
  | dct ds =>
    have q : (R.of (if intKB ds = true then (pairsOf (ds.map (·.2))).map fun ps => O.o (.lst ((sortP ps).map pairD)) else none)).post _ _ := q
    split at q
    · rename_i hk
      cases ep : pairsOf (ds.map (·.2)) with
      | none => rw [ep] at q; exact q.elim
      | some ps =>
        rw [ep] at q
        have eps := pairsOf_some ep
        obtain ⟨hz, a, rfl, hd⟩ := c.dct s
        have hpl : ps.length = ds.length := by
          have := congrArg List.length eps
          rw [List.length_map, List.length_map] at this
          exact this.symm
        rcases hd with ⟨w, hw, r⟩ | ⟨w, hw, r⟩
        · have rv := repK_vals r
          rw [eps] at rv
          obtain ⟨each, em⟩ := pairs_at s rv
          refine ⟨a, w, prV H', rfl, hw, fun x hx => (pair_at s (each x hx)).1, fun zs p so st hp => ?_⟩
          have e1 : zs.map (prV H') = sortP ps := by
            refine risP_unique (((st.perm.map (prV H')).trans (by rw [em])).trans (sortP_perm ps).symm) (List.pairwise_map.mpr so) (sortP_ris ps)
          have rz := reps_each (k := prV H') fun y hy => each y (st.perm.mem_iff.mp hy)
          rw [e1] at rz
          obtain ⟨g2, p', e2, f2, n2, o2⟩ := new_lst s hp rz (by rw [List.length_map, (sortP_perm ps).length_eq, hpl]; exact hz)
          exact q _ _ _ (gr.trans g2) ⟨p', e2, f2.back gr.hh, n2, o2⟩
        · cases r with
          | nil => cases hk
          | cons r t =>
            unfold intKB at hk
            rw [List.all_cons] at hk
            simp [keyT] at hk
    · exact q.elim
  | _ => exact q.elim
section
variable {T : List (Addr × Str)} {X : Cx} {E : Ex T} {G : Gl5} {k : Nat} {N : List Str} {sc : Scope} {fnb : Str → Bool} {o : PySem.Expr} {p pos apos mpos : Pos}
theorem c_sortV (C : Cok X E G k N sc fnb) {f : Gm → R D} (hg : gloB sc "sorted" = true) (hb : BltG G "sorted") (h : SR X E o f) (hbase : attributeBase o "values" X.env (eval o X.env) = eval o X.env := by rfl) (hline : (apos.endLine == mpos.line) = true := by rfl)
    (hse : starEach [PySem.Expr.Call (.Attribute o "values" apos) [] [] mpos] X.env = [(false, eval (PySem.Expr.Call (.Attribute o "values" apos) [] [] mpos) X.env)] := by rfl) : SE X E (.Call (.Name "sorted" p) [.Call (.Attribute o "values" apos) [] [] mpos] [] pos) (eSortV f) := by
  obtain ⟨t, po, g⟩ := h
  exact ⟨_, pe_sortVals C.calm (C.glo hg).1 (C.no hb) po hbase hline hse, ge_sortV g⟩
end
end Pd

set_option maxHeartbeats 4000000
namespace Lk73
open PySem PySem.Spec L2 Pd Pr
def topS (i : Nat) : Stmt := PySem.Challenge.pw_leaprings_k73_shapes_and_homes.main.body.getD i (.Pass ⟨0, 0, 0, 0⟩)
/-! ### is_number -/
abbrev N_is_number : List Str := ["thing", "least", "most"]
abbrev sc_is_number : Scope := L2.defScope (topS 8)
/-! ### rises -/
abbrev N_rises : List Str := ["some", "k"]
abbrev sc_rises : Scope := L2.defScope (topS 9)
/-! ### is_leapring -/
abbrev N_is_leapring : List Str := ["thing", "leap"]
abbrev sc_is_leapring : Scope := L2.defScope (topS 10)
/-! ### need_ring -/
abbrev N_need_ring : List Str := ["ring"]
abbrev sc_need_ring : Scope := L2.defScope (topS 11)
/-! ### common -/
abbrev N_common : List Str := ["one", "other"]
abbrev sc_common : Scope := L2.defScope (topS 12)
/-! ### pieces_of -/
abbrev N_pieces_of : List Str := ["ring", "found", "leap"]
abbrev sc_pieces_of : Scope := L2.defScope (topS 13)
/-! ### need_two_leaps -/
abbrev N_need_two_leaps : List Str := ["ring"]
abbrev sc_need_two_leaps : Scope := L2.defScope (topS 16)
/-! ### is_cell -/
abbrev N_is_cell : List Str := ["thing", "most", "one"]
abbrev sc_is_cell : Scope := L2.defScope (topS 17)
/-! ### need_cell -/
abbrev N_need_cell : List Str := ["cell"]
abbrev sc_need_cell : Scope := L2.defScope (topS 18)
/-! ### place_of -/
abbrev N_place_of : List Str := ["ring", "cell"]
abbrev sc_place_of : Scope := L2.defScope (topS 19)
/-! ### cells_of -/
abbrev N_cells_of : List Str := ["size", "found", "x", "y"]
abbrev sc_cells_of : Scope := L2.defScope (topS 20)
/-! ### places_many -/
abbrev N_places_many : List Str := ["ring"]
abbrev sc_places_many : Scope := L2.defScope (topS 22)
/-! ### homes -/
abbrev N_homes : List Str := ["ring", "found", "size", "cell"]
abbrev sc_homes : Scope := L2.defScope (topS 23)
def f_homes : Gm → R Out := sSeq (sSet true 1 ((fun _ => .ok (.o (.dct [])))))
  (sSeq (sSet false 2 (eC (.int 0)))
  (sSeq (whR (isB (e2 (dCmp .Lt) (rd (eCall fLen (seqR [rVar 1]))) (rd (eUser d_places_many (seqR [uVar 0]))))) (sSeq (sFor (iF (vl (eUser d_cells_of (seqR [uVar 2])))) (.nm 3) (sSeq (sIf (isB (e2 (dCmp .NotIn) (rd (eUser d_place_of (seqR [uVar 0, uVar 3]))) (rVar 1))) (sSeq (sSto 1 (vl (eVar 3)) (rd (eUser d_place_of (seqR [uVar 0, uVar 3]))))
  (sNext)) (sNext))
  (sNext)))
  (sSeq (sSet false 2 (e2 (dBin .Add) (rVar 2) (rd (eC (.int 1)))))
  (sNext))) whN)
  (sSeq (sRetV 1)
  (sNext))))
def d_homes : List Sl → R O := defF 3 f_homes
/-! ### shape -/
abbrev N_shape : List Str := ["ring"]
abbrev sc_shape : Scope := L2.defScope (topS 24)
def f_shape : Gm → R Out := sSeq (sExpr (rd (eUser d_need_two_leaps (seqR [uVar 0]))))
  (sSeq (sRet (eSortV (rd (eUser d_homes (seqR [uVar 0])))))
  (sNext))
def d_shape : List Sl → R O := defF 0 f_shape
/-! ### home_of -/
abbrev N_home_of : List Str := ["ring", "cell", "home"]
abbrev sc_home_of : Scope := L2.defScope (topS 25)
def f_home_of : Gm → R Out := sSeq (sExpr (rd (eUser d_need_two_leaps (seqR [uVar 0]))))
  (sSeq (sExpr (rd (eUser d_need_cell (seqR [uVar 1]))))
  (sSeq (sSet false 2 (e2 dIx (rd (eUser d_homes (seqR [uVar 0]))) (rd (eUser d_place_of (seqR [uVar 0, uVar 1])))))
  (sSeq (sRet (eTup (seqR [vl (eVar 2), vl (eTup (seqR [vl (e2 (dBin .Sub) (rd (e2 dIx (rVar 1) (rd (eC (.int 0))))) (rd (e2 dIx (rVar 2) (rd (eC (.int 0)))))), vl (e2 (dBin .Sub) (rd (e2 dIx (rVar 1) (rd (eC (.int 1))))) (rd (e2 dIx (rVar 2) (rd (eC (.int 1))))))]))])))
  (sNext))))
def d_home_of : List Sl → R O := defF 1 f_home_of
/-! ### _law_cell_at -/
abbrev N__law_cell_at : List Str := ["_law_script", "_law_k"]
abbrev sc__law_cell_at : Scope := L2.defScope (topS 27)
/-! ### _law_draw -/
abbrev N__law_draw : List Str := ["_law_cell_here", "_law_k", "_law_bound", "_law_stir", "_law_left", "_law_j"]
abbrev sc__law_draw : Scope := L2.defScope (topS 28)
/-! ### _law_beside -/
abbrev N__law_beside : List Str := ["_law_ring", "_law_place", "_law_size", "_law_leap"]
abbrev sc__law_beside : Scope := L2.defScope (topS 29)
/-! ### _law_off -/
abbrev N__law_off : List Str := ["_law_lists", "_law_one", "_law_found", "_law_fresh", "_law_later", "_law_place", "_law_other"]
abbrev sc__law_off : Scope := L2.defScope (topS 30)
/-! ### _law_two_leaps -/
abbrev N__law_two_leaps : List Str := ["_law_cell_here", "_law_most", "_law_size", "_law_one", "_law_other"]
abbrev sc__law_two_leaps : Scope := L2.defScope (topS 31)
/-! ### _law_lies -/
abbrev N__law_lies : List Str := ["_law_ring", "_law_x", "_law_y"]
abbrev sc__law_lies : Scope := L2.defScope (topS 32)
/-! ### _law_come -/
abbrev N__law_come : List Str := ["_law_ring", "_law_place"]
abbrev sc__law_come : Scope := L2.defScope (topS 33)
/-! ### _law_sized -/
abbrev N__law_sized : List Str := ["_law_size", "_law_found", "_law_x", "_law_left"]
abbrev sc__law_sized : Scope := L2.defScope (topS 34)
/-! ### _law_cell -/
abbrev N__law_cell : List Str := ["_law_cell_here", "_law_spot", "_law_most", "_law_found", "_law_k", "_law_great"]
abbrev sc__law_cell : Scope := L2.defScope (topS 35)
/-! ### _law_homes -/
abbrev N__law_homes : List Str := ["_law_ring", "_law_found", "_law_size", "_law_x", "_law_y", "_law_place"]
abbrev sc__law_homes : Scope := L2.defScope (topS 36)
/-! ### law -/
abbrev N_law : List Str := ["_law_script", "_law_k", "_law_cell_here", "_law_ring", "_law_those", "_law_due", "_law_turn", "_law_j", "_law_found", "_law_home", "_law_x", "_law_y", "_law_place"]
abbrev sc_law : Scope := L2.defScope (topS 37)
def f_law : Gm → R Out := sSeq (sFor (iOf rngF1 (seqR [rd (eCall fMax (seqR [rd (eC (.int 1)), rd (eCall fMin (seqR [rd (eCall fLen (seqR [rVar 0])), rd (eC (.int 5))]))]))])) (.nm 1) (sSeq (sSet false 2 (eUser d__law_cell_at (seqR [uVar 0, uVar 1])))
  (sSeq (sSet false 3 (eUser d__law_two_leaps (seqR [uVar 2, uVal (vl (e2 dIx (rd (eLst (seqR [vl (eC (.int 40)), vl (eC (.int 9)), vl (eC (.int 100))]))) (rd (eUser d__law_draw (seqR [uVar 2, uVal (vl (eC (.int 8))), uVal (vl (eC (.int 3)))])))))])))
  (sSeq (sSet false 4 (eUser d__law_homes (seqR [uVar 3])))
  (sSeq (sSet false 5 (eCall fSorted (seqR [rd (eLcD (iKy 4) (.nm 12) ((fun _ => .ok true)) (vl (e2 dIx (rVar 4) (rVar 12))) ([12]))])))
  (sSeq (sFor (iOf rngF1 (seqR [rd (eC (.int 2))])) (.nm 6) (sSeq (sSet true 8 (eUser d_shape (seqR [uVar 3])))
  (sSeq (sIf (isB (e2 (dCmp .NotEq) (rd (eCall fRepr (seqR [rVar 8]))) (rd (eCall fRepr (seqR [rVar 5]))))) (sSeq (sRet (eC (.bl false)))
  (sNext)) (sNext))
  (sSeq (sApp 8 (vl (eTup (seqR []))))
  (sNext)))))
  (sSeq (sFor (iOf rngF1 (seqR [rd (eC (.int 5))])) (.nm 7) (sSeq (sAsg (.tp [.nm 10, .nm 11]) (vl (eUser d__law_cell (seqR [uVar 2, uVal (vl (e2 (dBin .Add) (rd (eC (.int 50))) (rd (e2 (dBin .Mult) (rd (eC (.int 3))) (rVar 7)))))]))))
  (sSeq (sSet false 9 (e2 dIx (rVar 4) (rd (eUser d__law_lies (seqR [uVar 3, uVar 10, uVar 11])))))
  (sSeq (sIf (isB (e2 (dCmp .NotEq) (rd (eCall fRepr (seqR [rd (eUser d_home_of (seqR [uVar 3, uVal (vl (eTup (seqR [vl (eVar 10), vl (eVar 11)])))]))]))) (rd (eCall fRepr (seqR [rd (eTup (seqR [vl (eVar 9), vl (eTup (seqR [vl (e2 (dBin .Sub) (rVar 10) (rd (e2 dIx (rVar 9) (rd (eC (.int 0)))))), vl (e2 (dBin .Sub) (rVar 11) (rd (e2 dIx (rVar 9) (rd (eC (.int 1))))))]))]))]))))) (sSeq (sRet (eC (.bl false)))
  (sNext)) (sNext))
  (sNext)))))
  (sNext))))))))
  (sSeq (sRet (e2 (dCmp .Eq) (rd (eUser d_shape (seqR [uVal (vl (eTup (seqR [vl (eC (.int 4)), vl (eTup (seqR [vl (eC (.int 1)), vl (eC (.int 2))]))])))]))) (rd (eLst (seqR [vl (eTup (seqR [vl (eNeg (rd (eC (.int 1)))), vl (eC (.int 0))])), vl (eTup (seqR [vl (eC (.int 0)), vl (eNeg (rd (eC (.int 1))))])), vl (eTup (seqR [vl (eC (.int 0)), vl (eC (.int 0))])), vl (eTup (seqR [vl (eC (.int 1)), vl (eC (.int 0))]))])))))
  (sNext))
def d_law : List Sl → R O := defF 12 f_law
/-! ## the walk -/
theorem fs_is_number : FnScope N_is_number ["thing", "least", "most"] sc_is_number := ⟨rfl, rfl, rfl, by decide +kernel, rfl, by decide +kernel, by decide +kernel⟩
theorem w_is_number {G : Gl5} {X : Cx} {T : List (Addr × Str)} {E : Ex T} (C : Cok X E G 0 N_is_number sc_is_number fnAll) (S : Sok X) (b_bool : BltG G "bool") (b_int : BltG G "int") (b_isinstance : BltG G "isinstance") : SB X E (L2.defBody (topS 8)) f_is_number := by
  have v0 : varB N_is_number sc_is_number 0 "thing" = true := by decide +kernel
  have g1 : gloB sc_is_number "int" = true := by decide +kernel
  have g2 : gloB sc_is_number "isinstance" = true := by decide +kernel
  have g3 : gloB sc_is_number "bool" = true := by decide +kernel
  have v1 : varB N_is_number sc_is_number 1 "least" = true := by decide +kernel
  have v2 : varB N_is_number sc_is_number 2 "most" = true := by decide +kernel
  exact (sb_cons (ss_ret (se_and _ (.cons (c_blt C (f := fIsi) (by rfl) g2 b_isinstance (a_cons (n_r C v0) (a_cons (SE.read (n_t C g1 b_int (by decide +kernel) (by decide))) .nil))) (.cons (se_not (SE.read (c_blt C (f := fIsi) (by rfl) g2 b_isinstance (a_cons (n_r C v0) (a_cons (SE.read (n_t C g3 b_bool (by decide +kernel) (by decide))) .nil))))) (.cons (e_chain C (n_r C v1) (n_r C v0) (n_r C v2)) .nil))) (by simp)))
  sb_nil)
theorem fs_rises : FnScope N_rises ["some"] sc_rises := ⟨rfl, rfl, rfl, by decide +kernel, rfl, by decide +kernel, by decide +kernel⟩
theorem w_rises {G : Gl5} {X : Cx} {T : List (Addr × Str)} {E : Ex T} (C : Cok X E G 0 N_rises sc_rises fnAll) (S : Sok X) (b_all : BltG G "all") (b_len : BltG G "len") (b_range : BltG G "range") : SB X E (L2.defBody (topS 9)) f_rises := by
  have v0 : varB N_rises sc_rises 0 "some" = true := by decide +kernel
  have g1 : gloB sc_rises "len" = true := by decide +kernel
  have g2 : gloB sc_rises "range" = true := by decide +kernel
  have g3 : gloB sc_rises "all" = true := by decide +kernel
  exact (sb_cons (ss_ret (c_blt C (f := fAll) (by rfl) g3 b_all (a_cons (SE.read (c_lc C [("k", 1)] (SItF.toC (i_rng1 C g2 b_range (SE.read (se_bin (SE.read (c_blt C (f := fLen) (by rfl) g1 b_len (a_cons (n_r C v0) .nil))) (SE.read k_int))))) (by decide +kernel) (fun _ C1 => (t_name C1 (by decide +kernel))) (fun _ C1 => f_none) (fun _ C1 => (SE.val (e_cmp C1 (SE.read (e_ix C1 (n_r C1 (by decide +kernel)) (n_r C1 (by decide +kernel)))) (SE.read (e_ix C1 (n_r C1 (by decide +kernel)) (SE.read (se_bin (n_r C1 (by decide +kernel)) (SE.read k_int)))))))))) .nil)))
  sb_nil)
theorem fs_is_leapring : FnScope N_is_leapring ["thing"] sc_is_leapring := ⟨rfl, rfl, rfl, by decide +kernel, rfl, by decide +kernel, by decide +kernel⟩
theorem w_is_leapring {G : Gl5} {X : Cx} {T : List (Addr × Str)} {E : Ex T} (C : Cok X E G 1 N_is_leapring sc_is_leapring fnAll) (S : Sok X) (h_is_number : DefG G 1 "is_number" 3 d_is_number) (h_rises : DefG G 1 "rises" 1 d_rises) (b_all : BltG G "all") (b_isinstance : BltG G "isinstance") (b_len : BltG G "len") (b_tuple : BltG G "tuple") (c_MOST_LEAPS : CstG G "MOST_LEAPS" (.int 4)) (c_MOST_PLACES : CstG G "MOST_PLACES" (.int 100)) : SB X E (L2.defBody (topS 10)) f_is_leapring := by
  have v0 : varB N_is_leapring sc_is_leapring 0 "thing" = true := by decide +kernel
  have g1 : gloB sc_is_leapring "tuple" = true := by decide +kernel
  have g2 : gloB sc_is_leapring "isinstance" = true := by decide +kernel
  have g3 : gloB sc_is_leapring "len" = true := by decide +kernel
  have g4 : gloB sc_is_leapring "MOST_PLACES" = true := by decide +kernel
  have g5 : gloB sc_is_leapring "is_number" = true := by decide +kernel
  have g6 : gloB sc_is_leapring "MOST_LEAPS" = true := by decide +kernel
  have g7 : gloB sc_is_leapring "all" = true := by decide +kernel
  have g8 : gloB sc_is_leapring "rises" = true := by decide +kernel
  exact (sb_cons (ss_if (st_or (.cons (st_not (t_tru (SE.read (c_blt C (f := fIsi) (by rfl) g2 b_isinstance (a_cons (n_r C v0) (a_cons (SE.read (n_t C g1 b_tuple (by decide +kernel) (by decide))) .nil)))))) (.cons (t_cmp C (SE.read (c_blt C (f := fLen) (by rfl) g3 b_len (a_cons (n_r C v0) .nil))) (SE.read k_int)) (.cons (st_not (t_tru (SE.read (c_def C h_is_number g5 (u_cons (su_val (SE.val (e_ix C (n_r C v0) (SE.read k_int)))) (u_cons (su_val (SE.val k_int)) (u_cons (su_val (SE.val (n_g C g4 c_MOST_PLACES))) .nil))))))) .nil))) (by simp)) (sb_cons (ss_ret k_bl)
  sb_nil) sb_nil)
  (sb_cons (ss_if (st_or (.cons (st_not (t_tru (SE.read (c_blt C (f := fIsi) (by rfl) g2 b_isinstance (a_cons (SE.read (e_ix C (n_r C v0) (SE.read k_int))) (a_cons (SE.read (n_t C g1 b_tuple (by decide +kernel) (by decide))) .nil)))))) (.cons (st_not (t_chain C (SE.read k_int) (SE.read (c_blt C (f := fLen) (by rfl) g3 b_len (a_cons (SE.read (e_ix C (n_r C v0) (SE.read k_int))) .nil))) (SE.read (n_g C g6 c_MOST_LEAPS)))) .nil)) (by simp)) (sb_cons (ss_ret k_bl)
  sb_nil) sb_nil)
  (sb_cons (ss_ret (se_and _ (.cons (c_blt C (f := fAll) (by rfl) g7 b_all (a_cons (SE.read (c_lc C [("leap", 1)] (sitC_sq (SE.read (e_ix C (n_r C v0) (SE.read k_int)))) (by decide +kernel) (fun _ C1 => (t_name C1 (by decide +kernel))) (fun _ C1 => f_none) (fun _ C1 => (SE.val (c_def C1 h_is_number (by decide +kernel) (u_cons (n_u C1 (by decide +kernel)) (u_cons (su_val (SE.val k_int)) (u_cons (su_val (SE.val (se_bin (SE.read (e_ix C1 (n_r C1 (by decide +kernel)) (SE.read k_int))) (SE.read k_int)))) .nil)))))))) .nil)) (.cons (c_def C h_rises g8 (u_cons (su_val (SE.val (e_ix C (n_r C v0) (SE.read k_int)))) .nil)) .nil)) (by simp)))
  sb_nil)))
theorem fs_need_ring : FnScope N_need_ring ["ring"] sc_need_ring := ⟨rfl, rfl, rfl, by decide +kernel, rfl, by decide +kernel, by decide +kernel⟩
theorem w_need_ring {G : Gl5} {X : Cx} {T : List (Addr × Str)} {E : Ex T} (C : Cok X E G 2 N_need_ring sc_need_ring fnAll) (S : Sok X) (h_is_leapring : DefG G 2 "is_leapring" 1 d_is_leapring) (x_NoRing : ExcG G "NoRing") : SB X E (L2.defBody (topS 11)) f_need_ring := by
  have v0 : varB N_need_ring sc_need_ring 0 "ring" = true := by decide +kernel
  have g1 : gloB sc_need_ring "is_leapring" = true := by decide +kernel
  have g2 : gloB sc_need_ring "NoRing" = true := by decide +kernel
  exact (sb_cons (ss_if (st_not (t_tru (SE.read (c_def C h_is_leapring g1 (u_cons (n_u C v0) .nil))))) (sb_cons (s_raise C x_NoRing g2)
  sb_nil) sb_nil)
  sb_nil)
theorem fs_common : FnScope N_common ["one", "other"] sc_common := ⟨rfl, rfl, rfl, by decide +kernel, rfl, by decide +kernel, by decide +kernel⟩
theorem w_common {G : Gl5} {X : Cx} {T : List (Addr × Str)} {E : Ex T} (C : Cok X E G 0 N_common sc_common fnAll) (S : Sok X)  : SB X E (L2.defBody (topS 12)) f_common := by
  have v1 : varB N_common sc_common 1 "other" = true := by decide +kernel
  have v0 : varB N_common sc_common 0 "one" = true := by decide +kernel
  have s0 : stoB N_common sc_common fnAll 0 "one" = true := by decide +kernel
  have s1 : stoB N_common sc_common fnAll 1 "other" = true := by decide +kernel
  exact (sb_cons (s_while S whN (t_cmp C (n_r C v1) (SE.read k_int)) (sb_cons (s_par C s0 s1 (by decide +kernel) (si_of (v_cons (SE.val (n_e C v1)) (v_cons (SE.val (se_bin (n_r C v0) (n_r C v1))) .nil))))
  sb_nil))
  (sb_cons (s_retV C v0)
  sb_nil))
theorem fs_pieces_of : FnScope N_pieces_of ["ring"] sc_pieces_of := ⟨rfl, rfl, rfl, by decide +kernel, rfl, by decide +kernel, by decide +kernel⟩
theorem w_pieces_of {G : Gl5} {X : Cx} {T : List (Addr × Str)} {E : Ex T} (C : Cok X E G 1 N_pieces_of sc_pieces_of fnAll) (S : Sok X) (h_common : DefG G 1 "common" 2 d_common) : SB X E (L2.defBody (topS 13)) f_pieces_of := by
  have v0 : varB N_pieces_of sc_pieces_of 0 "ring" = true := by decide +kernel
  have s1 : stoB N_pieces_of sc_pieces_of fnAll 1 "found" = true := by decide +kernel
  have s2 : stoB N_pieces_of sc_pieces_of fnAll 2 "leap" = true := by decide +kernel
  have v1 : varB N_pieces_of sc_pieces_of 1 "found" = true := by decide +kernel
  have v2 : varB N_pieces_of sc_pieces_of 2 "leap" = true := by decide +kernel
  have g5 : gloB sc_pieces_of "common" = true := by decide +kernel
  exact (sb_cons (s_set C false s1 (e_ix C (n_r C v0) (SE.read k_int)))
  (sb_cons (s_for C S (sitF_sq (SE.val (e_ix C (n_r C v0) (SE.read k_int)))) (t_name C s2) (sb_cons (s_set C false s1 (c_def C h_common g5 (u_cons (n_u C v1) (u_cons (n_u C v2) .nil))))
  sb_nil))
  (sb_cons (s_retV C v1)
  sb_nil)))
theorem fs_need_two_leaps : FnScope N_need_two_leaps ["ring"] sc_need_two_leaps := ⟨rfl, rfl, rfl, by decide +kernel, rfl, by decide +kernel, by decide +kernel⟩
theorem w_need_two_leaps {G : Gl5} {X : Cx} {T : List (Addr × Str)} {E : Ex T} (C : Cok X E G 3 N_need_two_leaps sc_need_two_leaps fnAll) (S : Sok X) (h_need_ring : DefG G 3 "need_ring" 1 d_need_ring) (b_len : BltG G "len") (x_NotTwo : ExcG G "NotTwo") : SB X E (L2.defBody (topS 16)) f_need_two_leaps := by
  have v0 : varB N_need_two_leaps sc_need_two_leaps 0 "ring" = true := by decide +kernel
  have g1 : gloB sc_need_two_leaps "need_ring" = true := by decide +kernel
  have g2 : gloB sc_need_two_leaps "len" = true := by decide +kernel
  have g3 : gloB sc_need_two_leaps "NotTwo" = true := by decide +kernel
  exact (sb_cons (s_expr (SE.read (c_def C h_need_ring g1 (u_cons (n_u C v0) .nil))))
  (sb_cons (ss_if (t_cmp C (SE.read (c_blt C (f := fLen) (by rfl) g2 b_len (a_cons (SE.read (e_ix C (n_r C v0) (SE.read k_int))) .nil))) (SE.read k_int)) (sb_cons (s_raise C x_NotTwo g3)
  sb_nil) sb_nil)
  sb_nil))
theorem fs_is_cell : FnScope N_is_cell ["thing", "most"] sc_is_cell := ⟨rfl, rfl, rfl, by decide +kernel, rfl, by decide +kernel, by decide +kernel⟩
theorem w_is_cell {G : Gl5} {X : Cx} {T : List (Addr × Str)} {E : Ex T} (C : Cok X E G 1 N_is_cell sc_is_cell fnAll) (S : Sok X) (h_is_number : DefG G 1 "is_number" 3 d_is_number) (b_all : BltG G "all") (b_isinstance : BltG G "isinstance") (b_len : BltG G "len") (b_tuple : BltG G "tuple") : SB X E (L2.defBody (topS 17)) f_is_cell := by
  have v0 : varB N_is_cell sc_is_cell 0 "thing" = true := by decide +kernel
  have g1 : gloB sc_is_cell "tuple" = true := by decide +kernel
  have g2 : gloB sc_is_cell "isinstance" = true := by decide +kernel
  have g3 : gloB sc_is_cell "len" = true := by decide +kernel
  have g4 : gloB sc_is_cell "all" = true := by decide +kernel
  exact (sb_cons (ss_if (st_or (.cons (st_not (t_tru (SE.read (c_blt C (f := fIsi) (by rfl) g2 b_isinstance (a_cons (n_r C v0) (a_cons (SE.read (n_t C g1 b_tuple (by decide +kernel) (by decide))) .nil)))))) (.cons (t_cmp C (SE.read (c_blt C (f := fLen) (by rfl) g3 b_len (a_cons (n_r C v0) .nil))) (SE.read k_int)) .nil)) (by simp)) (sb_cons (ss_ret k_bl)
  sb_nil) sb_nil)
  (sb_cons (ss_ret (c_blt C (f := fAll) (by rfl) g4 b_all (a_cons (SE.read (c_lc C [("one", 2)] (sitC_sq (n_r C v0)) (by decide +kernel) (fun _ C1 => (t_name C1 (by decide +kernel))) (fun _ C1 => f_none) (fun _ C1 => (SE.val (c_def C1 h_is_number (by decide +kernel) (u_cons (n_u C1 (by decide +kernel)) (u_cons (su_val (SE.val (se_bin (SE.read k_int) (n_r C1 (by decide +kernel))))) (u_cons (n_u C1 (by decide +kernel)) .nil)))))))) .nil)))
  sb_nil))
theorem fs_need_cell : FnScope N_need_cell ["cell"] sc_need_cell := ⟨rfl, rfl, rfl, by decide +kernel, rfl, by decide +kernel, by decide +kernel⟩
theorem w_need_cell {G : Gl5} {X : Cx} {T : List (Addr × Str)} {E : Ex T} (C : Cok X E G 2 N_need_cell sc_need_cell fnAll) (S : Sok X) (h_is_cell : DefG G 2 "is_cell" 2 d_is_cell) (c_MOST_CELL : CstG G "MOST_CELL" (.int 999999999999)) (x_NoCell : ExcG G "NoCell") : SB X E (L2.defBody (topS 18)) f_need_cell := by
  have v0 : varB N_need_cell sc_need_cell 0 "cell" = true := by decide +kernel
  have g1 : gloB sc_need_cell "MOST_CELL" = true := by decide +kernel
  have g2 : gloB sc_need_cell "is_cell" = true := by decide +kernel
  have g3 : gloB sc_need_cell "NoCell" = true := by decide +kernel
  exact (sb_cons (ss_if (st_not (t_tru (SE.read (c_def C h_is_cell g2 (u_cons (n_u C v0) (u_cons (su_val (SE.val (n_g C g1 c_MOST_CELL))) .nil)))))) (sb_cons (s_raise C x_NoCell g3)
  sb_nil) sb_nil)
  sb_nil)
theorem fs_place_of : FnScope N_place_of ["ring", "cell"] sc_place_of := ⟨rfl, rfl, rfl, by decide +kernel, rfl, by decide +kernel, by decide +kernel⟩
theorem w_place_of {G : Gl5} {X : Cx} {T : List (Addr × Str)} {E : Ex T} (C : Cok X E G 0 N_place_of sc_place_of fnAll) (S : Sok X)  : SB X E (L2.defBody (topS 19)) f_place_of := by
  have v1 : varB N_place_of sc_place_of 1 "cell" = true := by decide +kernel
  have v0 : varB N_place_of sc_place_of 0 "ring" = true := by decide +kernel
  exact (sb_cons (ss_ret (se_bin (SE.read (se_bin (SE.read (se_bin (SE.read (e_ix C (n_r C v1) (SE.read k_int))) (SE.read (e_ix C (SE.read (e_ix C (n_r C v0) (SE.read k_int))) (SE.read k_int))))) (SE.read (se_bin (SE.read (e_ix C (n_r C v1) (SE.read k_int))) (SE.read (e_ix C (SE.read (e_ix C (n_r C v0) (SE.read k_int))) (SE.read k_int))))))) (SE.read (e_ix C (n_r C v0) (SE.read k_int)))))
  sb_nil)
theorem fs_cells_of : FnScope N_cells_of ["size"] sc_cells_of := ⟨rfl, rfl, rfl, by decide +kernel, rfl, by decide +kernel, by decide +kernel⟩
theorem w_cells_of {G : Gl5} {X : Cx} {T : List (Addr × Str)} {E : Ex T} (C : Cok X E G 0 N_cells_of sc_cells_of fnAll) (S : Sok X) (b_abs : BltG G "abs") (b_range : BltG G "range") : SB X E (L2.defBody (topS 20)) f_cells_of := by
  have s1 : stoB N_cells_of sc_cells_of fnAll 1 "found" = true := by decide +kernel
  have v0 : varB N_cells_of sc_cells_of 0 "size" = true := by decide +kernel
  have g2 : gloB sc_cells_of "range" = true := by decide +kernel
  have s2 : stoB N_cells_of sc_cells_of fnAll 2 "x" = true := by decide +kernel
  have v2 : varB N_cells_of sc_cells_of 2 "x" = true := by decide +kernel
  have g5 : gloB sc_cells_of "abs" = true := by decide +kernel
  have s3 : stoB N_cells_of sc_cells_of fnAll 3 "y" = true := by decide +kernel
  have v3 : varB N_cells_of sc_cells_of 3 "y" = true := by decide +kernel
  have v1 : varB N_cells_of sc_cells_of 1 "found" = true := by decide +kernel
  exact (sb_cons (s_set C true s1 (se_lst (si_of .nil)))
  (sb_cons (s_for C S (i_rng2 C g2 b_range (SE.read (se_bin (SE.read k_int) (n_r C v0))) (SE.read (se_bin (n_r C v0) (SE.read k_int)))) (t_name C s2) (sb_cons (s_set C false s3 (se_bin (n_r C v0) (SE.read (c_blt C (f := fAbs) (by rfl) g5 b_abs (a_cons (n_r C v2) .nil)))))
  (sb_cons (s_ext C v1 (SE.read (se_if (t_cmp C (n_r C v3) (SE.read k_int)) (se_lst (si_of (v_cons (SE.val (se_tup (si_of (v_cons (SE.val (n_e C v2)) (v_cons (SE.val (se_bin (SE.read k_int) (n_r C v3))) .nil))))) (v_cons (SE.val (se_tup (si_of (v_cons (SE.val (n_e C v2)) (v_cons (SE.val (n_e C v3)) .nil))))) .nil)))) (se_lst (si_of (v_cons (SE.val (se_tup (si_of (v_cons (SE.val (n_e C v2)) (v_cons (SE.val k_int) .nil))))) .nil))))))
  sb_nil)))
  (sb_cons (s_retV C v1)
  sb_nil)))
theorem fs_places_many : FnScope N_places_many ["ring"] sc_places_many := ⟨rfl, rfl, rfl, by decide +kernel, rfl, by decide +kernel, by decide +kernel⟩
theorem w_places_many {G : Gl5} {X : Cx} {T : List (Addr × Str)} {E : Ex T} (C : Cok X E G 2 N_places_many sc_places_many fnAll) (S : Sok X) (h_pieces_of : DefG G 2 "pieces_of" 1 d_pieces_of) : SB X E (L2.defBody (topS 22)) f_places_many := by
  have v0 : varB N_places_many sc_places_many 0 "ring" = true := by decide +kernel
  have g1 : gloB sc_places_many "pieces_of" = true := by decide +kernel
  exact (sb_cons (ss_ret (se_bin (SE.read (e_ix C (n_r C v0) (SE.read k_int))) (SE.read (c_def C h_pieces_of g1 (u_cons (n_u C v0) .nil)))))
  sb_nil)
theorem fs_homes : FnScope N_homes ["ring"] sc_homes := ⟨rfl, rfl, rfl, by decide +kernel, rfl, by decide +kernel, by decide +kernel⟩
theorem w_homes {G : Gl5} {X : Cx} {T : List (Addr × Str)} {E : Ex T} (C : Cok X E G 3 N_homes sc_homes fnAll) (S : Sok X) (h_places_many : DefG G 3 "places_many" 1 d_places_many) (h_cells_of : DefG G 1 "cells_of" 1 d_cells_of) (h_place_of : DefG G 1 "place_of" 2 d_place_of) (b_len : BltG G "len") : SB X E (L2.defBody (topS 23)) f_homes := by
  have s1 : stoB N_homes sc_homes fnAll 1 "found" = true := by decide +kernel
  have s2 : stoB N_homes sc_homes fnAll 2 "size" = true := by decide +kernel
  have v1 : varB N_homes sc_homes 1 "found" = true := by decide +kernel
  have g3 : gloB sc_homes "len" = true := by decide +kernel
  have v0 : varB N_homes sc_homes 0 "ring" = true := by decide +kernel
  have g5 : gloB sc_homes "places_many" = true := by decide +kernel
  have v2 : varB N_homes sc_homes 2 "size" = true := by decide +kernel
  have g7 : gloB sc_homes "cells_of" = true := by decide +kernel
  have s3 : stoB N_homes sc_homes fnAll 3 "cell" = true := by decide +kernel
  have v3 : varB N_homes sc_homes 3 "cell" = true := by decide +kernel
  have g10 : gloB sc_homes "place_of" = true := by decide +kernel
  exact (sb_cons (s_set C true s1 se_dict0)
  (sb_cons (s_set C false s2 k_int)
  (sb_cons (s_while S whN (t_cmp C (SE.read (c_blt C (f := fLen) (by rfl) g3 b_len (a_cons (n_r C v1) .nil))) (SE.read (c_def C h_places_many g5 (u_cons (n_u C v0) .nil)))) (sb_cons (s_for C S (sitF_sq (SE.val (c_def C h_cells_of g7 (u_cons (n_u C v2) .nil)))) (t_name C s3) (sb_cons (ss_if (t_cmp C (SE.read (c_def C h_place_of g10 (u_cons (n_u C v0) (u_cons (n_u C v3) .nil)))) (n_r C v1)) (sb_cons (s_sto C v1 (SE.val (n_e C v3)) (SE.read (c_def C h_place_of g10 (u_cons (n_u C v0) (u_cons (n_u C v3) .nil)))))
  sb_nil) sb_nil)
  sb_nil))
  (sb_cons (s_set C false s2 (se_bin (n_r C v2) (SE.read k_int)))
  sb_nil)))
  (sb_cons (s_retV C v1)
  sb_nil))))
theorem fs_shape : FnScope N_shape ["ring"] sc_shape := ⟨rfl, rfl, rfl, by decide +kernel, rfl, by decide +kernel, by decide +kernel⟩
theorem w_shape {G : Gl5} {X : Cx} {T : List (Addr × Str)} {E : Ex T} (C : Cok X E G 4 N_shape sc_shape fnAll) (S : Sok X) (h_need_two_leaps : DefG G 4 "need_two_leaps" 1 d_need_two_leaps) (h_homes : DefG G 4 "homes" 1 d_homes) (b_sorted : BltG G "sorted") : SB X E (L2.defBody (topS 24)) f_shape := by
  have v0 : varB N_shape sc_shape 0 "ring" = true := by decide +kernel
  have g1 : gloB sc_shape "need_two_leaps" = true := by decide +kernel
  have g2 : gloB sc_shape "homes" = true := by decide +kernel
  have g3 : gloB sc_shape "sorted" = true := by decide +kernel
  exact (sb_cons (s_expr (SE.read (c_def C h_need_two_leaps g1 (u_cons (n_u C v0) .nil))))
  (sb_cons (ss_ret (c_sortV C g3 b_sorted (SE.read (c_def C h_homes g2 (u_cons (n_u C v0) .nil)))))
  sb_nil))
theorem fs_home_of : FnScope N_home_of ["ring", "cell"] sc_home_of := ⟨rfl, rfl, rfl, by decide +kernel, rfl, by decide +kernel, by decide +kernel⟩
theorem w_home_of {G : Gl5} {X : Cx} {T : List (Addr × Str)} {E : Ex T} (C : Cok X E G 4 N_home_of sc_home_of fnAll) (S : Sok X) (h_need_two_leaps : DefG G 4 "need_two_leaps" 1 d_need_two_leaps) (h_need_cell : DefG G 3 "need_cell" 1 d_need_cell) (h_homes : DefG G 4 "homes" 1 d_homes) (h_place_of : DefG G 1 "place_of" 2 d_place_of) : SB X E (L2.defBody (topS 25)) f_home_of := by
  have v0 : varB N_home_of sc_home_of 0 "ring" = true := by decide +kernel
  have g1 : gloB sc_home_of "need_two_leaps" = true := by decide +kernel
  have v1 : varB N_home_of sc_home_of 1 "cell" = true := by decide +kernel
  have g3 : gloB sc_home_of "need_cell" = true := by decide +kernel
  have g4 : gloB sc_home_of "homes" = true := by decide +kernel
  have g5 : gloB sc_home_of "place_of" = true := by decide +kernel
  have s2 : stoB N_home_of sc_home_of fnAll 2 "home" = true := by decide +kernel
  have v2 : varB N_home_of sc_home_of 2 "home" = true := by decide +kernel
  exact (sb_cons (s_expr (SE.read (c_def C h_need_two_leaps g1 (u_cons (n_u C v0) .nil))))
  (sb_cons (s_expr (SE.read (c_def C h_need_cell g3 (u_cons (n_u C v1) .nil))))
  (sb_cons (s_set C false s2 (e_ix C (SE.read (c_def C h_homes g4 (u_cons (n_u C v0) .nil))) (SE.read (c_def C h_place_of g5 (u_cons (n_u C v0) (u_cons (n_u C v1) .nil))))))
  (sb_cons (ss_ret (se_tup (si_of (v_cons (SE.val (n_e C v2)) (v_cons (SE.val (se_tup (si_of (v_cons (SE.val (se_bin (SE.read (e_ix C (n_r C v1) (SE.read k_int))) (SE.read (e_ix C (n_r C v2) (SE.read k_int))))) (v_cons (SE.val (se_bin (SE.read (e_ix C (n_r C v1) (SE.read k_int))) (SE.read (e_ix C (n_r C v2) (SE.read k_int))))) .nil))))) .nil)))))
  sb_nil))))
theorem fs__law_cell_at : FnScope N__law_cell_at ["_law_script", "_law_k"] sc__law_cell_at := ⟨rfl, rfl, rfl, by decide +kernel, rfl, by decide +kernel, by decide +kernel⟩
theorem w__law_cell_at {G : Gl5} {X : Cx} {T : List (Addr × Str)} {E : Ex T} (C : Cok X E G 0 N__law_cell_at sc__law_cell_at fnAll) (S : Sok X) (b_len : BltG G "len") : SB X E (L2.defBody (topS 27)) f__law_cell_at := by
  have v1 : varB N__law_cell_at sc__law_cell_at 1 "_law_k" = true := by decide +kernel
  have v0 : varB N__law_cell_at sc__law_cell_at 0 "_law_script" = true := by decide +kernel
  have g2 : gloB sc__law_cell_at "len" = true := by decide +kernel
  exact (sb_cons (ss_if (t_cmp C (n_r C v1) (SE.read (c_blt C (f := fLen) (by rfl) g2 b_len (a_cons (n_r C v0) .nil)))) (sb_cons (ss_ret (e_ix C (n_r C v0) (n_r C v1)))
  sb_nil) sb_nil)
  (sb_cons (ss_ret k_int)
  sb_nil))
theorem fs__law_draw : FnScope N__law_draw ["_law_cell_here", "_law_k", "_law_bound"] sc__law_draw := ⟨rfl, rfl, rfl, by decide +kernel, rfl, by decide +kernel, by decide +kernel⟩
theorem w__law_draw {G : Gl5} {X : Cx} {T : List (Addr × Str)} {E : Ex T} (C : Cok X E G 0 N__law_draw sc__law_draw fnAll) (S : Sok X) (b_range : BltG G "range") : SB X E (L2.defBody (topS 28)) f__law_draw := by
  have v0 : varB N__law_draw sc__law_draw 0 "_law_cell_here" = true := by decide +kernel
  have s4 : stoB N__law_draw sc__law_draw fnAll 4 "_law_left" = true := by decide +kernel
  have v1 : varB N__law_draw sc__law_draw 1 "_law_k" = true := by decide +kernel
  have g3 : gloB sc__law_draw "range" = true := by decide +kernel
  have s5 : stoB N__law_draw sc__law_draw fnAll 5 "_law_j" = true := by decide +kernel
  have v4 : varB N__law_draw sc__law_draw 4 "_law_left" = true := by decide +kernel
  have v2 : varB N__law_draw sc__law_draw 2 "_law_bound" = true := by decide +kernel
  have s3 : stoB N__law_draw sc__law_draw fnAll 3 "_law_stir" = true := by decide +kernel
  have v3 : varB N__law_draw sc__law_draw 3 "_law_stir" = true := by decide +kernel
  exact (sb_cons (ss_if (t_cmp C (n_r C v0) (SE.read (se_bin (SE.read k_int) (SE.read k_int)))) (sb_cons (s_set C false s4 (n_e C v0))
  (sb_cons (s_for C S (i_rng1 C g3 b_range (n_r C v1)) (t_name C s5) (sb_cons (s_set C false s4 (se_bin (n_r C v4) (n_r C v2)))
  sb_nil))
  (sb_cons (ss_if (t_cmp C (n_r C v4) (SE.read k_int)) (sb_cons (ss_ret (se_bin (n_r C v4) (n_r C v2)))
  sb_nil) sb_nil)
  sb_nil))) sb_nil)
  (sb_cons (s_set C false s3 (se_bin (SE.read (se_bin (SE.read (se_bin (SE.read (se_bin (SE.read (se_bin (n_r C v0) (SE.read k_int))) (SE.read (se_bin (SE.read k_int) (n_r C v1))))) (SE.read k_int))) (SE.read k_int))) (SE.read k_int)))
  (sb_cons (s_set C false s3 (se_bin (SE.read (se_bin (SE.read (se_bin (SE.read (se_bin (n_r C v3) (n_r C v3))) (SE.read (se_bin (SE.read k_int) (n_r C v1))))) (SE.read k_int))) (SE.read k_int)))
  (sb_cons (ss_ret (se_bin (SE.read (se_bin (SE.read (se_bin (SE.read (se_bin (n_r C v3) (SE.read k_int))) (SE.read k_int))) (SE.read k_int))) (n_r C v2)))
  sb_nil))))
theorem fs__law_beside : FnScope N__law_beside ["_law_ring", "_law_place"] sc__law_beside := ⟨rfl, rfl, rfl, by decide +kernel, rfl, by decide +kernel, by decide +kernel⟩
theorem w__law_beside {G : Gl5} {X : Cx} {T : List (Addr × Str)} {E : Ex T} (C : Cok X E G 0 N__law_beside sc__law_beside fnAll) (S : Sok X) (b_set : BltG G "set") (b_sorted : BltG G "sorted") : SB X E (L2.defBody (topS 29)) f__law_beside := by
  have v0 : varB N__law_beside sc__law_beside 0 "_law_ring" = true := by decide +kernel
  have s2 : stoB N__law_beside sc__law_beside fnAll 2 "_law_size" = true := by decide +kernel
  have g2 : gloB sc__law_beside "sorted" = true := by decide +kernel
  have g3 : gloB sc__law_beside "set" = true := by decide +kernel
  exact (sb_cons (s_set C false s2 (e_ix C (n_r C v0) (SE.read k_int)))
  (sb_cons (ss_ret (c_sortSet C g2 b_sorted g3 b_set (SE.read (se_bin (SE.read (c_lc C [("_law_leap", 3)] (sitC_sq (SE.read (e_ix C (n_r C v0) (SE.read k_int)))) (by decide +kernel) (fun _ C1 => (t_name C1 (by decide +kernel))) (fun _ C1 => f_none) (fun _ C1 => (SE.val (se_bin (SE.read (se_bin (n_r C1 (by decide +kernel)) (n_r C1 (by decide +kernel)))) (n_r C1 (by decide +kernel))))))) (SE.read (c_lc C [("_law_leap", 3)] (sitC_sq (SE.read (e_ix C (n_r C v0) (SE.read k_int)))) (by decide +kernel) (fun _ C2 => (t_name C2 (by decide +kernel))) (fun _ C2 => f_none) (fun _ C2 => (SE.val (se_bin (SE.read (se_bin (n_r C2 (by decide +kernel)) (n_r C2 (by decide +kernel)))) (n_r C2 (by decide +kernel)))))))))))
  sb_nil))
theorem fs__law_off : FnScope N__law_off ["_law_lists", "_law_one"] sc__law_off := ⟨rfl, rfl, rfl, by decide +kernel, rfl, by decide +kernel, by decide +kernel⟩
theorem w__law_off {G : Gl5} {X : Cx} {T : List (Addr × Str)} {E : Ex T} (C : Cok X E G 0 N__law_off sc__law_off fnAll) (S : Sok X)  : SB X E (L2.defBody (topS 30)) f__law_off := by
  have v1 : varB N__law_off sc__law_off 1 "_law_one" = true := by decide +kernel
  have s2 : stoB N__law_off sc__law_off fnAll 2 "_law_found" = true := by decide +kernel
  have s3 : stoB N__law_off sc__law_off fnAll 3 "_law_fresh" = true := by decide +kernel
  have v3 : varB N__law_off sc__law_off 3 "_law_fresh" = true := by decide +kernel
  have s4 : stoB N__law_off sc__law_off fnAll 4 "_law_later" = true := by decide +kernel
  have s5 : stoB N__law_off sc__law_off fnAll 5 "_law_place" = true := by decide +kernel
  have v0 : varB N__law_off sc__law_off 0 "_law_lists" = true := by decide +kernel
  have v5 : varB N__law_off sc__law_off 5 "_law_place" = true := by decide +kernel
  have s6 : stoB N__law_off sc__law_off fnAll 6 "_law_other" = true := by decide +kernel
  have v6 : varB N__law_off sc__law_off 6 "_law_other" = true := by decide +kernel
  have v2 : varB N__law_off sc__law_off 2 "_law_found" = true := by decide +kernel
  have v4 : varB N__law_off sc__law_off 4 "_law_later" = true := by decide +kernel
  exact (sb_cons (s_set C true s2 (se_dict1 (n_r C v1) (SE.val k_int)))
  (sb_cons (s_set C false s3 (se_lst (si_of (v_cons (SE.val (n_e C v1)) .nil))))
  (sb_cons (s_while S whN (t_cmp C (n_r C v3) (SE.read (se_lst (si_of .nil)))) (sb_cons (s_set C true s4 (se_lst (si_of .nil)))
  (sb_cons (s_for C S (sitF_sq (SE.val (n_e C v3))) (t_name C s5) (sb_cons (s_for C S (sitF_sq (SE.val (e_ix C (n_r C v0) (n_r C v5)))) (t_name C s6) (sb_cons (ss_if (t_cmp C (n_r C v6) (n_r C v2)) (sb_cons (s_sto C v2 (SE.val (se_bin (SE.read (e_ix C (n_r C v2) (n_r C v5))) (SE.read k_int))) (n_r C v6))
  (sb_cons (s_app C v4 (SE.val (n_e C v6)))
  sb_nil)) sb_nil)
  sb_nil))
  sb_nil))
  (sb_cons (SS.frz (s_set C false s3 (n_e C v4)) [4])
  sb_nil))))
  (sb_cons (s_retV C v2)
  sb_nil))))
theorem fs__law_two_leaps : FnScope N__law_two_leaps ["_law_cell_here", "_law_most"] sc__law_two_leaps := ⟨rfl, rfl, rfl, by decide +kernel, rfl, by decide +kernel, by decide +kernel⟩
theorem w__law_two_leaps {G : Gl5} {X : Cx} {T : List (Addr × Str)} {E : Ex T} (C : Cok X E G 1 N__law_two_leaps sc__law_two_leaps fnAll) (S : Sok X) (h__law_draw : DefG G 1 "_law_draw" 3 d__law_draw) (b_int : BltG G "int") (b_max : BltG G "max") (b_min : BltG G "min") : SB X E (L2.defBody (topS 31)) f__law_two_leaps := by
  have v0 : varB N__law_two_leaps sc__law_two_leaps 0 "_law_cell_here" = true := by decide +kernel
  have v1 : varB N__law_two_leaps sc__law_two_leaps 1 "_law_most" = true := by decide +kernel
  have g2 : gloB sc__law_two_leaps "_law_draw" = true := by decide +kernel
  have s2 : stoB N__law_two_leaps sc__law_two_leaps fnAll 2 "_law_size" = true := by decide +kernel
  have v2 : varB N__law_two_leaps sc__law_two_leaps 2 "_law_size" = true := by decide +kernel
  have s3 : stoB N__law_two_leaps sc__law_two_leaps fnAll 3 "_law_one" = true := by decide +kernel
  have v3 : varB N__law_two_leaps sc__law_two_leaps 3 "_law_one" = true := by decide +kernel
  have s4 : stoB N__law_two_leaps sc__law_two_leaps fnAll 4 "_law_other" = true := by decide +kernel
  have v4 : varB N__law_two_leaps sc__law_two_leaps 4 "_law_other" = true := by decide +kernel
  have g9 : gloB sc__law_two_leaps "int" = true := by decide +kernel
  have g10 : gloB sc__law_two_leaps "min" = true := by decide +kernel
  have g11 : gloB sc__law_two_leaps "max" = true := by decide +kernel
  exact (sb_cons (s_set C false s2 (se_bin (SE.read k_int) (SE.read (c_def C h__law_draw g2 (u_cons (n_u C v0) (u_cons (su_val (SE.val k_int)) (u_cons (su_val (SE.val (se_bin (n_r C v1) (SE.read k_int)))) .nil)))))))
  (sb_cons (s_set C false s3 (se_bin (SE.read k_int) (SE.read (c_def C h__law_draw g2 (u_cons (n_u C v0) (u_cons (su_val (SE.val k_int)) (u_cons (su_val (SE.val (se_bin (n_r C v2) (SE.read k_int)))) .nil)))))))
  (sb_cons (s_set C false s4 (se_bin (SE.read k_int) (SE.read (se_bin (SE.read (se_bin (n_r C v3) (SE.read (c_def C h__law_draw g2 (u_cons (n_u C v0) (u_cons (su_val (SE.val k_int)) (u_cons (su_val (SE.val (se_bin (SE.read (se_bin (n_r C v2) (SE.read k_int))) (SE.read k_int)))) .nil))))))) (SE.read (se_bin (n_r C v2) (SE.read k_int)))))))
  (sb_cons (ss_if (t_cmp C (SE.read (c_def C h__law_draw g2 (u_cons (n_u C v0) (u_cons (su_val (SE.val k_int)) (u_cons (su_val (SE.val k_int)) .nil))))) (SE.read k_int)) (sb_cons (s_par C s3 s4 (by decide +kernel) (si_of (v_cons (SE.val (e_ix C (SE.read (se_lst (si_of (v_cons (SE.val k_int) (v_cons (SE.val (se_bin (SE.read (se_bin (n_r C v2) (SE.read k_int))) (SE.read k_int))) .nil))))) (SE.read (c_blt C (f := fInt) (by rfl) g9 b_int (a_cons (SE.read (e_cmp C (n_r C v4) (SE.read k_int))) .nil))))) (v_cons (SE.val (se_bin (n_r C v2) (SE.read k_int))) .nil))))
  sb_nil) sb_nil)
  (sb_cons (ss_ret (se_tup (si_of (v_cons (SE.val (n_e C v2)) (v_cons (SE.val (se_tup (si_of (v_cons (SE.val (c_blt C (f := fMin) (by rfl) g10 b_min (a_cons (n_r C v3) (a_cons (n_r C v4) .nil)))) (v_cons (SE.val (c_blt C (f := fMax) (by rfl) g11 b_max (a_cons (n_r C v3) (a_cons (n_r C v4) .nil)))) .nil))))) .nil)))))
  sb_nil)))))
theorem fs__law_lies : FnScope N__law_lies ["_law_ring", "_law_x", "_law_y"] sc__law_lies := ⟨rfl, rfl, rfl, by decide +kernel, rfl, by decide +kernel, by decide +kernel⟩
theorem w__law_lies {G : Gl5} {X : Cx} {T : List (Addr × Str)} {E : Ex T} (C : Cok X E G 0 N__law_lies sc__law_lies fnAll) (S : Sok X)  : SB X E (L2.defBody (topS 32)) f__law_lies := by
  have v1 : varB N__law_lies sc__law_lies 1 "_law_x" = true := by decide +kernel
  have v0 : varB N__law_lies sc__law_lies 0 "_law_ring" = true := by decide +kernel
  have v2 : varB N__law_lies sc__law_lies 2 "_law_y" = true := by decide +kernel
  exact (sb_cons (ss_ret (se_bin (SE.read (se_bin (SE.read (se_bin (n_r C v1) (SE.read (e_ix C (SE.read (e_ix C (n_r C v0) (SE.read k_int))) (SE.read k_int))))) (SE.read (se_bin (n_r C v2) (SE.read (e_ix C (SE.read (e_ix C (n_r C v0) (SE.read k_int))) (SE.read k_int))))))) (SE.read (e_ix C (n_r C v0) (SE.read k_int)))))
  sb_nil)
theorem fs__law_come : FnScope N__law_come ["_law_ring"] sc__law_come := ⟨rfl, rfl, rfl, by decide +kernel, rfl, by decide +kernel, by decide +kernel⟩
theorem w__law_come {G : Gl5} {X : Cx} {T : List (Addr × Str)} {E : Ex T} (C : Cok X E G 1 N__law_come sc__law_come fnAll) (S : Sok X) (h__law_off : DefG G 1 "_law_off" 2 d__law_off) (h__law_beside : DefG G 1 "_law_beside" 2 d__law_beside) (b_len : BltG G "len") (b_range : BltG G "range") : SB X E (L2.defBody (topS 33)) f__law_come := by
  have v0 : varB N__law_come sc__law_come 0 "_law_ring" = true := by decide +kernel
  have g1 : gloB sc__law_come "range" = true := by decide +kernel
  have g2 : gloB sc__law_come "_law_off" = true := by decide +kernel
  have g3 : gloB sc__law_come "len" = true := by decide +kernel
  exact (sb_cons (ss_ret (c_blt C (f := fLen) (by rfl) g3 b_len (a_cons (SE.read (c_def C h__law_off g2 (u_cons (su_val (SE.val (c_lc C [("_law_place", 1)] (SItF.toC (i_rng1 C g1 b_range (SE.read (e_ix C (n_r C v0) (SE.read k_int))))) (by decide +kernel) (fun _ C1 => (t_name C1 (by decide +kernel))) (fun _ C1 => f_none) (fun _ C1 => (SE.val (c_def C1 h__law_beside (by decide +kernel) (u_cons (n_u C1 (by decide +kernel)) (u_cons (n_u C1 (by decide +kernel)) .nil)))))))) (u_cons (su_val (SE.val k_int)) .nil)))) .nil)))
  sb_nil)
theorem fs__law_sized : FnScope N__law_sized ["_law_size"] sc__law_sized := ⟨rfl, rfl, rfl, by decide +kernel, rfl, by decide +kernel, by decide +kernel⟩
theorem w__law_sized {G : Gl5} {X : Cx} {T : List (Addr × Str)} {E : Ex T} (C : Cok X E G 0 N__law_sized sc__law_sized fnAll) (S : Sok X) (b_abs : BltG G "abs") (b_range : BltG G "range") : SB X E (L2.defBody (topS 34)) f__law_sized := by
  have s1 : stoB N__law_sized sc__law_sized fnAll 1 "_law_found" = true := by decide +kernel
  have v0 : varB N__law_sized sc__law_sized 0 "_law_size" = true := by decide +kernel
  have g2 : gloB sc__law_sized "range" = true := by decide +kernel
  have s2 : stoB N__law_sized sc__law_sized fnAll 2 "_law_x" = true := by decide +kernel
  have v2 : varB N__law_sized sc__law_sized 2 "_law_x" = true := by decide +kernel
  have g5 : gloB sc__law_sized "abs" = true := by decide +kernel
  have s3 : stoB N__law_sized sc__law_sized fnAll 3 "_law_left" = true := by decide +kernel
  have v3 : varB N__law_sized sc__law_sized 3 "_law_left" = true := by decide +kernel
  have v1 : varB N__law_sized sc__law_sized 1 "_law_found" = true := by decide +kernel
  exact (sb_cons (s_set C true s1 (se_lst (si_of .nil)))
  (sb_cons (s_for C S (i_rng2 C g2 b_range (SE.read (se_neg (n_r C v0))) (SE.read (se_bin (n_r C v0) (SE.read k_int)))) (t_name C s2) (sb_cons (s_set C false s3 (se_bin (n_r C v0) (SE.read (c_blt C (f := fAbs) (by rfl) g5 b_abs (a_cons (n_r C v2) .nil)))))
  (sb_cons (s_app C v1 (SE.val (se_tup (si_of (v_cons (SE.val (n_e C v2)) (v_cons (SE.val (se_neg (n_r C v3))) .nil))))))
  (sb_cons (ss_if (t_cmp C (n_r C v3) (SE.read k_int)) (sb_cons (s_app C v1 (SE.val (se_tup (si_of (v_cons (SE.val (n_e C v2)) (v_cons (SE.val (n_e C v3)) .nil))))))
  sb_nil) sb_nil)
  sb_nil))))
  (sb_cons (s_retV C v1)
  sb_nil)))
theorem fs__law_cell : FnScope N__law_cell ["_law_cell_here", "_law_spot"] sc__law_cell := ⟨rfl, rfl, rfl, by decide +kernel, rfl, by decide +kernel, by decide +kernel⟩
theorem w__law_cell {G : Gl5} {X : Cx} {T : List (Addr × Str)} {E : Ex T} (C : Cok X E G 1 N__law_cell sc__law_cell fnAll) (S : Sok X) (h__law_draw : DefG G 1 "_law_draw" 3 d__law_draw) : SB X E (L2.defBody (topS 35)) f__law_cell := by
  have v0 : varB N__law_cell sc__law_cell 0 "_law_cell_here" = true := by decide +kernel
  have v1 : varB N__law_cell sc__law_cell 1 "_law_spot" = true := by decide +kernel
  have g2 : gloB sc__law_cell "_law_draw" = true := by decide +kernel
  have s2 : stoB N__law_cell sc__law_cell fnAll 2 "_law_most" = true := by decide +kernel
  have s3 : stoB N__law_cell sc__law_cell fnAll 3 "_law_found" = true := by decide +kernel
  have s4 : stoB N__law_cell sc__law_cell fnAll 4 "_law_k" = true := by decide +kernel
  have v4 : varB N__law_cell sc__law_cell 4 "_law_k" = true := by decide +kernel
  have s5 : stoB N__law_cell sc__law_cell fnAll 5 "_law_great" = true := by decide +kernel
  have v5 : varB N__law_cell sc__law_cell 5 "_law_great" = true := by decide +kernel
  have v2 : varB N__law_cell sc__law_cell 2 "_law_most" = true := by decide +kernel
  have v3 : varB N__law_cell sc__law_cell 3 "_law_found" = true := by decide +kernel
  exact (sb_cons (s_set C false s2 (e_ix C (SE.read (se_lst (si_of (v_cons (SE.val k_int) (v_cons (SE.val k_int) (v_cons (SE.val (se_bin (SE.read k_int) (SE.read k_int))) .nil)))))) (SE.read (c_def C h__law_draw g2 (u_cons (n_u C v0) (u_cons (n_u C v1) (u_cons (su_val (SE.val k_int)) .nil)))))))
  (sb_cons (s_set C true s3 (se_lst (si_of .nil)))
  (sb_cons (s_for C S (sitF_sq (SE.val (se_tup (si_of (v_cons (SE.val k_int) (v_cons (SE.val k_int) .nil)))))) (t_name C s4) (sb_cons (s_set C false s5 (se_bin (SE.read (se_bin (SE.read (c_def C h__law_draw g2 (u_cons (n_u C v0) (u_cons (su_val (SE.val (se_bin (n_r C v1) (n_r C v4)))) (u_cons (su_val (SE.val (se_bin (SE.read k_int) (SE.read k_int)))) .nil))))) (SE.read (se_bin (SE.read k_int) (SE.read k_int))))) (SE.read (c_def C h__law_draw g2 (u_cons (n_u C v0) (u_cons (su_val (SE.val (se_bin (SE.read (se_bin (n_r C v1) (SE.read k_int))) (n_r C v4)))) (u_cons (su_val (SE.val (se_bin (SE.read k_int) (SE.read k_int)))) .nil)))))))
  (sb_cons (s_app C v3 (SE.val (se_bin (SE.read (se_bin (SE.read (se_bin (n_r C v5) (SE.read (se_bin (SE.read (se_bin (SE.read k_int) (n_r C v2))) (SE.read k_int))))) (n_r C v2))) (SE.read k_int))))
  sb_nil)))
  (sb_cons (ss_ret (se_tup (si_of (v_cons (SE.val (e_ix C (n_r C v3) (SE.read k_int))) (v_cons (SE.val (e_ix C (n_r C v3) (SE.read k_int))) .nil)))))
  sb_nil))))
theorem fs__law_homes : FnScope N__law_homes ["_law_ring"] sc__law_homes := ⟨rfl, rfl, rfl, by decide +kernel, rfl, by decide +kernel, by decide +kernel⟩
theorem w__law_homes {G : Gl5} {X : Cx} {T : List (Addr × Str)} {E : Ex T} (C : Cok X E G 2 N__law_homes sc__law_homes fnAll) (S : Sok X) (h__law_come : DefG G 2 "_law_come" 1 d__law_come) (h__law_sized : DefG G 1 "_law_sized" 1 d__law_sized) (h__law_lies : DefG G 1 "_law_lies" 3 d__law_lies) (b_len : BltG G "len") : SB X E (L2.defBody (topS 36)) f__law_homes := by
  have s1 : stoB N__law_homes sc__law_homes fnAll 1 "_law_found" = true := by decide +kernel
  have s2 : stoB N__law_homes sc__law_homes fnAll 2 "_law_size" = true := by decide +kernel
  have v1 : varB N__law_homes sc__law_homes 1 "_law_found" = true := by decide +kernel
  have g3 : gloB sc__law_homes "len" = true := by decide +kernel
  have v0 : varB N__law_homes sc__law_homes 0 "_law_ring" = true := by decide +kernel
  have g5 : gloB sc__law_homes "_law_come" = true := by decide +kernel
  have v2 : varB N__law_homes sc__law_homes 2 "_law_size" = true := by decide +kernel
  have g7 : gloB sc__law_homes "_law_sized" = true := by decide +kernel
  have s3 : stoB N__law_homes sc__law_homes fnAll 3 "_law_x" = true := by decide +kernel
  have s4 : stoB N__law_homes sc__law_homes fnAll 4 "_law_y" = true := by decide +kernel
  have v3 : varB N__law_homes sc__law_homes 3 "_law_x" = true := by decide +kernel
  have v4 : varB N__law_homes sc__law_homes 4 "_law_y" = true := by decide +kernel
  have g12 : gloB sc__law_homes "_law_lies" = true := by decide +kernel
  have s5 : stoB N__law_homes sc__law_homes fnAll 5 "_law_place" = true := by decide +kernel
  have v5 : varB N__law_homes sc__law_homes 5 "_law_place" = true := by decide +kernel
  exact (sb_cons (s_set C true s1 se_dict0)
  (sb_cons (s_set C false s2 k_int)
  (sb_cons (s_while S whN (t_cmp C (SE.read (c_blt C (f := fLen) (by rfl) g3 b_len (a_cons (n_r C v1) .nil))) (SE.read (c_def C h__law_come g5 (u_cons (n_u C v0) .nil)))) (sb_cons (s_for C S (sitF_sq (SE.val (c_def C h__law_sized g7 (u_cons (n_u C v2) .nil)))) (t_tup C (g_cons (t_name C s3) (g_cons (t_name C s4) sgs_nil))) (sb_cons (s_set C false s5 (c_def C h__law_lies g12 (u_cons (n_u C v0) (u_cons (n_u C v3) (u_cons (n_u C v4) .nil)))))
  (sb_cons (ss_if (t_cmp C (n_r C v5) (n_r C v1)) (sb_cons (s_sto C v1 (SE.val (se_tup (si_of (v_cons (SE.val (n_e C v3)) (v_cons (SE.val (n_e C v4)) .nil))))) (n_r C v5))
  sb_nil) sb_nil)
  sb_nil)))
  (sb_cons (s_set C false s2 (se_bin (n_r C v2) (SE.read k_int)))
  sb_nil)))
  (sb_cons (s_retV C v1)
  sb_nil))))
theorem fs_law : FnScope N_law ["_law_script"] sc_law := ⟨rfl, rfl, rfl, by decide +kernel, rfl, by decide +kernel, by decide +kernel⟩
theorem w_law {G : Gl5} {X : Cx} {T : List (Addr × Str)} {E : Ex T} (C : Cok X E G 5 N_law sc_law fnAll) (S : Sok X) (hg : X.A.guards = some []) (h__law_cell_at : DefG G 1 "_law_cell_at" 2 d__law_cell_at) (h__law_two_leaps : DefG G 2 "_law_two_leaps" 2 d__law_two_leaps) (h__law_draw : DefG G 1 "_law_draw" 3 d__law_draw) (h__law_homes : DefG G 3 "_law_homes" 1 d__law_homes) (h_shape : DefG G 5 "shape" 1 d_shape) (h__law_cell : DefG G 2 "_law_cell" 2 d__law_cell) (h__law_lies : DefG G 1 "_law_lies" 3 d__law_lies) (h_home_of : DefG G 5 "home_of" 2 d_home_of) (b_len : BltG G "len") (b_max : BltG G "max") (b_min : BltG G "min") (b_range : BltG G "range") (b_repr : BltG G "repr") (b_sorted : BltG G "sorted") : SB X E (L2.defBody (topS 37)) f_law := by
  have v0 : varB N_law sc_law 0 "_law_script" = true := by decide +kernel
  have g1 : gloB sc_law "len" = true := by decide +kernel
  have g2 : gloB sc_law "min" = true := by decide +kernel
  have g3 : gloB sc_law "max" = true := by decide +kernel
  have g4 : gloB sc_law "range" = true := by decide +kernel
  have s1 : stoB N_law sc_law fnAll 1 "_law_k" = true := by decide +kernel
  have v1 : varB N_law sc_law 1 "_law_k" = true := by decide +kernel
  have g7 : gloB sc_law "_law_cell_at" = true := by decide +kernel
  have s2 : stoB N_law sc_law fnAll 2 "_law_cell_here" = true := by decide +kernel
  have v2 : varB N_law sc_law 2 "_law_cell_here" = true := by decide +kernel
  have g10 : gloB sc_law "_law_draw" = true := by decide +kernel
  have g11 : gloB sc_law "_law_two_leaps" = true := by decide +kernel
  have s3 : stoB N_law sc_law fnAll 3 "_law_ring" = true := by decide +kernel
  have v3 : varB N_law sc_law 3 "_law_ring" = true := by decide +kernel
  have g14 : gloB sc_law "_law_homes" = true := by decide +kernel
  have s4 : stoB N_law sc_law fnAll 4 "_law_those" = true := by decide +kernel
  have v4 : varB N_law sc_law 4 "_law_those" = true := by decide +kernel
  have g17 : gloB sc_law "sorted" = true := by decide +kernel
  have s5 : stoB N_law sc_law fnAll 5 "_law_due" = true := by decide +kernel
  have s6 : stoB N_law sc_law fnAll 6 "_law_turn" = true := by decide +kernel
  have g20 : gloB sc_law "shape" = true := by decide +kernel
  have s8 : stoB N_law sc_law fnAll 8 "_law_found" = true := by decide +kernel
  have v8 : varB N_law sc_law 8 "_law_found" = true := by decide +kernel
  have g23 : gloB sc_law "repr" = true := by decide +kernel
  have v5 : varB N_law sc_law 5 "_law_due" = true := by decide +kernel
  have s7 : stoB N_law sc_law fnAll 7 "_law_j" = true := by decide +kernel
  have v7 : varB N_law sc_law 7 "_law_j" = true := by decide +kernel
  have g27 : gloB sc_law "_law_cell" = true := by decide +kernel
  have s10 : stoB N_law sc_law fnAll 10 "_law_x" = true := by decide +kernel
  have s11 : stoB N_law sc_law fnAll 11 "_law_y" = true := by decide +kernel
  have v10 : varB N_law sc_law 10 "_law_x" = true := by decide +kernel
  have v11 : varB N_law sc_law 11 "_law_y" = true := by decide +kernel
  have g32 : gloB sc_law "_law_lies" = true := by decide +kernel
  have s9 : stoB N_law sc_law fnAll 9 "_law_home" = true := by decide +kernel
  have g34 : gloB sc_law "home_of" = true := by decide +kernel
  have v9 : varB N_law sc_law 9 "_law_home" = true := by decide +kernel
  exact (sb_cons (s_for C S (i_rng1 C g4 b_range (SE.read (c_blt C (f := fMax) (by rfl) g3 b_max (a_cons (SE.read k_int) (a_cons (SE.read (c_blt C (f := fMin) (by rfl) g2 b_min (a_cons (SE.read (c_blt C (f := fLen) (by rfl) g1 b_len (a_cons (n_r C v0) .nil))) (a_cons (SE.read k_int) .nil)))) .nil))))) (t_name C s1) (sb_cons (s_set C false s2 (c_def C h__law_cell_at g7 (u_cons (n_u C v0) (u_cons (n_u C v1) .nil))))
  (sb_cons (s_set C false s3 (c_def C h__law_two_leaps g11 (u_cons (n_u C v2) (u_cons (su_val (SE.val (e_ix C (SE.read (se_lst (si_of (v_cons (SE.val k_int) (v_cons (SE.val k_int) (v_cons (SE.val k_int) .nil)))))) (SE.read (c_def C h__law_draw g10 (u_cons (n_u C v2) (u_cons (su_val (SE.val k_int)) (u_cons (su_val (SE.val k_int)) .nil)))))))) .nil))))
  (sb_cons (s_set C false s4 (c_def C h__law_homes g14 (u_cons (n_u C v3) .nil)))
  (sb_cons (s_set C false s5 (c_sorted C g17 b_sorted (a_cons (SE.read (c_lcD C [("_law_place", 12)] (d_keys C v4) (by decide +kernel) (fun _ C1 => (t_name C1 (by decide +kernel))) (fun _ C1 => f_none) (fun _ C1 => (SE.val (e_ix C1 (n_r C1 (by decide +kernel)) (n_r C1 (by decide +kernel))))))) .nil)))
  (sb_cons (s_for C S (i_rng1 C g4 b_range (SE.read k_int)) (t_name C s6) (sb_cons (s_set C true s8 (c_def C h_shape g20 (u_cons (n_u C v3) .nil)))
  (sb_cons (ss_if (t_cmp C (SE.read (c_repr C hg g23 b_repr (a_cons (n_r C v8) .nil))) (SE.read (c_repr C hg g23 b_repr (a_cons (n_r C v5) .nil)))) (sb_cons (ss_ret k_bl)
  sb_nil) sb_nil)
  (sb_cons (s_app C v8 (SE.val (se_tup (si_of .nil))))
  sb_nil))))
  (sb_cons (s_for C S (i_rng1 C g4 b_range (SE.read k_int)) (t_name C s7) (sb_cons (s_asg C (SE.val (c_def C h__law_cell g27 (u_cons (n_u C v2) (u_cons (su_val (SE.val (se_bin (SE.read k_int) (SE.read (se_bin (SE.read k_int) (n_r C v7)))))) .nil)))) (t_tup C (g_cons (t_name C s10) (g_cons (t_name C s11) sgs_nil))))
  (sb_cons (s_set C false s9 (e_ix C (n_r C v4) (SE.read (c_def C h__law_lies g32 (u_cons (n_u C v3) (u_cons (n_u C v10) (u_cons (n_u C v11) .nil)))))))
  (sb_cons (ss_if (t_cmp C (SE.read (c_repr C hg g23 b_repr (a_cons (SE.read (c_def C h_home_of g34 (u_cons (n_u C v3) (u_cons (su_val (SE.val (se_tup (si_of (v_cons (SE.val (n_e C v10)) (v_cons (SE.val (n_e C v11)) .nil)))))) .nil)))) .nil))) (SE.read (c_repr C hg g23 b_repr (a_cons (SE.read (se_tup (si_of (v_cons (SE.val (n_e C v9)) (v_cons (SE.val (se_tup (si_of (v_cons (SE.val (se_bin (n_r C v10) (SE.read (e_ix C (n_r C v9) (SE.read k_int))))) (v_cons (SE.val (se_bin (n_r C v11) (SE.read (e_ix C (n_r C v9) (SE.read k_int))))) .nil))))) .nil))))) .nil)))) (sb_cons (ss_ret k_bl)
  sb_nil) sb_nil)
  sb_nil))))
  sb_nil)))))))
  (sb_cons (ss_ret (e_cmp C (SE.read (c_def C h_shape g20 (u_cons (su_val (SE.val (se_tup (si_of (v_cons (SE.val k_int) (v_cons (SE.val (se_tup (si_of (v_cons (SE.val k_int) (v_cons (SE.val k_int) .nil))))) .nil)))))) .nil))) (SE.read (se_lst (si_of (v_cons (SE.val (se_tup (si_of (v_cons (SE.val (se_neg (SE.read k_int))) (v_cons (SE.val k_int) .nil))))) (v_cons (SE.val (se_tup (si_of (v_cons (SE.val k_int) (v_cons (SE.val (se_neg (SE.read k_int))) .nil))))) (v_cons (SE.val (se_tup (si_of (v_cons (SE.val k_int) (v_cons (SE.val k_int) .nil))))) (v_cons (SE.val (se_tup (si_of (v_cons (SE.val k_int) (v_cons (SE.val k_int) .nil))))) .nil)))))))))
  sb_nil))
/-! ## together -/
theorem all_mk {l : PySem.W.OpenLaw} {w : World} {K : PySem.W.Frag} {h : Heap} {mg : Str → Option Value} {fa : Addr} (X : K.In h) (Gn : h.Ns mainGlobals mg) (hfa : mg "law" = some (.ref fa)) (own : ∀ y ∈ ([] : List Str), ∀ fb : Addr, mg y = some (.ref fb) → LamX.OwnTab K fb h)
    (good : ∀ ns : List Int, ns.length ≤ 63 → d_law [.val (.scr ns)] = .ok (.v (.bl true)))
    {f0 : Addr} {od0 an0 : Option Addr} {sl0 : Array (Option Value)} {oc0 kV0 dc0 pm0 ct0 : Value} {cd0 : Value}
    {f1 : Addr} {od1 an1 : Option Addr} {sl1 : Array (Option Value)} {oc1 kV1 dc1 pm1 ct1 : Value} {cd1 : Value}
    {f2 : Addr} {od2 an2 : Option Addr} {sl2 : Array (Option Value)} {oc2 kV2 dc2 pm2 ct2 : Value} {cd2 : Value}
    {f3 : Addr} {od3 an3 : Option Addr} {sl3 : Array (Option Value)} {oc3 kV3 dc3 pm3 ct3 : Value} {cd3 : Value}
    {f4 : Addr} {od4 an4 : Option Addr} {sl4 : Array (Option Value)} {oc4 kV4 dc4 pm4 ct4 : Value} {cd4 : Value}
    {f5 : Addr} {od5 an5 : Option Addr} {sl5 : Array (Option Value)} {oc5 kV5 dc5 pm5 ct5 : Value} {cd5 : Value}
    {f6 : Addr} {od6 an6 : Option Addr} {sl6 : Array (Option Value)} {oc6 kV6 dc6 pm6 ct6 : Value} {cd6 : Value}
    {f7 : Addr} {od7 an7 : Option Addr} {sl7 : Array (Option Value)} {oc7 kV7 dc7 pm7 ct7 : Value} {cd7 : Value}
    {f8 : Addr} {od8 an8 : Option Addr} {sl8 : Array (Option Value)} {oc8 kV8 dc8 pm8 ct8 : Value} {cd8 : Value}
    {f9 : Addr} {od9 an9 : Option Addr} {sl9 : Array (Option Value)} {oc9 kV9 dc9 pm9 ct9 : Value} {cd9 : Value}
    {f10 : Addr} {od10 an10 : Option Addr} {sl10 : Array (Option Value)} {oc10 kV10 dc10 pm10 ct10 : Value} {cd10 : Value}
    {f11 : Addr} {od11 an11 : Option Addr} {sl11 : Array (Option Value)} {oc11 kV11 dc11 pm11 ct11 : Value} {cd11 : Value}
    {f12 : Addr} {od12 an12 : Option Addr} {sl12 : Array (Option Value)} {oc12 kV12 dc12 pm12 ct12 : Value} {cd12 : Value}
    {f13 : Addr} {od13 an13 : Option Addr} {sl13 : Array (Option Value)} {oc13 kV13 dc13 pm13 ct13 : Value} {cd13 : Value}
    {f14 : Addr} {od14 an14 : Option Addr} {sl14 : Array (Option Value)} {oc14 kV14 dc14 pm14 ct14 : Value} {cd14 : Value}
    {f15 : Addr} {od15 an15 : Option Addr} {sl15 : Array (Option Value)} {oc15 kV15 dc15 pm15 ct15 : Value} {cd15 : Value}
    {f16 : Addr} {od16 an16 : Option Addr} {sl16 : Array (Option Value)} {oc16 kV16 dc16 pm16 ct16 : Value} {cd16 : Value}
    {f17 : Addr} {od17 an17 : Option Addr} {sl17 : Array (Option Value)} {oc17 kV17 dc17 pm17 ct17 : Value} {cd17 : Value}
    {f18 : Addr} {od18 an18 : Option Addr} {sl18 : Array (Option Value)} {oc18 kV18 dc18 pm18 ct18 : Value} {cd18 : Value}
    {f19 : Addr} {od19 an19 : Option Addr} {sl19 : Array (Option Value)} {oc19 kV19 dc19 pm19 ct19 : Value} {cd19 : Value}
    {f20 : Addr} {od20 an20 : Option Addr} {sl20 : Array (Option Value)} {oc20 kV20 dc20 pm20 ct20 : Value} {cd20 : Value}
    {f21 : Addr} {od21 an21 : Option Addr} {sl21 : Array (Option Value)} {oc21 kV21 dc21 pm21 ct21 : Value} {cd21 : Value}
    {f22 : Addr} {od22 an22 : Option Addr} {sl22 : Array (Option Value)} {oc22 kV22 dc22 pm22 ct22 : Value} {cd22 : Value}
    {f23 : Addr} {od23 an23 : Option Addr} {sl23 : Array (Option Value)} {oc23 kV23 dc23 pm23 ct23 : Value} {cd23 : Value}
    {f24 : Addr} {od24 an24 : Option Addr} {sl24 : Array (Option Value)} {oc24 kV24 dc24 pm24 ct24 : Value} {cd24 : Value}
    {f25 : Addr} {od25 an25 : Option Addr} {sl25 : Array (Option Value)} {oc25 kV25 dc25 pm25 ct25 : Value} {cd25 : Value}
    {t_MOST_CELL : Tok}
    {t_MOST_LEAPS : Tok}
    {t_MOST_PLACES : Tok}
    {C_NoCell : Addr}
    {C_NoRing : Addr}
    {C_NotTwo : Addr}
    {bm_NoCell : List Value}
    {bm_NoRing : List Value}
    {bm_NotTwo : List Value}
    (a0 : PySem.W.nsIn K mainGlobals "is_number" = some (some (.ref f0)))
    (l0 : K.lookup f0 = some ⟨oc0, od0, .func (PySem.W.fnOf "is_number" "is_number" (L2.defArgs (topS 8)) (L2.defBody (topS 8)) (L2.defScope (topS 8)) .none kV0 dc0 pm0 an0 cd0 ct0), sl0⟩)
    (c0 : PySem.W.codeIn K cd0 "is_number" = true)
    (k0 : PySem.W.keepIn K (.ref f0) = true)
    (a1 : PySem.W.nsIn K mainGlobals "rises" = some (some (.ref f1)))
    (l1 : K.lookup f1 = some ⟨oc1, od1, .func (PySem.W.fnOf "rises" "rises" (L2.defArgs (topS 9)) (L2.defBody (topS 9)) (L2.defScope (topS 9)) .none kV1 dc1 pm1 an1 cd1 ct1), sl1⟩)
    (c1 : PySem.W.codeIn K cd1 "rises" = true)
    (k1 : PySem.W.keepIn K (.ref f1) = true)
    (a2 : PySem.W.nsIn K mainGlobals "is_leapring" = some (some (.ref f2)))
    (l2 : K.lookup f2 = some ⟨oc2, od2, .func (PySem.W.fnOf "is_leapring" "is_leapring" (L2.defArgs (topS 10)) (L2.defBody (topS 10)) (L2.defScope (topS 10)) .none kV2 dc2 pm2 an2 cd2 ct2), sl2⟩)
    (c2 : PySem.W.codeIn K cd2 "is_leapring" = true)
    (k2 : PySem.W.keepIn K (.ref f2) = true)
    (a3 : PySem.W.nsIn K mainGlobals "need_ring" = some (some (.ref f3)))
    (l3 : K.lookup f3 = some ⟨oc3, od3, .func (PySem.W.fnOf "need_ring" "need_ring" (L2.defArgs (topS 11)) (L2.defBody (topS 11)) (L2.defScope (topS 11)) .none kV3 dc3 pm3 an3 cd3 ct3), sl3⟩)
    (c3 : PySem.W.codeIn K cd3 "need_ring" = true)
    (k3 : PySem.W.keepIn K (.ref f3) = true)
    (a4 : PySem.W.nsIn K mainGlobals "common" = some (some (.ref f4)))
    (l4 : K.lookup f4 = some ⟨oc4, od4, .func (PySem.W.fnOf "common" "common" (L2.defArgs (topS 12)) (L2.defBody (topS 12)) (L2.defScope (topS 12)) .none kV4 dc4 pm4 an4 cd4 ct4), sl4⟩)
    (c4 : PySem.W.codeIn K cd4 "common" = true)
    (k4 : PySem.W.keepIn K (.ref f4) = true)
    (a5 : PySem.W.nsIn K mainGlobals "pieces_of" = some (some (.ref f5)))
    (l5 : K.lookup f5 = some ⟨oc5, od5, .func (PySem.W.fnOf "pieces_of" "pieces_of" (L2.defArgs (topS 13)) (L2.defBody (topS 13)) (L2.defScope (topS 13)) .none kV5 dc5 pm5 an5 cd5 ct5), sl5⟩)
    (c5 : PySem.W.codeIn K cd5 "pieces_of" = true)
    (k5 : PySem.W.keepIn K (.ref f5) = true)
    (a6 : PySem.W.nsIn K mainGlobals "need_two_leaps" = some (some (.ref f6)))
    (l6 : K.lookup f6 = some ⟨oc6, od6, .func (PySem.W.fnOf "need_two_leaps" "need_two_leaps" (L2.defArgs (topS 16)) (L2.defBody (topS 16)) (L2.defScope (topS 16)) .none kV6 dc6 pm6 an6 cd6 ct6), sl6⟩)
    (c6 : PySem.W.codeIn K cd6 "need_two_leaps" = true)
    (k6 : PySem.W.keepIn K (.ref f6) = true)
    (a7 : PySem.W.nsIn K mainGlobals "is_cell" = some (some (.ref f7)))
    (l7 : K.lookup f7 = some ⟨oc7, od7, .func (PySem.W.fnOf "is_cell" "is_cell" (L2.defArgs (topS 17)) (L2.defBody (topS 17)) (L2.defScope (topS 17)) .none kV7 dc7 pm7 an7 cd7 ct7), sl7⟩)
    (c7 : PySem.W.codeIn K cd7 "is_cell" = true)
    (k7 : PySem.W.keepIn K (.ref f7) = true)
    (a8 : PySem.W.nsIn K mainGlobals "need_cell" = some (some (.ref f8)))
    (l8 : K.lookup f8 = some ⟨oc8, od8, .func (PySem.W.fnOf "need_cell" "need_cell" (L2.defArgs (topS 18)) (L2.defBody (topS 18)) (L2.defScope (topS 18)) .none kV8 dc8 pm8 an8 cd8 ct8), sl8⟩)
    (c8 : PySem.W.codeIn K cd8 "need_cell" = true)
    (k8 : PySem.W.keepIn K (.ref f8) = true)
    (a9 : PySem.W.nsIn K mainGlobals "place_of" = some (some (.ref f9)))
    (l9 : K.lookup f9 = some ⟨oc9, od9, .func (PySem.W.fnOf "place_of" "place_of" (L2.defArgs (topS 19)) (L2.defBody (topS 19)) (L2.defScope (topS 19)) .none kV9 dc9 pm9 an9 cd9 ct9), sl9⟩)
    (c9 : PySem.W.codeIn K cd9 "place_of" = true)
    (k9 : PySem.W.keepIn K (.ref f9) = true)
    (a10 : PySem.W.nsIn K mainGlobals "cells_of" = some (some (.ref f10)))
    (l10 : K.lookup f10 = some ⟨oc10, od10, .func (PySem.W.fnOf "cells_of" "cells_of" (L2.defArgs (topS 20)) (L2.defBody (topS 20)) (L2.defScope (topS 20)) .none kV10 dc10 pm10 an10 cd10 ct10), sl10⟩)
    (c10 : PySem.W.codeIn K cd10 "cells_of" = true)
    (k10 : PySem.W.keepIn K (.ref f10) = true)
    (a11 : PySem.W.nsIn K mainGlobals "places_many" = some (some (.ref f11)))
    (l11 : K.lookup f11 = some ⟨oc11, od11, .func (PySem.W.fnOf "places_many" "places_many" (L2.defArgs (topS 22)) (L2.defBody (topS 22)) (L2.defScope (topS 22)) .none kV11 dc11 pm11 an11 cd11 ct11), sl11⟩)
    (c11 : PySem.W.codeIn K cd11 "places_many" = true)
    (k11 : PySem.W.keepIn K (.ref f11) = true)
    (a12 : PySem.W.nsIn K mainGlobals "homes" = some (some (.ref f12)))
    (l12 : K.lookup f12 = some ⟨oc12, od12, .func (PySem.W.fnOf "homes" "homes" (L2.defArgs (topS 23)) (L2.defBody (topS 23)) (L2.defScope (topS 23)) .none kV12 dc12 pm12 an12 cd12 ct12), sl12⟩)
    (c12 : PySem.W.codeIn K cd12 "homes" = true)
    (k12 : PySem.W.keepIn K (.ref f12) = true)
    (a13 : PySem.W.nsIn K mainGlobals "shape" = some (some (.ref f13)))
    (l13 : K.lookup f13 = some ⟨oc13, od13, .func (PySem.W.fnOf "shape" "shape" (L2.defArgs (topS 24)) (L2.defBody (topS 24)) (L2.defScope (topS 24)) .none kV13 dc13 pm13 an13 cd13 ct13), sl13⟩)
    (c13 : PySem.W.codeIn K cd13 "shape" = true)
    (k13 : PySem.W.keepIn K (.ref f13) = true)
    (a14 : PySem.W.nsIn K mainGlobals "home_of" = some (some (.ref f14)))
    (l14 : K.lookup f14 = some ⟨oc14, od14, .func (PySem.W.fnOf "home_of" "home_of" (L2.defArgs (topS 25)) (L2.defBody (topS 25)) (L2.defScope (topS 25)) .none kV14 dc14 pm14 an14 cd14 ct14), sl14⟩)
    (c14 : PySem.W.codeIn K cd14 "home_of" = true)
    (k14 : PySem.W.keepIn K (.ref f14) = true)
    (a15 : PySem.W.nsIn K mainGlobals "_law_cell_at" = some (some (.ref f15)))
    (l15 : K.lookup f15 = some ⟨oc15, od15, .func (PySem.W.fnOf "_law_cell_at" "_law_cell_at" (L2.defArgs (topS 27)) (L2.defBody (topS 27)) (L2.defScope (topS 27)) .none kV15 dc15 pm15 an15 cd15 ct15), sl15⟩)
    (c15 : PySem.W.codeIn K cd15 "_law_cell_at" = true)
    (k15 : PySem.W.keepIn K (.ref f15) = true)
    (a16 : PySem.W.nsIn K mainGlobals "_law_draw" = some (some (.ref f16)))
    (l16 : K.lookup f16 = some ⟨oc16, od16, .func (PySem.W.fnOf "_law_draw" "_law_draw" (L2.defArgs (topS 28)) (L2.defBody (topS 28)) (L2.defScope (topS 28)) .none kV16 dc16 pm16 an16 cd16 ct16), sl16⟩)
    (c16 : PySem.W.codeIn K cd16 "_law_draw" = true)
    (k16 : PySem.W.keepIn K (.ref f16) = true)
    (a17 : PySem.W.nsIn K mainGlobals "_law_beside" = some (some (.ref f17)))
    (l17 : K.lookup f17 = some ⟨oc17, od17, .func (PySem.W.fnOf "_law_beside" "_law_beside" (L2.defArgs (topS 29)) (L2.defBody (topS 29)) (L2.defScope (topS 29)) .none kV17 dc17 pm17 an17 cd17 ct17), sl17⟩)
    (c17 : PySem.W.codeIn K cd17 "_law_beside" = true)
    (k17 : PySem.W.keepIn K (.ref f17) = true)
    (a18 : PySem.W.nsIn K mainGlobals "_law_off" = some (some (.ref f18)))
    (l18 : K.lookup f18 = some ⟨oc18, od18, .func (PySem.W.fnOf "_law_off" "_law_off" (L2.defArgs (topS 30)) (L2.defBody (topS 30)) (L2.defScope (topS 30)) .none kV18 dc18 pm18 an18 cd18 ct18), sl18⟩)
    (c18 : PySem.W.codeIn K cd18 "_law_off" = true)
    (k18 : PySem.W.keepIn K (.ref f18) = true)
    (a19 : PySem.W.nsIn K mainGlobals "_law_two_leaps" = some (some (.ref f19)))
    (l19 : K.lookup f19 = some ⟨oc19, od19, .func (PySem.W.fnOf "_law_two_leaps" "_law_two_leaps" (L2.defArgs (topS 31)) (L2.defBody (topS 31)) (L2.defScope (topS 31)) .none kV19 dc19 pm19 an19 cd19 ct19), sl19⟩)
    (c19 : PySem.W.codeIn K cd19 "_law_two_leaps" = true)
    (k19 : PySem.W.keepIn K (.ref f19) = true)
    (a20 : PySem.W.nsIn K mainGlobals "_law_lies" = some (some (.ref f20)))
    (l20 : K.lookup f20 = some ⟨oc20, od20, .func (PySem.W.fnOf "_law_lies" "_law_lies" (L2.defArgs (topS 32)) (L2.defBody (topS 32)) (L2.defScope (topS 32)) .none kV20 dc20 pm20 an20 cd20 ct20), sl20⟩)
    (c20 : PySem.W.codeIn K cd20 "_law_lies" = true)
    (k20 : PySem.W.keepIn K (.ref f20) = true)
    (a21 : PySem.W.nsIn K mainGlobals "_law_come" = some (some (.ref f21)))
    (l21 : K.lookup f21 = some ⟨oc21, od21, .func (PySem.W.fnOf "_law_come" "_law_come" (L2.defArgs (topS 33)) (L2.defBody (topS 33)) (L2.defScope (topS 33)) .none kV21 dc21 pm21 an21 cd21 ct21), sl21⟩)
    (c21 : PySem.W.codeIn K cd21 "_law_come" = true)
    (k21 : PySem.W.keepIn K (.ref f21) = true)
    (a22 : PySem.W.nsIn K mainGlobals "_law_sized" = some (some (.ref f22)))
    (l22 : K.lookup f22 = some ⟨oc22, od22, .func (PySem.W.fnOf "_law_sized" "_law_sized" (L2.defArgs (topS 34)) (L2.defBody (topS 34)) (L2.defScope (topS 34)) .none kV22 dc22 pm22 an22 cd22 ct22), sl22⟩)
    (c22 : PySem.W.codeIn K cd22 "_law_sized" = true)
    (k22 : PySem.W.keepIn K (.ref f22) = true)
    (a23 : PySem.W.nsIn K mainGlobals "_law_cell" = some (some (.ref f23)))
    (l23 : K.lookup f23 = some ⟨oc23, od23, .func (PySem.W.fnOf "_law_cell" "_law_cell" (L2.defArgs (topS 35)) (L2.defBody (topS 35)) (L2.defScope (topS 35)) .none kV23 dc23 pm23 an23 cd23 ct23), sl23⟩)
    (c23 : PySem.W.codeIn K cd23 "_law_cell" = true)
    (k23 : PySem.W.keepIn K (.ref f23) = true)
    (a24 : PySem.W.nsIn K mainGlobals "_law_homes" = some (some (.ref f24)))
    (l24 : K.lookup f24 = some ⟨oc24, od24, .func (PySem.W.fnOf "_law_homes" "_law_homes" (L2.defArgs (topS 36)) (L2.defBody (topS 36)) (L2.defScope (topS 36)) .none kV24 dc24 pm24 an24 cd24 ct24), sl24⟩)
    (c24 : PySem.W.codeIn K cd24 "_law_homes" = true)
    (k24 : PySem.W.keepIn K (.ref f24) = true)
    (a25 : PySem.W.nsIn K mainGlobals "law" = some (some (.ref f25)))
    (l25 : K.lookup f25 = some ⟨oc25, od25, .func (PySem.W.fnOf "law" "law" (L2.defArgs (topS 37)) (L2.defBody (topS 37)) (L2.defScope (topS 37)) .none kV25 dc25 pm25 an25 cd25 ct25), sl25⟩)
    (c25 : PySem.W.codeIn K cd25 "law" = true)
    (k25 : PySem.W.keepIn K (.ref f25) = true)
    (zb_abs : PySem.W.nsIn K mainGlobals "abs" = some none)
    (zb_all : PySem.W.nsIn K mainGlobals "all" = some none)
    (zb_bool : PySem.W.nsIn K mainGlobals "bool" = some none)
    (zb_int : PySem.W.nsIn K mainGlobals "int" = some none)
    (zb_isinstance : PySem.W.nsIn K mainGlobals "isinstance" = some none)
    (zb_len : PySem.W.nsIn K mainGlobals "len" = some none)
    (zb_max : PySem.W.nsIn K mainGlobals "max" = some none)
    (zb_min : PySem.W.nsIn K mainGlobals "min" = some none)
    (zb_range : PySem.W.nsIn K mainGlobals "range" = some none)
    (zb_repr : PySem.W.nsIn K mainGlobals "repr" = some none)
    (zb_set : PySem.W.nsIn K mainGlobals "set" = some none)
    (zb_sorted : PySem.W.nsIn K mainGlobals "sorted" = some none)
    (zb_tuple : PySem.W.nsIn K mainGlobals "tuple" = some none)
    (zc_MOST_CELL : PySem.W.nsIn K mainGlobals "MOST_CELL" = some (some (.int 999999999999 t_MOST_CELL)))
    (zc_MOST_LEAPS : PySem.W.nsIn K mainGlobals "MOST_LEAPS" = some (some (.int 4 t_MOST_LEAPS)))
    (zc_MOST_PLACES : PySem.W.nsIn K mainGlobals "MOST_PLACES" = some (some (.int 100 t_MOST_PLACES)))
    (xa_NoCell : PySem.W.nsIn K mainGlobals "NoCell" = some (some (.ref C_NoCell)))
    (xa_NoRing : PySem.W.nsIn K mainGlobals "NoRing" = some (some (.ref C_NoRing)))
    (xa_NotTwo : PySem.W.nsIn K mainGlobals "NotTwo" = some (some (.ref C_NotTwo)))
    (xf_NoCell : ExcBaseFacts "ValueError" "ValueError.__new__" "ValueError.__init__" bm_NoCell)
    (xe_NoCell : PySem.W.excIn K C_NoCell bm_NoCell "ValueError.__new__" = true)
    (xk_NoCell : PySem.W.keepIn K (.ref C_NoCell) = true)
    (xb_NoCell : PySem.W.subIn K (.ref C_NoCell) (.type "BaseException") = some true)
    (xt_NoCell : PySem.W.typeIn K (.ref C_NoCell) = some (.type "type"))
    (xf_NoRing : ExcBaseFacts "ValueError" "ValueError.__new__" "ValueError.__init__" bm_NoRing)
    (xe_NoRing : PySem.W.excIn K C_NoRing bm_NoRing "ValueError.__new__" = true)
    (xk_NoRing : PySem.W.keepIn K (.ref C_NoRing) = true)
    (xb_NoRing : PySem.W.subIn K (.ref C_NoRing) (.type "BaseException") = some true)
    (xt_NoRing : PySem.W.typeIn K (.ref C_NoRing) = some (.type "type"))
    (xf_NotTwo : ExcBaseFacts "ValueError" "ValueError.__new__" "ValueError.__init__" bm_NotTwo)
    (xe_NotTwo : PySem.W.excIn K C_NotTwo bm_NotTwo "ValueError.__new__" = true)
    (xk_NotTwo : PySem.W.keepIn K (.ref C_NotTwo) = true)
    (xb_NotTwo : PySem.W.subIn K (.ref C_NotTwo) (.type "BaseException") = some true)
    (xt_NotTwo : PySem.W.typeIn K (.ref C_NotTwo) = some (.type "type"))
    : LawC l w K (L2.CX l.prog w) 63 "_law_script" mg fa h := by
  have e := hfa.symm.trans (PySem.W.mg_of X Gn a25)
  cases e
  refine lawC_at (fd := (PySem.W.fnOf "law" "law" (L2.defArgs (topS 37)) (L2.defBody (topS 37)) (L2.defScope (topS 37)) .none kV25 dc25 pm25 an25 cd25 ct25)) [] [] ?_ (by simp) (fun s v => .of_eq rfl) good fun base _ _ TB => ?_
  · intro p hp
    cases hp
  have b_abs : BltG ⟨l.prog, w, K, mg, base⟩ "abs" := PySem.W.mg_none_of X Gn zb_abs
  have b_all : BltG ⟨l.prog, w, K, mg, base⟩ "all" := PySem.W.mg_none_of X Gn zb_all
  have b_bool : BltG ⟨l.prog, w, K, mg, base⟩ "bool" := PySem.W.mg_none_of X Gn zb_bool
  have b_int : BltG ⟨l.prog, w, K, mg, base⟩ "int" := PySem.W.mg_none_of X Gn zb_int
  have b_isinstance : BltG ⟨l.prog, w, K, mg, base⟩ "isinstance" := PySem.W.mg_none_of X Gn zb_isinstance
  have b_len : BltG ⟨l.prog, w, K, mg, base⟩ "len" := PySem.W.mg_none_of X Gn zb_len
  have b_max : BltG ⟨l.prog, w, K, mg, base⟩ "max" := PySem.W.mg_none_of X Gn zb_max
  have b_min : BltG ⟨l.prog, w, K, mg, base⟩ "min" := PySem.W.mg_none_of X Gn zb_min
  have b_range : BltG ⟨l.prog, w, K, mg, base⟩ "range" := PySem.W.mg_none_of X Gn zb_range
  have b_repr : BltG ⟨l.prog, w, K, mg, base⟩ "repr" := PySem.W.mg_none_of X Gn zb_repr
  have b_set : BltG ⟨l.prog, w, K, mg, base⟩ "set" := PySem.W.mg_none_of X Gn zb_set
  have b_sorted : BltG ⟨l.prog, w, K, mg, base⟩ "sorted" := PySem.W.mg_none_of X Gn zb_sorted
  have b_tuple : BltG ⟨l.prog, w, K, mg, base⟩ "tuple" := PySem.W.mg_none_of X Gn zb_tuple
  have c_MOST_CELL : CstG ⟨l.prog, w, K, mg, base⟩ "MOST_CELL" (.int 999999999999) := ⟨_, .int 999999999999, PySem.W.mg_of X Gn zc_MOST_CELL, ⟨_, rfl⟩, fun _ => .int _⟩
  have c_MOST_LEAPS : CstG ⟨l.prog, w, K, mg, base⟩ "MOST_LEAPS" (.int 4) := ⟨_, .int 4, PySem.W.mg_of X Gn zc_MOST_LEAPS, ⟨_, rfl⟩, fun _ => .int _⟩
  have c_MOST_PLACES : CstG ⟨l.prog, w, K, mg, base⟩ "MOST_PLACES" (.int 100) := ⟨_, .int 100, PySem.W.mg_of X Gn zc_MOST_PLACES, ⟨_, rfl⟩, fun _ => .int _⟩
  have x_NoCell : ExcG ⟨l.prog, w, K, mg, base⟩ "NoCell" := ⟨C_NoCell, _, _, _, bm_NoCell, xf_NoCell, xe_NoCell, PySem.W.mg_of X Gn xa_NoCell, xk_NoCell, xb_NoCell, xt_NoCell⟩
  have x_NoRing : ExcG ⟨l.prog, w, K, mg, base⟩ "NoRing" := ⟨C_NoRing, _, _, _, bm_NoRing, xf_NoRing, xe_NoRing, PySem.W.mg_of X Gn xa_NoRing, xk_NoRing, xb_NoRing, xt_NoRing⟩
  have x_NotTwo : ExcG ⟨l.prog, w, K, mg, base⟩ "NotTwo" := ⟨C_NotTwo, _, _, _, bm_NotTwo, xf_NotTwo, xe_NotTwo, PySem.W.mg_of X Gn xa_NotTwo, xk_NotTwo, xb_NotTwo, xt_NotTwo⟩
  have F0 := L2.fun_mk (st := topS 8) l0 c0 k0
  have h_is_number : DefG ⟨l.prog, w, K, mg, base⟩ 1 "is_number" 3 d_is_number := def_g F0 (PySem.W.mg_of X Gn a0) (F0.binds (ps := ["thing", "least", "most"]) fun _ _ _ _ _ _ us hl => match us, hl with | [_, _, _], _ => rfl) fs_is_number rfl rfl (fun X T E C S => w_is_number C S b_bool b_int b_isinstance)
  have F1 := L2.fun_mk (st := topS 9) l1 c1 k1
  have h_rises : DefG ⟨l.prog, w, K, mg, base⟩ 1 "rises" 1 d_rises := def_g F1 (PySem.W.mg_of X Gn a1) (F1.binds (ps := ["some"]) fun _ _ _ _ _ _ us hl => match us, hl with | [_], _ => rfl) fs_rises rfl rfl (fun X T E C S => w_rises C S b_all b_len b_range)
  have F2 := L2.fun_mk (st := topS 10) l2 c2 k2
  have h_is_leapring : DefG ⟨l.prog, w, K, mg, base⟩ 2 "is_leapring" 1 d_is_leapring := def_g F2 (PySem.W.mg_of X Gn a2) (F2.binds (ps := ["thing"]) fun _ _ _ _ _ _ us hl => match us, hl with | [_], _ => rfl) fs_is_leapring rfl rfl (fun X T E C S => w_is_leapring C S h_is_number h_rises b_all b_isinstance b_len b_tuple c_MOST_LEAPS c_MOST_PLACES)
  have F3 := L2.fun_mk (st := topS 11) l3 c3 k3
  have h_need_ring : DefG ⟨l.prog, w, K, mg, base⟩ 3 "need_ring" 1 d_need_ring := def_g F3 (PySem.W.mg_of X Gn a3) (F3.binds (ps := ["ring"]) fun _ _ _ _ _ _ us hl => match us, hl with | [_], _ => rfl) fs_need_ring rfl rfl (fun X T E C S => w_need_ring C S h_is_leapring x_NoRing)
  have F4 := L2.fun_mk (st := topS 12) l4 c4 k4
  have h_common : DefG ⟨l.prog, w, K, mg, base⟩ 1 "common" 2 d_common := def_g F4 (PySem.W.mg_of X Gn a4) (F4.binds (ps := ["one", "other"]) fun _ _ _ _ _ _ us hl => match us, hl with | [_, _], _ => rfl) fs_common rfl rfl (fun X T E C S => w_common C S )
  have F5 := L2.fun_mk (st := topS 13) l5 c5 k5
  have h_pieces_of : DefG ⟨l.prog, w, K, mg, base⟩ 2 "pieces_of" 1 d_pieces_of := def_g F5 (PySem.W.mg_of X Gn a5) (F5.binds (ps := ["ring"]) fun _ _ _ _ _ _ us hl => match us, hl with | [_], _ => rfl) fs_pieces_of rfl rfl (fun X T E C S => w_pieces_of C S h_common)
  have F6 := L2.fun_mk (st := topS 16) l6 c6 k6
  have h_need_two_leaps : DefG ⟨l.prog, w, K, mg, base⟩ 4 "need_two_leaps" 1 d_need_two_leaps := def_g F6 (PySem.W.mg_of X Gn a6) (F6.binds (ps := ["ring"]) fun _ _ _ _ _ _ us hl => match us, hl with | [_], _ => rfl) fs_need_two_leaps rfl rfl (fun X T E C S => w_need_two_leaps C S h_need_ring b_len x_NotTwo)
  have F7 := L2.fun_mk (st := topS 17) l7 c7 k7
  have h_is_cell : DefG ⟨l.prog, w, K, mg, base⟩ 2 "is_cell" 2 d_is_cell := def_g F7 (PySem.W.mg_of X Gn a7) (F7.binds (ps := ["thing", "most"]) fun _ _ _ _ _ _ us hl => match us, hl with | [_, _], _ => rfl) fs_is_cell rfl rfl (fun X T E C S => w_is_cell C S h_is_number b_all b_isinstance b_len b_tuple)
  have F8 := L2.fun_mk (st := topS 18) l8 c8 k8
  have h_need_cell : DefG ⟨l.prog, w, K, mg, base⟩ 3 "need_cell" 1 d_need_cell := def_g F8 (PySem.W.mg_of X Gn a8) (F8.binds (ps := ["cell"]) fun _ _ _ _ _ _ us hl => match us, hl with | [_], _ => rfl) fs_need_cell rfl rfl (fun X T E C S => w_need_cell C S h_is_cell c_MOST_CELL x_NoCell)
  have F9 := L2.fun_mk (st := topS 19) l9 c9 k9
  have h_place_of : DefG ⟨l.prog, w, K, mg, base⟩ 1 "place_of" 2 d_place_of := def_g F9 (PySem.W.mg_of X Gn a9) (F9.binds (ps := ["ring", "cell"]) fun _ _ _ _ _ _ us hl => match us, hl with | [_, _], _ => rfl) fs_place_of rfl rfl (fun X T E C S => w_place_of C S )
  have F10 := L2.fun_mk (st := topS 20) l10 c10 k10
  have h_cells_of : DefG ⟨l.prog, w, K, mg, base⟩ 1 "cells_of" 1 d_cells_of := def_g F10 (PySem.W.mg_of X Gn a10) (F10.binds (ps := ["size"]) fun _ _ _ _ _ _ us hl => match us, hl with | [_], _ => rfl) fs_cells_of rfl rfl (fun X T E C S => w_cells_of C S b_abs b_range)
  have F11 := L2.fun_mk (st := topS 22) l11 c11 k11
  have h_places_many : DefG ⟨l.prog, w, K, mg, base⟩ 3 "places_many" 1 d_places_many := def_g F11 (PySem.W.mg_of X Gn a11) (F11.binds (ps := ["ring"]) fun _ _ _ _ _ _ us hl => match us, hl with | [_], _ => rfl) fs_places_many rfl rfl (fun X T E C S => w_places_many C S h_pieces_of)
  have F12 := L2.fun_mk (st := topS 23) l12 c12 k12
  have h_homes : DefG ⟨l.prog, w, K, mg, base⟩ 4 "homes" 1 d_homes := def_g F12 (PySem.W.mg_of X Gn a12) (F12.binds (ps := ["ring"]) fun _ _ _ _ _ _ us hl => match us, hl with | [_], _ => rfl) fs_homes rfl rfl (fun X T E C S => w_homes C S h_places_many h_cells_of h_place_of b_len)
  have F13 := L2.fun_mk (st := topS 24) l13 c13 k13
  have h_shape : DefG ⟨l.prog, w, K, mg, base⟩ 5 "shape" 1 d_shape := def_g F13 (PySem.W.mg_of X Gn a13) (F13.binds (ps := ["ring"]) fun _ _ _ _ _ _ us hl => match us, hl with | [_], _ => rfl) fs_shape rfl rfl (fun X T E C S => w_shape C S h_need_two_leaps h_homes b_sorted)
  have F14 := L2.fun_mk (st := topS 25) l14 c14 k14
  have h_home_of : DefG ⟨l.prog, w, K, mg, base⟩ 5 "home_of" 2 d_home_of := def_g F14 (PySem.W.mg_of X Gn a14) (F14.binds (ps := ["ring", "cell"]) fun _ _ _ _ _ _ us hl => match us, hl with | [_, _], _ => rfl) fs_home_of rfl rfl (fun X T E C S => w_home_of C S h_need_two_leaps h_need_cell h_homes h_place_of)
  have F15 := L2.fun_mk (st := topS 27) l15 c15 k15
  have h__law_cell_at : DefG ⟨l.prog, w, K, mg, base⟩ 1 "_law_cell_at" 2 d__law_cell_at := def_g F15 (PySem.W.mg_of X Gn a15) (F15.binds (ps := ["_law_script", "_law_k"]) fun _ _ _ _ _ _ us hl => match us, hl with | [_, _], _ => rfl) fs__law_cell_at rfl rfl (fun X T E C S => w__law_cell_at C S b_len)
  have F16 := L2.fun_mk (st := topS 28) l16 c16 k16
  have h__law_draw : DefG ⟨l.prog, w, K, mg, base⟩ 1 "_law_draw" 3 d__law_draw := def_g F16 (PySem.W.mg_of X Gn a16) (F16.binds (ps := ["_law_cell_here", "_law_k", "_law_bound"]) fun _ _ _ _ _ _ us hl => match us, hl with | [_, _, _], _ => rfl) fs__law_draw rfl rfl (fun X T E C S => w__law_draw C S b_range)
  have F17 := L2.fun_mk (st := topS 29) l17 c17 k17
  have h__law_beside : DefG ⟨l.prog, w, K, mg, base⟩ 1 "_law_beside" 2 d__law_beside := def_g F17 (PySem.W.mg_of X Gn a17) (F17.binds (ps := ["_law_ring", "_law_place"]) fun _ _ _ _ _ _ us hl => match us, hl with | [_, _], _ => rfl) fs__law_beside rfl rfl (fun X T E C S => w__law_beside C S b_set b_sorted)
  have F18 := L2.fun_mk (st := topS 30) l18 c18 k18
  have h__law_off : DefG ⟨l.prog, w, K, mg, base⟩ 1 "_law_off" 2 d__law_off := def_g F18 (PySem.W.mg_of X Gn a18) (F18.binds (ps := ["_law_lists", "_law_one"]) fun _ _ _ _ _ _ us hl => match us, hl with | [_, _], _ => rfl) fs__law_off rfl rfl (fun X T E C S => w__law_off C S )
  have F19 := L2.fun_mk (st := topS 31) l19 c19 k19
  have h__law_two_leaps : DefG ⟨l.prog, w, K, mg, base⟩ 2 "_law_two_leaps" 2 d__law_two_leaps := def_g F19 (PySem.W.mg_of X Gn a19) (F19.binds (ps := ["_law_cell_here", "_law_most"]) fun _ _ _ _ _ _ us hl => match us, hl with | [_, _], _ => rfl) fs__law_two_leaps rfl rfl (fun X T E C S => w__law_two_leaps C S h__law_draw b_int b_max b_min)
  have F20 := L2.fun_mk (st := topS 32) l20 c20 k20
  have h__law_lies : DefG ⟨l.prog, w, K, mg, base⟩ 1 "_law_lies" 3 d__law_lies := def_g F20 (PySem.W.mg_of X Gn a20) (F20.binds (ps := ["_law_ring", "_law_x", "_law_y"]) fun _ _ _ _ _ _ us hl => match us, hl with | [_, _, _], _ => rfl) fs__law_lies rfl rfl (fun X T E C S => w__law_lies C S )
  have F21 := L2.fun_mk (st := topS 33) l21 c21 k21
  have h__law_come : DefG ⟨l.prog, w, K, mg, base⟩ 2 "_law_come" 1 d__law_come := def_g F21 (PySem.W.mg_of X Gn a21) (F21.binds (ps := ["_law_ring"]) fun _ _ _ _ _ _ us hl => match us, hl with | [_], _ => rfl) fs__law_come rfl rfl (fun X T E C S => w__law_come C S h__law_off h__law_beside b_len b_range)
  have F22 := L2.fun_mk (st := topS 34) l22 c22 k22
  have h__law_sized : DefG ⟨l.prog, w, K, mg, base⟩ 1 "_law_sized" 1 d__law_sized := def_g F22 (PySem.W.mg_of X Gn a22) (F22.binds (ps := ["_law_size"]) fun _ _ _ _ _ _ us hl => match us, hl with | [_], _ => rfl) fs__law_sized rfl rfl (fun X T E C S => w__law_sized C S b_abs b_range)
  have F23 := L2.fun_mk (st := topS 35) l23 c23 k23
  have h__law_cell : DefG ⟨l.prog, w, K, mg, base⟩ 2 "_law_cell" 2 d__law_cell := def_g F23 (PySem.W.mg_of X Gn a23) (F23.binds (ps := ["_law_cell_here", "_law_spot"]) fun _ _ _ _ _ _ us hl => match us, hl with | [_, _], _ => rfl) fs__law_cell rfl rfl (fun X T E C S => w__law_cell C S h__law_draw)
  have F24 := L2.fun_mk (st := topS 36) l24 c24 k24
  have h__law_homes : DefG ⟨l.prog, w, K, mg, base⟩ 3 "_law_homes" 1 d__law_homes := def_g F24 (PySem.W.mg_of X Gn a24) (F24.binds (ps := ["_law_ring"]) fun _ _ _ _ _ _ us hl => match us, hl with | [_], _ => rfl) fs__law_homes rfl rfl (fun X T E C S => w__law_homes C S h__law_come h__law_sized h__law_lies b_len)
  exact def_c (T := []) l25 c25 fs_law rfl rfl ⟨rfl, by decide, by decide⟩ (fun X E C S e1 e2 e3 e4 hg => w_law C S hg h__law_cell_at h__law_two_leaps h__law_draw h__law_homes h_shape h__law_cell h__law_lies h_home_of b_len b_max b_min b_range b_repr b_sorted)
end Lk73

namespace Lk73
open PySem PySem.Spec L2 Pd Pr
section
variable {m a b : Nat}
theorem homes_v (R : Ring m [a, b]) : d_homes [.val (ringD m [a, b])] = .ok (.o (.dct (kvG cD (homeL m a b)))) := by
  obtain ⟨h1, h2, h3, h4, h5⟩ := ring_ab R
  have hm : 0 < m := by omega
  obtain ⟨N, n0, ne, n1, n2, n3, n4⟩ := home_first R
  have hg : m / gcdL m [a, b] ≤ 100 := Nat.le_trans (Nat.div_le_self ..) h5
  have ec := places_many_v R
  rw [ne]
  unfold d_homes f_homes
  refine def_rt ?_
  refine seq_nx (Γ1 := [.val (ringD m [a, b]), .own (.dct []), .un, .un]) (by simp (implicitDefEqProofs := false) (disch := omega) only [↓r_seq, ↓r_next, ↓r_if, ↓r_eif, ↓r_set, ↓r_ret, ↓r_retV, ↓r_expr, ↓r_asg, ↓r_par, ↓r_app, ↓r_ext, ↓r_sto, ↓r_or1, ↓r_or, ↓r_and1, ↓r_and, ↓r_vor1, ↓r_vor, ↓r_vand1, ↓r_vand, ↓r_not, ↓r_tru, ↓r_isB, ↓r_eC, ↓r_rd, ↓r_vl, ↓r_rV, ↓r_eV, ↓r_uV, ↓r_uVl, ↓r_sq0, ↓r_sq, ↓r_e2, ↓r_e3, ↓r_call, ↓r_user, ↓r_enot, ↓r_eneg, ↓r_tup, ↓r_lst, ↓r_sl, ↓r_noP, ↓r_aP, ↓r_iOf, ↓r_iF, ↓r_def, ↓r_ref, r_seqNx, r_seqRt, r_seqBk, r_seqCt, r_ifT, r_ifF, r_setV, r_setOt, r_setOl, r_setOd, r_setOs, r_retK, r_retVv, r_retVo, r_asgK, r_tgN, r_tgT, r_tgL, r_tgs0, r_tgs, r_parK, r_ownL, r_ownLo, r_ownD, r_ownDo, r_appK, r_appJ, r_extK, r_extJ, r_stoK, r_stoI, r_stoJ, r_stoL, r_orT, r_orF, r_andT, r_andF, r_vorK, r_vorT, r_vorF, r_vandK, r_vandT, r_vandF, r_notK, r_truK, r_truB, r_truI, r_truL, r_truT, r_truN, r_isBK, r_rdV, r_rdO, r_dV, r_dO, r_valV, r_valL, r_valD, r_rVv, r_rVo, r_rVb, r_eVv, r_uVv, r_uVo, r_uVb, r_uVlK, r_sqK, r_consK, r_opK, r_opJ, r_chK, r_chJ, r_chT, r_chF, r_clK, r_ntK, r_ngK, r_tpK, r_lsK, r_slK, r_slJ, r_slI, r_slL, r_slT, r_aPK, r_sqL, r_sqT, r_sqS, r_rtR, r_rtN, r_refO, r_refE, r_wdK, r_bAdd, r_bSub, r_bMul, r_bDiv, r_bMod, r_bPow, r_cLt, r_cLe, r_cGt, r_cGe, r_cEq, r_cNe, r_ixL, r_ixT, r_of, r_lenL, r_lenT, r_lenS, Pd.R.bind_ok, Pd.R.bind_err, Pd.R.bind_stuck, noE_ok', mul_r, div_i, mod_i, add_i, sub_i, lt_i, le_i, gt_i, ge_i, eq_i, ne_i, pow18, List.cons_append, List.nil_append, List.getElem?_cons_zero, List.getElem?_cons_succ, List.replicate_succ, List.replicate_zero, List.set_cons_zero, List.set_cons_succ, List.length_cons, List.length_nil, if_true, if_false, Bool.not_true, Bool.not_false, Bool.false_eq_true, ↓reduceIte, Nat.reduceAdd, Nat.reduceLeDiff, Nat.reduceLT, Nat.zero_add, Option.map_some, Int.cast_ofNat_Int, Int.natCast_one, Int.natCast_zero, Int.reduceBEq, Int.reduceLT, Int.reduceLE, Int.reduceAdd, Int.reduceSub, Int.reduceMul, Int.reduceNeg, Int.reduceDiv, Int.reduceMod, decide_true, decide_false]) ?_
  refine seq_nx (Γ1 := [.val (ringD m [a, b]), .own (.dct []), .val (.int 0), .un]) (by simp (implicitDefEqProofs := false) (disch := omega) only [↓r_seq, ↓r_next, ↓r_if, ↓r_eif, ↓r_set, ↓r_ret, ↓r_retV, ↓r_expr, ↓r_asg, ↓r_par, ↓r_app, ↓r_ext, ↓r_sto, ↓r_or1, ↓r_or, ↓r_and1, ↓r_and, ↓r_vor1, ↓r_vor, ↓r_vand1, ↓r_vand, ↓r_not, ↓r_tru, ↓r_isB, ↓r_eC, ↓r_rd, ↓r_vl, ↓r_rV, ↓r_eV, ↓r_uV, ↓r_uVl, ↓r_sq0, ↓r_sq, ↓r_e2, ↓r_e3, ↓r_call, ↓r_user, ↓r_enot, ↓r_eneg, ↓r_tup, ↓r_lst, ↓r_sl, ↓r_noP, ↓r_aP, ↓r_iOf, ↓r_iF, ↓r_def, ↓r_ref, r_seqNx, r_seqRt, r_seqBk, r_seqCt, r_ifT, r_ifF, r_setV, r_setOt, r_setOl, r_setOd, r_setOs, r_retK, r_retVv, r_retVo, r_asgK, r_tgN, r_tgT, r_tgL, r_tgs0, r_tgs, r_parK, r_ownL, r_ownLo, r_ownD, r_ownDo, r_appK, r_appJ, r_extK, r_extJ, r_stoK, r_stoI, r_stoJ, r_stoL, r_orT, r_orF, r_andT, r_andF, r_vorK, r_vorT, r_vorF, r_vandK, r_vandT, r_vandF, r_notK, r_truK, r_truB, r_truI, r_truL, r_truT, r_truN, r_isBK, r_rdV, r_rdO, r_dV, r_dO, r_valV, r_valL, r_valD, r_rVv, r_rVo, r_rVb, r_eVv, r_uVv, r_uVo, r_uVb, r_uVlK, r_sqK, r_consK, r_opK, r_opJ, r_chK, r_chJ, r_chT, r_chF, r_clK, r_ntK, r_ngK, r_tpK, r_lsK, r_slK, r_slJ, r_slI, r_slL, r_slT, r_aPK, r_sqL, r_sqT, r_sqS, r_rtR, r_rtN, r_refO, r_refE, r_wdK, r_bAdd, r_bSub, r_bMul, r_bDiv, r_bMod, r_bPow, r_cLt, r_cLe, r_cGt, r_cGe, r_cEq, r_cNe, r_ixL, r_ixT, r_of, r_lenL, r_lenT, r_lenS, Pd.R.bind_ok, Pd.R.bind_err, Pd.R.bind_stuck, noE_ok', mul_r, div_i, mod_i, add_i, sub_i, lt_i, le_i, gt_i, ge_i, eq_i, ne_i, pow18, List.cons_append, List.nil_append, List.getElem?_cons_zero, List.getElem?_cons_succ, List.replicate_succ, List.replicate_zero, List.set_cons_zero, List.set_cons_succ, List.length_cons, List.length_nil, if_true, if_false, Bool.not_true, Bool.not_false, Bool.false_eq_true, ↓reduceIte, Nat.reduceAdd, Nat.reduceLeDiff, Nat.reduceLT, Nat.zero_add, Option.map_some, Int.cast_ofNat_Int, Int.natCast_one, Int.natCast_zero, Int.reduceBEq, Int.reduceLT, Int.reduceLE, Int.reduceAdd, Int.reduceSub, Int.reduceMul, Int.reduceNeg, Int.reduceDiv, Int.reduceMod, decide_true, decide_false]) ?_
  have w := up_whileE (c := (isB (e2 (dCmp .Lt) (rd (eCall fLen (seqR [rVar 1]))) (rd (eUser d_places_many (seqR [uVar 0])))))) (b := (sSeq (sFor (iF (vl (eUser d_cells_of (seqR [uVar 2])))) (.nm 3) (sSeq (sIf (isB (e2 (dCmp .NotIn) (rd (eUser d_place_of (seqR [uVar 0, uVar 3]))) (rVar 1))) (sSeq (sSto 1 (vl (eVar 3)) (rd (eUser d_place_of (seqR [uVar 0, uVar 3])))) (sNext)) (sNext)) (sNext))) (sSeq (sSet false 2 (e2 (dBin .Add) (rVar 2) (rd (eC (.int 1))))) (sNext)))) (St := fun n Γ => ∃ s3, Γ = [.val (ringD m [a, b]), .own (.dct (kvG cD (colS (plC m a b) szC n))), .val (.int (n : Int)), s3]) (P := fun n => (colS (plC m a b) szC n).length < m / gcdL m [a, b]) (by
      rintro n Γ hn ⟨s3, rfl⟩
      have hl := len_kvg cD (colS (plC m a b) szC n)
      have hd : decide (((colS (plC m a b) szC n).length : Int) < ((m / gcdL m [a, b] : Nat) : Int)) = decide ((colS (plC m a b) szC n).length < m / gcdL m [a, b]) := by
        rw [Bool.eq_iff_iff, decide_eq_true_eq, decide_eq_true_eq]
        omega
      simp (implicitDefEqProofs := false) (disch := omega) only [↓r_seq, ↓r_next, ↓r_if, ↓r_eif, ↓r_set, ↓r_ret, ↓r_retV, ↓r_expr, ↓r_asg, ↓r_par, ↓r_app, ↓r_ext, ↓r_sto, ↓r_or1, ↓r_or, ↓r_and1, ↓r_and, ↓r_vor1, ↓r_vor, ↓r_vand1, ↓r_vand, ↓r_not, ↓r_tru, ↓r_isB, ↓r_eC, ↓r_rd, ↓r_vl, ↓r_rV, ↓r_eV, ↓r_uV, ↓r_uVl, ↓r_sq0, ↓r_sq, ↓r_e2, ↓r_e3, ↓r_call, ↓r_user, ↓r_enot, ↓r_eneg, ↓r_tup, ↓r_lst, ↓r_sl, ↓r_noP, ↓r_aP, ↓r_iOf, ↓r_iF, ↓r_def, ↓r_ref, r_seqNx, r_seqRt, r_seqBk, r_seqCt, r_ifT, r_ifF, r_setV, r_setOt, r_setOl, r_setOd, r_setOs, r_retK, r_retVv, r_retVo, r_asgK, r_tgN, r_tgT, r_tgL, r_tgs0, r_tgs, r_parK, r_ownL, r_ownLo, r_ownD, r_ownDo, r_appK, r_appJ, r_extK, r_extJ, r_stoK, r_stoI, r_stoJ, r_stoL, r_orT, r_orF, r_andT, r_andF, r_vorK, r_vorT, r_vorF, r_vandK, r_vandT, r_vandF, r_notK, r_truK, r_truB, r_truI, r_truL, r_truT, r_truN, r_isBK, r_rdV, r_rdO, r_dV, r_dO, r_valV, r_valL, r_valD, r_rVv, r_rVo, r_rVb, r_eVv, r_uVv, r_uVo, r_uVb, r_uVlK, r_sqK, r_consK, r_opK, r_opJ, r_chK, r_chJ, r_chT, r_chF, r_clK, r_ntK, r_ngK, r_tpK, r_lsK, r_slK, r_slJ, r_slI, r_slL, r_slT, r_aPK, r_sqL, r_sqT, r_sqS, r_rtR, r_rtN, r_refO, r_refE, r_wdK, r_bAdd, r_bSub, r_bMul, r_bDiv, r_bMod, r_bPow, r_cLt, r_cLe, r_cGt, r_cGe, r_cEq, r_cNe, r_ixL, r_ixT, r_of, r_lenL, r_lenT, r_lenS, Pd.R.bind_ok, Pd.R.bind_err, Pd.R.bind_stuck, noE_ok', mul_r, div_i, mod_i, add_i, sub_i, lt_i, le_i, gt_i, ge_i, eq_i, ne_i, pow18, List.cons_append, List.nil_append, List.getElem?_cons_zero, List.getElem?_cons_succ, List.replicate_succ, List.replicate_zero, List.set_cons_zero, List.set_cons_succ, List.length_cons, List.length_nil, if_true, if_false, Bool.not_true, Bool.not_false, Bool.false_eq_true, ↓reduceIte, Nat.reduceAdd, Nat.reduceLeDiff, Nat.reduceLT, Nat.zero_add, Option.map_some, Int.cast_ofNat_Int, Int.natCast_one, Int.natCast_zero, Int.reduceBEq, Int.reduceLT, Int.reduceLE, Int.reduceAdd, Int.reduceSub, Int.reduceMul, Int.reduceNeg, Int.reduceDiv, Int.reduceMod, decide_true, decide_false, hl, ec, hd]) (by
      rintro n Γ hn ⟨s3, rfl⟩ _
      have es := cells_v (n := n) hn
      refine go_seq' (fun Γ => ∃ s3, Γ = [.val (ringD m [a, b]), .own (.dct (kvG cD (colS (plC m a b) szC (n + 1)))), .val (.int (n : Int)), s3]) ?_ ?_
      · refine go_of (l := szC n) (φ := cD) (fun l Γ => ∃ s3, Γ = [.val (ringD m [a, b]), .own (.dct (kvG cD (colC (plC m a b) l (colS (plC m a b) szC n)))), .val (.int (n : Int)), s3]) (by simp (implicitDefEqProofs := false) (disch := omega) only [↓r_seq, ↓r_next, ↓r_if, ↓r_eif, ↓r_set, ↓r_ret, ↓r_retV, ↓r_expr, ↓r_asg, ↓r_par, ↓r_app, ↓r_ext, ↓r_sto, ↓r_or1, ↓r_or, ↓r_and1, ↓r_and, ↓r_vor1, ↓r_vor, ↓r_vand1, ↓r_vand, ↓r_not, ↓r_tru, ↓r_isB, ↓r_eC, ↓r_rd, ↓r_vl, ↓r_rV, ↓r_eV, ↓r_uV, ↓r_uVl, ↓r_sq0, ↓r_sq, ↓r_e2, ↓r_e3, ↓r_call, ↓r_user, ↓r_enot, ↓r_eneg, ↓r_tup, ↓r_lst, ↓r_sl, ↓r_noP, ↓r_aP, ↓r_iOf, ↓r_iF, ↓r_def, ↓r_ref, r_seqNx, r_seqRt, r_seqBk, r_seqCt, r_ifT, r_ifF, r_setV, r_setOt, r_setOl, r_setOd, r_setOs, r_retK, r_retVv, r_retVo, r_asgK, r_tgN, r_tgT, r_tgL, r_tgs0, r_tgs, r_parK, r_ownL, r_ownLo, r_ownD, r_ownDo, r_appK, r_appJ, r_extK, r_extJ, r_stoK, r_stoI, r_stoJ, r_stoL, r_orT, r_orF, r_andT, r_andF, r_vorK, r_vorT, r_vorF, r_vandK, r_vandT, r_vandF, r_notK, r_truK, r_truB, r_truI, r_truL, r_truT, r_truN, r_isBK, r_rdV, r_rdO, r_dV, r_dO, r_valV, r_valL, r_valD, r_rVv, r_rVo, r_rVb, r_eVv, r_uVv, r_uVo, r_uVb, r_uVlK, r_sqK, r_consK, r_opK, r_opJ, r_chK, r_chJ, r_chT, r_chF, r_clK, r_ntK, r_ngK, r_tpK, r_lsK, r_slK, r_slJ, r_slI, r_slL, r_slT, r_aPK, r_sqL, r_sqT, r_sqS, r_rtR, r_rtN, r_refO, r_refE, r_wdK, r_bAdd, r_bSub, r_bMul, r_bDiv, r_bMod, r_bPow, r_cLt, r_cLe, r_cGt, r_cGe, r_cEq, r_cNe, r_ixL, r_ixT, r_of, r_lenL, r_lenT, r_lenS, Pd.R.bind_ok, Pd.R.bind_err, Pd.R.bind_stuck, noE_ok', mul_r, div_i, mod_i, add_i, sub_i, lt_i, le_i, gt_i, ge_i, eq_i, ne_i, pow18, List.cons_append, List.nil_append, List.getElem?_cons_zero, List.getElem?_cons_succ, List.replicate_succ, List.replicate_zero, List.set_cons_zero, List.set_cons_succ, List.length_cons, List.length_nil, if_true, if_false, Bool.not_true, Bool.not_false, Bool.false_eq_true, ↓reduceIte, Nat.reduceAdd, Nat.reduceLeDiff, Nat.reduceLT, Nat.zero_add, Option.map_some, Int.cast_ofNat_Int, Int.natCast_one, Int.natCast_zero, Int.reduceBEq, Int.reduceLT, Int.reduceLE, Int.reduceAdd, Int.reduceSub, Int.reduceMul, Int.reduceNeg, Int.reduceDiv, Int.reduceMod, decide_true, decide_false, es]) ⟨s3, rfl⟩ ?_
        rintro l l' x Γ e ⟨s3, rfl⟩
        rw [colC_app]
        have hlen : (colC (plC m a b) l (colS (plC m a b) szC n)).length ≤ 100 := by
          have := colC_le (pl := plC m a b) (cs := l) (m := m) (L := colS (plC m a b) szC n) (colS_nd n) (fun q hq => colS_lt (pl := plC m a b) (cells := szC) (fun c => (plC_dvd (a := a) (b := b) hm c).1) hq) fun c _ => (plC_dvd (a := a) (b := b) hm c).1
          omega
        generalize colC (plC m a b) l (colS (plC m a b) szC n) = L at hlen ⊢
        have el : d_place_of [.val (ringD m [a, b]), .val (cD x)] = .ok (.v (.int ((plC m a b x : Nat) : Int))) := (place_v R x).trans (by rw [← plC_z hm x])
        have hni := notin_kvg cD L (plC m a b x)
        show Go _ (fun Γ => ∃ s3, Γ = [.val (ringD m [a, b]), .own (.dct (kvG cD (putC (plC m a b) L x))), .val (.int (n : Int)), s3])
        unfold putC
        by_cases g : plC m a b x ∈ L.map Prod.fst
        · rw [if_pos g]
          rw [decide_eq_true g] at hni
          exact go_seq (if_no (by simp (implicitDefEqProofs := false) (disch := omega) only [↓r_seq, ↓r_next, ↓r_if, ↓r_eif, ↓r_set, ↓r_ret, ↓r_retV, ↓r_expr, ↓r_asg, ↓r_par, ↓r_app, ↓r_ext, ↓r_sto, ↓r_or1, ↓r_or, ↓r_and1, ↓r_and, ↓r_vor1, ↓r_vor, ↓r_vand1, ↓r_vand, ↓r_not, ↓r_tru, ↓r_isB, ↓r_eC, ↓r_rd, ↓r_vl, ↓r_rV, ↓r_eV, ↓r_uV, ↓r_uVl, ↓r_sq0, ↓r_sq, ↓r_e2, ↓r_e3, ↓r_call, ↓r_user, ↓r_enot, ↓r_eneg, ↓r_tup, ↓r_lst, ↓r_sl, ↓r_noP, ↓r_aP, ↓r_iOf, ↓r_iF, ↓r_def, ↓r_ref, r_seqNx, r_seqRt, r_seqBk, r_seqCt, r_ifT, r_ifF, r_setV, r_setOt, r_setOl, r_setOd, r_setOs, r_retK, r_retVv, r_retVo, r_asgK, r_tgN, r_tgT, r_tgL, r_tgs0, r_tgs, r_parK, r_ownL, r_ownLo, r_ownD, r_ownDo, r_appK, r_appJ, r_extK, r_extJ, r_stoK, r_stoI, r_stoJ, r_stoL, r_orT, r_orF, r_andT, r_andF, r_vorK, r_vorT, r_vorF, r_vandK, r_vandT, r_vandF, r_notK, r_truK, r_truB, r_truI, r_truL, r_truT, r_truN, r_isBK, r_rdV, r_rdO, r_dV, r_dO, r_valV, r_valL, r_valD, r_rVv, r_rVo, r_rVb, r_eVv, r_uVv, r_uVo, r_uVb, r_uVlK, r_sqK, r_consK, r_opK, r_opJ, r_chK, r_chJ, r_chT, r_chF, r_clK, r_ntK, r_ngK, r_tpK, r_lsK, r_slK, r_slJ, r_slI, r_slL, r_slT, r_aPK, r_sqL, r_sqT, r_sqS, r_rtR, r_rtN, r_refO, r_refE, r_wdK, r_bAdd, r_bSub, r_bMul, r_bDiv, r_bMod, r_bPow, r_cLt, r_cLe, r_cGt, r_cGe, r_cEq, r_cNe, r_ixL, r_ixT, r_of, r_lenL, r_lenT, r_lenS, Pd.R.bind_ok, Pd.R.bind_err, Pd.R.bind_stuck, noE_ok', mul_r, div_i, mod_i, add_i, sub_i, lt_i, le_i, gt_i, ge_i, eq_i, ne_i, pow18, List.cons_append, List.nil_append, List.getElem?_cons_zero, List.getElem?_cons_succ, List.replicate_succ, List.replicate_zero, List.set_cons_zero, List.set_cons_succ, List.length_cons, List.length_nil, if_true, if_false, Bool.not_true, Bool.not_false, Bool.false_eq_true, ↓reduceIte, Nat.reduceAdd, Nat.reduceLeDiff, Nat.reduceLT, Nat.zero_add, Option.map_some, Int.cast_ofNat_Int, Int.natCast_one, Int.natCast_zero, Int.reduceBEq, Int.reduceLT, Int.reduceLE, Int.reduceAdd, Int.reduceSub, Int.reduceMul, Int.reduceNeg, Int.reduceDiv, Int.reduceMod, decide_true, decide_false, el, r_cNotIn, hni])) (go_next ⟨_, rfl⟩)
        · rw [if_neg g]
          rw [decide_eq_false g] at hni
          have hst := sto_kvg cD x g (by omega)
          exact go_seq (Γ1 := [.val (ringD m [a, b]), .own (.dct (kvG cD (L ++ [(plC m a b x, x)]))), .val (.int (n : Int)), .val (cD x)]) ((sIf_t (by simp (implicitDefEqProofs := false) (disch := omega) only [↓r_seq, ↓r_next, ↓r_if, ↓r_eif, ↓r_set, ↓r_ret, ↓r_retV, ↓r_expr, ↓r_asg, ↓r_par, ↓r_app, ↓r_ext, ↓r_sto, ↓r_or1, ↓r_or, ↓r_and1, ↓r_and, ↓r_vor1, ↓r_vor, ↓r_vand1, ↓r_vand, ↓r_not, ↓r_tru, ↓r_isB, ↓r_eC, ↓r_rd, ↓r_vl, ↓r_rV, ↓r_eV, ↓r_uV, ↓r_uVl, ↓r_sq0, ↓r_sq, ↓r_e2, ↓r_e3, ↓r_call, ↓r_user, ↓r_enot, ↓r_eneg, ↓r_tup, ↓r_lst, ↓r_sl, ↓r_noP, ↓r_aP, ↓r_iOf, ↓r_iF, ↓r_def, ↓r_ref, r_seqNx, r_seqRt, r_seqBk, r_seqCt, r_ifT, r_ifF, r_setV, r_setOt, r_setOl, r_setOd, r_setOs, r_retK, r_retVv, r_retVo, r_asgK, r_tgN, r_tgT, r_tgL, r_tgs0, r_tgs, r_parK, r_ownL, r_ownLo, r_ownD, r_ownDo, r_appK, r_appJ, r_extK, r_extJ, r_stoK, r_stoI, r_stoJ, r_stoL, r_orT, r_orF, r_andT, r_andF, r_vorK, r_vorT, r_vorF, r_vandK, r_vandT, r_vandF, r_notK, r_truK, r_truB, r_truI, r_truL, r_truT, r_truN, r_isBK, r_rdV, r_rdO, r_dV, r_dO, r_valV, r_valL, r_valD, r_rVv, r_rVo, r_rVb, r_eVv, r_uVv, r_uVo, r_uVb, r_uVlK, r_sqK, r_consK, r_opK, r_opJ, r_chK, r_chJ, r_chT, r_chF, r_clK, r_ntK, r_ngK, r_tpK, r_lsK, r_slK, r_slJ, r_slI, r_slL, r_slT, r_aPK, r_sqL, r_sqT, r_sqS, r_rtR, r_rtN, r_refO, r_refE, r_wdK, r_bAdd, r_bSub, r_bMul, r_bDiv, r_bMod, r_bPow, r_cLt, r_cLe, r_cGt, r_cGe, r_cEq, r_cNe, r_ixL, r_ixT, r_of, r_lenL, r_lenT, r_lenS, Pd.R.bind_ok, Pd.R.bind_err, Pd.R.bind_stuck, noE_ok', mul_r, div_i, mod_i, add_i, sub_i, lt_i, le_i, gt_i, ge_i, eq_i, ne_i, pow18, List.cons_append, List.nil_append, List.getElem?_cons_zero, List.getElem?_cons_succ, List.replicate_succ, List.replicate_zero, List.set_cons_zero, List.set_cons_succ, List.length_cons, List.length_nil, if_true, if_false, Bool.not_true, Bool.not_false, Bool.false_eq_true, ↓reduceIte, Nat.reduceAdd, Nat.reduceLeDiff, Nat.reduceLT, Nat.zero_add, Option.map_some, Int.cast_ofNat_Int, Int.natCast_one, Int.natCast_zero, Int.reduceBEq, Int.reduceLT, Int.reduceLE, Int.reduceAdd, Int.reduceSub, Int.reduceMul, Int.reduceNeg, Int.reduceDiv, Int.reduceMod, decide_true, decide_false, el, r_cNotIn, hni])).trans (by simp (implicitDefEqProofs := false) (disch := omega) only [↓r_seq, ↓r_next, ↓r_if, ↓r_eif, ↓r_set, ↓r_ret, ↓r_retV, ↓r_expr, ↓r_asg, ↓r_par, ↓r_app, ↓r_ext, ↓r_sto, ↓r_or1, ↓r_or, ↓r_and1, ↓r_and, ↓r_vor1, ↓r_vor, ↓r_vand1, ↓r_vand, ↓r_not, ↓r_tru, ↓r_isB, ↓r_eC, ↓r_rd, ↓r_vl, ↓r_rV, ↓r_eV, ↓r_uV, ↓r_uVl, ↓r_sq0, ↓r_sq, ↓r_e2, ↓r_e3, ↓r_call, ↓r_user, ↓r_enot, ↓r_eneg, ↓r_tup, ↓r_lst, ↓r_sl, ↓r_noP, ↓r_aP, ↓r_iOf, ↓r_iF, ↓r_def, ↓r_ref, r_seqNx, r_seqRt, r_seqBk, r_seqCt, r_ifT, r_ifF, r_setV, r_setOt, r_setOl, r_setOd, r_setOs, r_retK, r_retVv, r_retVo, r_asgK, r_tgN, r_tgT, r_tgL, r_tgs0, r_tgs, r_parK, r_ownL, r_ownLo, r_ownD, r_ownDo, r_appK, r_appJ, r_extK, r_extJ, r_stoK, r_stoI, r_stoJ, r_stoL, r_orT, r_orF, r_andT, r_andF, r_vorK, r_vorT, r_vorF, r_vandK, r_vandT, r_vandF, r_notK, r_truK, r_truB, r_truI, r_truL, r_truT, r_truN, r_isBK, r_rdV, r_rdO, r_dV, r_dO, r_valV, r_valL, r_valD, r_rVv, r_rVo, r_rVb, r_eVv, r_uVv, r_uVo, r_uVb, r_uVlK, r_sqK, r_consK, r_opK, r_opJ, r_chK, r_chJ, r_chT, r_chF, r_clK, r_ntK, r_ngK, r_tpK, r_lsK, r_slK, r_slJ, r_slI, r_slL, r_slT, r_aPK, r_sqL, r_sqT, r_sqS, r_rtR, r_rtN, r_refO, r_refE, r_wdK, r_bAdd, r_bSub, r_bMul, r_bDiv, r_bMod, r_bPow, r_cLt, r_cLe, r_cGt, r_cGe, r_cEq, r_cNe, r_ixL, r_ixT, r_of, r_lenL, r_lenT, r_lenS, Pd.R.bind_ok, Pd.R.bind_err, Pd.R.bind_stuck, noE_ok', mul_r, div_i, mod_i, add_i, sub_i, lt_i, le_i, gt_i, ge_i, eq_i, ne_i, pow18, List.cons_append, List.nil_append, List.getElem?_cons_zero, List.getElem?_cons_succ, List.replicate_succ, List.replicate_zero, List.set_cons_zero, List.set_cons_succ, List.length_cons, List.length_nil, if_true, if_false, Bool.not_true, Bool.not_false, Bool.false_eq_true, ↓reduceIte, Nat.reduceAdd, Nat.reduceLeDiff, Nat.reduceLT, Nat.zero_add, Option.map_some, Int.cast_ofNat_Int, Int.natCast_one, Int.natCast_zero, Int.reduceBEq, Int.reduceLT, Int.reduceLE, Int.reduceAdd, Int.reduceSub, Int.reduceMul, Int.reduceNeg, Int.reduceDiv, Int.reduceMod, decide_true, decide_false, el, hst])) (go_next ⟨_, rfl⟩)
      rintro Γ ⟨s3, rfl⟩
      have hn1 : (n : Int) + 1 = ((n + 1 : Nat) : Int) := by omega
      exact go_seq (Γ1 := [.val (ringD m [a, b]), .own (.dct (kvG cD (colS (plC m a b) szC (n + 1)))), .val (.int ((n + 1 : Nat) : Int)), s3]) (by simp (implicitDefEqProofs := false) (disch := omega) only [↓r_seq, ↓r_next, ↓r_if, ↓r_eif, ↓r_set, ↓r_ret, ↓r_retV, ↓r_expr, ↓r_asg, ↓r_par, ↓r_app, ↓r_ext, ↓r_sto, ↓r_or1, ↓r_or, ↓r_and1, ↓r_and, ↓r_vor1, ↓r_vor, ↓r_vand1, ↓r_vand, ↓r_not, ↓r_tru, ↓r_isB, ↓r_eC, ↓r_rd, ↓r_vl, ↓r_rV, ↓r_eV, ↓r_uV, ↓r_uVl, ↓r_sq0, ↓r_sq, ↓r_e2, ↓r_e3, ↓r_call, ↓r_user, ↓r_enot, ↓r_eneg, ↓r_tup, ↓r_lst, ↓r_sl, ↓r_noP, ↓r_aP, ↓r_iOf, ↓r_iF, ↓r_def, ↓r_ref, r_seqNx, r_seqRt, r_seqBk, r_seqCt, r_ifT, r_ifF, r_setV, r_setOt, r_setOl, r_setOd, r_setOs, r_retK, r_retVv, r_retVo, r_asgK, r_tgN, r_tgT, r_tgL, r_tgs0, r_tgs, r_parK, r_ownL, r_ownLo, r_ownD, r_ownDo, r_appK, r_appJ, r_extK, r_extJ, r_stoK, r_stoI, r_stoJ, r_stoL, r_orT, r_orF, r_andT, r_andF, r_vorK, r_vorT, r_vorF, r_vandK, r_vandT, r_vandF, r_notK, r_truK, r_truB, r_truI, r_truL, r_truT, r_truN, r_isBK, r_rdV, r_rdO, r_dV, r_dO, r_valV, r_valL, r_valD, r_rVv, r_rVo, r_rVb, r_eVv, r_uVv, r_uVo, r_uVb, r_uVlK, r_sqK, r_consK, r_opK, r_opJ, r_chK, r_chJ, r_chT, r_chF, r_clK, r_ntK, r_ngK, r_tpK, r_lsK, r_slK, r_slJ, r_slI, r_slL, r_slT, r_aPK, r_sqL, r_sqT, r_sqS, r_rtR, r_rtN, r_refO, r_refE, r_wdK, r_bAdd, r_bSub, r_bMul, r_bDiv, r_bMod, r_bPow, r_cLt, r_cLe, r_cGt, r_cGe, r_cEq, r_cNe, r_ixL, r_ixT, r_of, r_lenL, r_lenT, r_lenS, Pd.R.bind_ok, Pd.R.bind_err, Pd.R.bind_stuck, noE_ok', mul_r, div_i, mod_i, add_i, sub_i, lt_i, le_i, gt_i, ge_i, eq_i, ne_i, pow18, List.cons_append, List.nil_append, List.getElem?_cons_zero, List.getElem?_cons_succ, List.replicate_succ, List.replicate_zero, List.set_cons_zero, List.set_cons_succ, List.length_cons, List.length_nil, if_true, if_false, Bool.not_true, Bool.not_false, Bool.false_eq_true, ↓reduceIte, Nat.reduceAdd, Nat.reduceLeDiff, Nat.reduceLT, Nat.zero_add, Option.map_some, Int.cast_ofNat_Int, Int.natCast_one, Int.natCast_zero, Int.reduceBEq, Int.reduceLT, Int.reduceLE, Int.reduceAdd, Int.reduceSub, Int.reduceMul, Int.reduceNeg, Int.reduceDiv, Int.reduceMod, decide_true, decide_false, hn1]) (go_next ⟨_, rfl⟩)) N 0 whN [.val (ringD m [a, b]), .own (.dct []), .val (.int 0), .un] (by unfold whN; omega) (by omega) ⟨_, rfl⟩ (by rw [Nat.zero_add]; exact n1) (fun i hi => by rw [Nat.zero_add]; exact n2 i hi)
  rw [Nat.zero_add] at w
  obtain ⟨_, e, s3, rfl⟩ := w
  refine seq_nx e ?_
  simp (implicitDefEqProofs := false) (disch := omega) only [↓r_seq, ↓r_next, ↓r_if, ↓r_eif, ↓r_set, ↓r_ret, ↓r_retV, ↓r_expr, ↓r_asg, ↓r_par, ↓r_app, ↓r_ext, ↓r_sto, ↓r_or1, ↓r_or, ↓r_and1, ↓r_and, ↓r_vor1, ↓r_vor, ↓r_vand1, ↓r_vand, ↓r_not, ↓r_tru, ↓r_isB, ↓r_eC, ↓r_rd, ↓r_vl, ↓r_rV, ↓r_eV, ↓r_uV, ↓r_uVl, ↓r_sq0, ↓r_sq, ↓r_e2, ↓r_e3, ↓r_call, ↓r_user, ↓r_enot, ↓r_eneg, ↓r_tup, ↓r_lst, ↓r_sl, ↓r_noP, ↓r_aP, ↓r_iOf, ↓r_iF, ↓r_def, ↓r_ref, r_seqNx, r_seqRt, r_seqBk, r_seqCt, r_ifT, r_ifF, r_setV, r_setOt, r_setOl, r_setOd, r_setOs, r_retK, r_retVv, r_retVo, r_asgK, r_tgN, r_tgT, r_tgL, r_tgs0, r_tgs, r_parK, r_ownL, r_ownLo, r_ownD, r_ownDo, r_appK, r_appJ, r_extK, r_extJ, r_stoK, r_stoI, r_stoJ, r_stoL, r_orT, r_orF, r_andT, r_andF, r_vorK, r_vorT, r_vorF, r_vandK, r_vandT, r_vandF, r_notK, r_truK, r_truB, r_truI, r_truL, r_truT, r_truN, r_isBK, r_rdV, r_rdO, r_dV, r_dO, r_valV, r_valL, r_valD, r_rVv, r_rVo, r_rVb, r_eVv, r_uVv, r_uVo, r_uVb, r_uVlK, r_sqK, r_consK, r_opK, r_opJ, r_chK, r_chJ, r_chT, r_chF, r_clK, r_ntK, r_ngK, r_tpK, r_lsK, r_slK, r_slJ, r_slI, r_slL, r_slT, r_aPK, r_sqL, r_sqT, r_sqS, r_rtR, r_rtN, r_refO, r_refE, r_wdK, r_bAdd, r_bSub, r_bMul, r_bDiv, r_bMod, r_bPow, r_cLt, r_cLe, r_cGt, r_cGe, r_cEq, r_cNe, r_ixL, r_ixT, r_of, r_lenL, r_lenT, r_lenS, Pd.R.bind_ok, Pd.R.bind_err, Pd.R.bind_stuck, noE_ok', mul_r, div_i, mod_i, add_i, sub_i, lt_i, le_i, gt_i, ge_i, eq_i, ne_i, pow18, List.cons_append, List.nil_append, List.getElem?_cons_zero, List.getElem?_cons_succ, List.replicate_succ, List.replicate_zero, List.set_cons_zero, List.set_cons_succ, List.length_cons, List.length_nil, if_true, if_false, Bool.not_true, Bool.not_false, Bool.false_eq_true, ↓reduceIte, Nat.reduceAdd, Nat.reduceLeDiff, Nat.reduceLT, Nat.zero_add, Option.map_some, Int.cast_ofNat_Int, Int.natCast_one, Int.natCast_zero, Int.reduceBEq, Int.reduceLT, Int.reduceLE, Int.reduceAdd, Int.reduceSub, Int.reduceMul, Int.reduceNeg, Int.reduceDiv, Int.reduceMod, decide_true, decide_false]
def shpL (m a b : Nat) : List Cel := sortP ((homeL m a b).map (·.2))
theorem home_facts (R : Ring m [a, b]) : 0 < (homeL m a b).length ∧ (homeL m a b).length ≤ 100 ∧ ((homeL m a b).map Prod.fst).Nodup ∧ (∀ p ∈ homeL m a b, p.2.1.natAbs ≤ 201 ∧ p.2.2.natAbs ≤ 201) ∧ ∀ c, ∃ d, (plC m a b c, d) ∈ homeL m a b := by
  obtain ⟨h1, h2, h3, h4, h5⟩ := ring_ab R
  have hm : 0 < m := by omega
  obtain ⟨N, n0, ne, n1, n2, n3, n4⟩ := home_first R
  have hg0 : 0 < m / gcdL m [a, b] := Nat.div_pos (gcdL_le [a, b] m hm).2 (gcdL_le [a, b] m hm).1
  have hg : m / gcdL m [a, b] ≤ 100 := Nat.le_trans (Nat.div_le_self ..) h5
  have := n3 N
  rw [ne]
  refine ⟨by omega, by omega, colS_nd N, fun p hp => ?_, fun c => ?_⟩
  · obtain ⟨i, hi, hc, _⟩ := colS_mem (q := p.1) (d := p.2) hp
    have := mem_sz.mp hc
    omega
  · have := (n4 (plC m a b c)).mpr (plC_dvd hm c)
    obtain ⟨⟨q, d⟩, hd, e⟩ := List.mem_map.mp this
    have e : q = plC m a b c := e
    subst e
    exact ⟨d, hd⟩
theorem home_pairs (m a b : Nat) : (kvG cD (homeL m a b)).map (·.2) = ((homeL m a b).map (·.2)).map pairD := by
  unfold kvG
  rw [List.map_map, List.map_map]
  rfl
theorem shape_v (R : Ring m [a, b]) : d_shape [.val (ringD m [a, b])] = .ok (.o (.lst ((shpL m a b).map pairD))) := by
  have en := need_two_v R
  have eh := homes_v R
  obtain ⟨f1, f2, f3, f4, f5⟩ := home_facts R
  have hk := intKB_kvg cD f1
  have hs : fSortV (.dct (kvG cD (homeL m a b))) = some (.o (.lst ((shpL m a b).map pairD))) := by
    show (if intKB (kvG cD (homeL m a b)) = true then (pairsOf ((kvG cD (homeL m a b)).map (·.2))).map fun ps => O.o (.lst ((sortP ps).map pairD)) else none) = _
    rw [if_pos hk, home_pairs, pairsOf_map]
    rfl
  unfold d_shape f_shape
  refine def_rt ?_
  refine seq_nx (Γ1 := [.val (ringD m [a, b])]) (by simp (implicitDefEqProofs := false) (disch := omega) only [↓r_seq, ↓r_next, ↓r_if, ↓r_eif, ↓r_set, ↓r_ret, ↓r_retV, ↓r_expr, ↓r_asg, ↓r_par, ↓r_app, ↓r_ext, ↓r_sto, ↓r_or1, ↓r_or, ↓r_and1, ↓r_and, ↓r_vor1, ↓r_vor, ↓r_vand1, ↓r_vand, ↓r_not, ↓r_tru, ↓r_isB, ↓r_eC, ↓r_rd, ↓r_vl, ↓r_rV, ↓r_eV, ↓r_uV, ↓r_uVl, ↓r_sq0, ↓r_sq, ↓r_e2, ↓r_e3, ↓r_call, ↓r_user, ↓r_enot, ↓r_eneg, ↓r_tup, ↓r_lst, ↓r_sl, ↓r_noP, ↓r_aP, ↓r_iOf, ↓r_iF, ↓r_def, ↓r_ref, r_seqNx, r_seqRt, r_seqBk, r_seqCt, r_ifT, r_ifF, r_setV, r_setOt, r_setOl, r_setOd, r_setOs, r_retK, r_retVv, r_retVo, r_asgK, r_tgN, r_tgT, r_tgL, r_tgs0, r_tgs, r_parK, r_ownL, r_ownLo, r_ownD, r_ownDo, r_appK, r_appJ, r_extK, r_extJ, r_stoK, r_stoI, r_stoJ, r_stoL, r_orT, r_orF, r_andT, r_andF, r_vorK, r_vorT, r_vorF, r_vandK, r_vandT, r_vandF, r_notK, r_truK, r_truB, r_truI, r_truL, r_truT, r_truN, r_isBK, r_rdV, r_rdO, r_dV, r_dO, r_valV, r_valL, r_valD, r_rVv, r_rVo, r_rVb, r_eVv, r_uVv, r_uVo, r_uVb, r_uVlK, r_sqK, r_consK, r_opK, r_opJ, r_chK, r_chJ, r_chT, r_chF, r_clK, r_ntK, r_ngK, r_tpK, r_lsK, r_slK, r_slJ, r_slI, r_slL, r_slT, r_aPK, r_sqL, r_sqT, r_sqS, r_rtR, r_rtN, r_refO, r_refE, r_wdK, r_bAdd, r_bSub, r_bMul, r_bDiv, r_bMod, r_bPow, r_cLt, r_cLe, r_cGt, r_cGe, r_cEq, r_cNe, r_ixL, r_ixT, r_of, r_lenL, r_lenT, r_lenS, Pd.R.bind_ok, Pd.R.bind_err, Pd.R.bind_stuck, noE_ok', mul_r, div_i, mod_i, add_i, sub_i, lt_i, le_i, gt_i, ge_i, eq_i, ne_i, pow18, List.cons_append, List.nil_append, List.getElem?_cons_zero, List.getElem?_cons_succ, List.replicate_succ, List.replicate_zero, List.set_cons_zero, List.set_cons_succ, List.length_cons, List.length_nil, if_true, if_false, Bool.not_true, Bool.not_false, Bool.false_eq_true, ↓reduceIte, Nat.reduceAdd, Nat.reduceLeDiff, Nat.reduceLT, Nat.zero_add, Option.map_some, Int.cast_ofNat_Int, Int.natCast_one, Int.natCast_zero, Int.reduceBEq, Int.reduceLT, Int.reduceLE, Int.reduceAdd, Int.reduceSub, Int.reduceMul, Int.reduceNeg, Int.reduceDiv, Int.reduceMod, decide_true, decide_false, en]) ?_
  simp (implicitDefEqProofs := false) (disch := omega) only [↓r_seq, ↓r_next, ↓r_if, ↓r_eif, ↓r_set, ↓r_ret, ↓r_retV, ↓r_expr, ↓r_asg, ↓r_par, ↓r_app, ↓r_ext, ↓r_sto, ↓r_or1, ↓r_or, ↓r_and1, ↓r_and, ↓r_vor1, ↓r_vor, ↓r_vand1, ↓r_vand, ↓r_not, ↓r_tru, ↓r_isB, ↓r_eC, ↓r_rd, ↓r_vl, ↓r_rV, ↓r_eV, ↓r_uV, ↓r_uVl, ↓r_sq0, ↓r_sq, ↓r_e2, ↓r_e3, ↓r_call, ↓r_user, ↓r_enot, ↓r_eneg, ↓r_tup, ↓r_lst, ↓r_sl, ↓r_noP, ↓r_aP, ↓r_iOf, ↓r_iF, ↓r_def, ↓r_ref, r_seqNx, r_seqRt, r_seqBk, r_seqCt, r_ifT, r_ifF, r_setV, r_setOt, r_setOl, r_setOd, r_setOs, r_retK, r_retVv, r_retVo, r_asgK, r_tgN, r_tgT, r_tgL, r_tgs0, r_tgs, r_parK, r_ownL, r_ownLo, r_ownD, r_ownDo, r_appK, r_appJ, r_extK, r_extJ, r_stoK, r_stoI, r_stoJ, r_stoL, r_orT, r_orF, r_andT, r_andF, r_vorK, r_vorT, r_vorF, r_vandK, r_vandT, r_vandF, r_notK, r_truK, r_truB, r_truI, r_truL, r_truT, r_truN, r_isBK, r_rdV, r_rdO, r_dV, r_dO, r_valV, r_valL, r_valD, r_rVv, r_rVo, r_rVb, r_eVv, r_uVv, r_uVo, r_uVb, r_uVlK, r_sqK, r_consK, r_opK, r_opJ, r_chK, r_chJ, r_chT, r_chF, r_clK, r_ntK, r_ngK, r_tpK, r_lsK, r_slK, r_slJ, r_slI, r_slL, r_slT, r_aPK, r_sqL, r_sqT, r_sqS, r_rtR, r_rtN, r_refO, r_refE, r_wdK, r_bAdd, r_bSub, r_bMul, r_bDiv, r_bMod, r_bPow, r_cLt, r_cLe, r_cGt, r_cGe, r_cEq, r_cNe, r_ixL, r_ixT, r_of, r_lenL, r_lenT, r_lenS, Pd.R.bind_ok, Pd.R.bind_err, Pd.R.bind_stuck, noE_ok', mul_r, div_i, mod_i, add_i, sub_i, lt_i, le_i, gt_i, ge_i, eq_i, ne_i, pow18, List.cons_append, List.nil_append, List.getElem?_cons_zero, List.getElem?_cons_succ, List.replicate_succ, List.replicate_zero, List.set_cons_zero, List.set_cons_succ, List.length_cons, List.length_nil, if_true, if_false, Bool.not_true, Bool.not_false, Bool.false_eq_true, ↓reduceIte, Nat.reduceAdd, Nat.reduceLeDiff, Nat.reduceLT, Nat.zero_add, Option.map_some, Int.cast_ofNat_Int, Int.natCast_one, Int.natCast_zero, Int.reduceBEq, Int.reduceLT, Int.reduceLE, Int.reduceAdd, Int.reduceSub, Int.reduceMul, Int.reduceNeg, Int.reduceDiv, Int.reduceMod, decide_true, decide_false, r_sortV, eh, hs]
theorem shp_rp (R : Ring m [a, b]) : rpD (.lst ((shpL m a b).map pairD)) ∧ (shpL m a b).length ≤ 100 := by
  obtain ⟨f1, f2, f3, f4, f5⟩ := home_facts R
  have hp := sortP_perm ((homeL m a b).map (·.2))
  have hl : (shpL m a b).length ≤ 100 := by
    unfold shpL
    rw [hp.length_eq, List.length_map]
    exact f2
  refine ⟨rp_cels (l := shpL m a b) (by omega) fun c hc => ?_, hl⟩
  obtain ⟨p, hp', rfl⟩ := List.mem_map.mp (hp.mem_iff.mp hc)
  have := f4 p hp'
  have h2 : (201 : Nat) < 2 ^ 200 := by decide
  omega
def hmD (c d : Cel) : D := .tup [cD d, .tup [.int (c.1 - d.1), .int (c.2 - d.2)]]
theorem home_of_v (R : Ring m [a, b]) {c d : Cel} (h1 : -999999999999 ≤ c.1) (h2 : c.1 ≤ 999999999999) (h3 : -999999999999 ≤ c.2) (h4 : c.2 ≤ 999999999999) (hd : (plC m a b c, d) ∈ homeL m a b) : d_home_of [.val (ringD m [a, b]), .val (cD c)] = .ok (.v (hmD c d)) := by
  have en := need_two_v R
  have hm : 0 < m := by have := R.m3; omega
  have ek := (need_cell_v (d := cD c) rfl).trans (if_pos (isCel_c h1 h2 h3 h4))
  have eh := homes_v R
  obtain ⟨f1, f2, f3, f4, f5⟩ := home_facts R
  have el : d_place_of [.val (ringD m [a, b]), .val (cD c)] = .ok (.v (.int ((plC m a b c : Nat) : Int))) := (place_v R c).trans (by rw [← plC_z hm c])
  have hix := ix_dct (kvg_int cD (homeL m a b)) ((plC m a b c : Nat) : Int) (get_kvg cD f3 hd)
  have c0 : ∀ e : Cel, dIx (cD e) (.int 0) = some (.v (.int e.1)) := fun _ => rfl
  have c1 : ∀ e : Cel, dIx (cD e) (.int 1) = some (.v (.int e.2)) := fun _ => rfl
  unfold d_home_of f_home_of
  refine def_rt ?_
  refine seq_nx (Γ1 := [.val (ringD m [a, b]), .val (cD c), .un]) (by simp (implicitDefEqProofs := false) (disch := omega) only [↓r_seq, ↓r_next, ↓r_if, ↓r_eif, ↓r_set, ↓r_ret, ↓r_retV, ↓r_expr, ↓r_asg, ↓r_par, ↓r_app, ↓r_ext, ↓r_sto, ↓r_or1, ↓r_or, ↓r_and1, ↓r_and, ↓r_vor1, ↓r_vor, ↓r_vand1, ↓r_vand, ↓r_not, ↓r_tru, ↓r_isB, ↓r_eC, ↓r_rd, ↓r_vl, ↓r_rV, ↓r_eV, ↓r_uV, ↓r_uVl, ↓r_sq0, ↓r_sq, ↓r_e2, ↓r_e3, ↓r_call, ↓r_user, ↓r_enot, ↓r_eneg, ↓r_tup, ↓r_lst, ↓r_sl, ↓r_noP, ↓r_aP, ↓r_iOf, ↓r_iF, ↓r_def, ↓r_ref, r_seqNx, r_seqRt, r_seqBk, r_seqCt, r_ifT, r_ifF, r_setV, r_setOt, r_setOl, r_setOd, r_setOs, r_retK, r_retVv, r_retVo, r_asgK, r_tgN, r_tgT, r_tgL, r_tgs0, r_tgs, r_parK, r_ownL, r_ownLo, r_ownD, r_ownDo, r_appK, r_appJ, r_extK, r_extJ, r_stoK, r_stoI, r_stoJ, r_stoL, r_orT, r_orF, r_andT, r_andF, r_vorK, r_vorT, r_vorF, r_vandK, r_vandT, r_vandF, r_notK, r_truK, r_truB, r_truI, r_truL, r_truT, r_truN, r_isBK, r_rdV, r_rdO, r_dV, r_dO, r_valV, r_valL, r_valD, r_rVv, r_rVo, r_rVb, r_eVv, r_uVv, r_uVo, r_uVb, r_uVlK, r_sqK, r_consK, r_opK, r_opJ, r_chK, r_chJ, r_chT, r_chF, r_clK, r_ntK, r_ngK, r_tpK, r_lsK, r_slK, r_slJ, r_slI, r_slL, r_slT, r_aPK, r_sqL, r_sqT, r_sqS, r_rtR, r_rtN, r_refO, r_refE, r_wdK, r_bAdd, r_bSub, r_bMul, r_bDiv, r_bMod, r_bPow, r_cLt, r_cLe, r_cGt, r_cGe, r_cEq, r_cNe, r_ixL, r_ixT, r_of, r_lenL, r_lenT, r_lenS, Pd.R.bind_ok, Pd.R.bind_err, Pd.R.bind_stuck, noE_ok', mul_r, div_i, mod_i, add_i, sub_i, lt_i, le_i, gt_i, ge_i, eq_i, ne_i, pow18, List.cons_append, List.nil_append, List.getElem?_cons_zero, List.getElem?_cons_succ, List.replicate_succ, List.replicate_zero, List.set_cons_zero, List.set_cons_succ, List.length_cons, List.length_nil, if_true, if_false, Bool.not_true, Bool.not_false, Bool.false_eq_true, ↓reduceIte, Nat.reduceAdd, Nat.reduceLeDiff, Nat.reduceLT, Nat.zero_add, Option.map_some, Int.cast_ofNat_Int, Int.natCast_one, Int.natCast_zero, Int.reduceBEq, Int.reduceLT, Int.reduceLE, Int.reduceAdd, Int.reduceSub, Int.reduceMul, Int.reduceNeg, Int.reduceDiv, Int.reduceMod, decide_true, decide_false, en]) ?_
  refine seq_nx (Γ1 := [.val (ringD m [a, b]), .val (cD c), .un]) (by simp (implicitDefEqProofs := false) (disch := omega) only [↓r_seq, ↓r_next, ↓r_if, ↓r_eif, ↓r_set, ↓r_ret, ↓r_retV, ↓r_expr, ↓r_asg, ↓r_par, ↓r_app, ↓r_ext, ↓r_sto, ↓r_or1, ↓r_or, ↓r_and1, ↓r_and, ↓r_vor1, ↓r_vor, ↓r_vand1, ↓r_vand, ↓r_not, ↓r_tru, ↓r_isB, ↓r_eC, ↓r_rd, ↓r_vl, ↓r_rV, ↓r_eV, ↓r_uV, ↓r_uVl, ↓r_sq0, ↓r_sq, ↓r_e2, ↓r_e3, ↓r_call, ↓r_user, ↓r_enot, ↓r_eneg, ↓r_tup, ↓r_lst, ↓r_sl, ↓r_noP, ↓r_aP, ↓r_iOf, ↓r_iF, ↓r_def, ↓r_ref, r_seqNx, r_seqRt, r_seqBk, r_seqCt, r_ifT, r_ifF, r_setV, r_setOt, r_setOl, r_setOd, r_setOs, r_retK, r_retVv, r_retVo, r_asgK, r_tgN, r_tgT, r_tgL, r_tgs0, r_tgs, r_parK, r_ownL, r_ownLo, r_ownD, r_ownDo, r_appK, r_appJ, r_extK, r_extJ, r_stoK, r_stoI, r_stoJ, r_stoL, r_orT, r_orF, r_andT, r_andF, r_vorK, r_vorT, r_vorF, r_vandK, r_vandT, r_vandF, r_notK, r_truK, r_truB, r_truI, r_truL, r_truT, r_truN, r_isBK, r_rdV, r_rdO, r_dV, r_dO, r_valV, r_valL, r_valD, r_rVv, r_rVo, r_rVb, r_eVv, r_uVv, r_uVo, r_uVb, r_uVlK, r_sqK, r_consK, r_opK, r_opJ, r_chK, r_chJ, r_chT, r_chF, r_clK, r_ntK, r_ngK, r_tpK, r_lsK, r_slK, r_slJ, r_slI, r_slL, r_slT, r_aPK, r_sqL, r_sqT, r_sqS, r_rtR, r_rtN, r_refO, r_refE, r_wdK, r_bAdd, r_bSub, r_bMul, r_bDiv, r_bMod, r_bPow, r_cLt, r_cLe, r_cGt, r_cGe, r_cEq, r_cNe, r_ixL, r_ixT, r_of, r_lenL, r_lenT, r_lenS, Pd.R.bind_ok, Pd.R.bind_err, Pd.R.bind_stuck, noE_ok', mul_r, div_i, mod_i, add_i, sub_i, lt_i, le_i, gt_i, ge_i, eq_i, ne_i, pow18, List.cons_append, List.nil_append, List.getElem?_cons_zero, List.getElem?_cons_succ, List.replicate_succ, List.replicate_zero, List.set_cons_zero, List.set_cons_succ, List.length_cons, List.length_nil, if_true, if_false, Bool.not_true, Bool.not_false, Bool.false_eq_true, ↓reduceIte, Nat.reduceAdd, Nat.reduceLeDiff, Nat.reduceLT, Nat.zero_add, Option.map_some, Int.cast_ofNat_Int, Int.natCast_one, Int.natCast_zero, Int.reduceBEq, Int.reduceLT, Int.reduceLE, Int.reduceAdd, Int.reduceSub, Int.reduceMul, Int.reduceNeg, Int.reduceDiv, Int.reduceMod, decide_true, decide_false, ek]) ?_
  refine seq_nx (Γ1 := [.val (ringD m [a, b]), .val (cD c), .val (cD d)]) (by simp (implicitDefEqProofs := false) (disch := omega) only [↓r_seq, ↓r_next, ↓r_if, ↓r_eif, ↓r_set, ↓r_ret, ↓r_retV, ↓r_expr, ↓r_asg, ↓r_par, ↓r_app, ↓r_ext, ↓r_sto, ↓r_or1, ↓r_or, ↓r_and1, ↓r_and, ↓r_vor1, ↓r_vor, ↓r_vand1, ↓r_vand, ↓r_not, ↓r_tru, ↓r_isB, ↓r_eC, ↓r_rd, ↓r_vl, ↓r_rV, ↓r_eV, ↓r_uV, ↓r_uVl, ↓r_sq0, ↓r_sq, ↓r_e2, ↓r_e3, ↓r_call, ↓r_user, ↓r_enot, ↓r_eneg, ↓r_tup, ↓r_lst, ↓r_sl, ↓r_noP, ↓r_aP, ↓r_iOf, ↓r_iF, ↓r_def, ↓r_ref, r_seqNx, r_seqRt, r_seqBk, r_seqCt, r_ifT, r_ifF, r_setV, r_setOt, r_setOl, r_setOd, r_setOs, r_retK, r_retVv, r_retVo, r_asgK, r_tgN, r_tgT, r_tgL, r_tgs0, r_tgs, r_parK, r_ownL, r_ownLo, r_ownD, r_ownDo, r_appK, r_appJ, r_extK, r_extJ, r_stoK, r_stoI, r_stoJ, r_stoL, r_orT, r_orF, r_andT, r_andF, r_vorK, r_vorT, r_vorF, r_vandK, r_vandT, r_vandF, r_notK, r_truK, r_truB, r_truI, r_truL, r_truT, r_truN, r_isBK, r_rdV, r_rdO, r_dV, r_dO, r_valV, r_valL, r_valD, r_rVv, r_rVo, r_rVb, r_eVv, r_uVv, r_uVo, r_uVb, r_uVlK, r_sqK, r_consK, r_opK, r_opJ, r_chK, r_chJ, r_chT, r_chF, r_clK, r_ntK, r_ngK, r_tpK, r_lsK, r_slK, r_slJ, r_slI, r_slL, r_slT, r_aPK, r_sqL, r_sqT, r_sqS, r_rtR, r_rtN, r_refO, r_refE, r_wdK, r_bAdd, r_bSub, r_bMul, r_bDiv, r_bMod, r_bPow, r_cLt, r_cLe, r_cGt, r_cGe, r_cEq, r_cNe, r_ixL, r_ixT, r_of, r_lenL, r_lenT, r_lenS, Pd.R.bind_ok, Pd.R.bind_err, Pd.R.bind_stuck, noE_ok', mul_r, div_i, mod_i, add_i, sub_i, lt_i, le_i, gt_i, ge_i, eq_i, ne_i, pow18, List.cons_append, List.nil_append, List.getElem?_cons_zero, List.getElem?_cons_succ, List.replicate_succ, List.replicate_zero, List.set_cons_zero, List.set_cons_succ, List.length_cons, List.length_nil, if_true, if_false, Bool.not_true, Bool.not_false, Bool.false_eq_true, ↓reduceIte, Nat.reduceAdd, Nat.reduceLeDiff, Nat.reduceLT, Nat.zero_add, Option.map_some, Int.cast_ofNat_Int, Int.natCast_one, Int.natCast_zero, Int.reduceBEq, Int.reduceLT, Int.reduceLE, Int.reduceAdd, Int.reduceSub, Int.reduceMul, Int.reduceNeg, Int.reduceDiv, Int.reduceMod, decide_true, decide_false, eh, el, hix]) ?_
  simp (implicitDefEqProofs := false) (disch := omega) only [↓r_seq, ↓r_next, ↓r_if, ↓r_eif, ↓r_set, ↓r_ret, ↓r_retV, ↓r_expr, ↓r_asg, ↓r_par, ↓r_app, ↓r_ext, ↓r_sto, ↓r_or1, ↓r_or, ↓r_and1, ↓r_and, ↓r_vor1, ↓r_vor, ↓r_vand1, ↓r_vand, ↓r_not, ↓r_tru, ↓r_isB, ↓r_eC, ↓r_rd, ↓r_vl, ↓r_rV, ↓r_eV, ↓r_uV, ↓r_uVl, ↓r_sq0, ↓r_sq, ↓r_e2, ↓r_e3, ↓r_call, ↓r_user, ↓r_enot, ↓r_eneg, ↓r_tup, ↓r_lst, ↓r_sl, ↓r_noP, ↓r_aP, ↓r_iOf, ↓r_iF, ↓r_def, ↓r_ref, r_seqNx, r_seqRt, r_seqBk, r_seqCt, r_ifT, r_ifF, r_setV, r_setOt, r_setOl, r_setOd, r_setOs, r_retK, r_retVv, r_retVo, r_asgK, r_tgN, r_tgT, r_tgL, r_tgs0, r_tgs, r_parK, r_ownL, r_ownLo, r_ownD, r_ownDo, r_appK, r_appJ, r_extK, r_extJ, r_stoK, r_stoI, r_stoJ, r_stoL, r_orT, r_orF, r_andT, r_andF, r_vorK, r_vorT, r_vorF, r_vandK, r_vandT, r_vandF, r_notK, r_truK, r_truB, r_truI, r_truL, r_truT, r_truN, r_isBK, r_rdV, r_rdO, r_dV, r_dO, r_valV, r_valL, r_valD, r_rVv, r_rVo, r_rVb, r_eVv, r_uVv, r_uVo, r_uVb, r_uVlK, r_sqK, r_consK, r_opK, r_opJ, r_chK, r_chJ, r_chT, r_chF, r_clK, r_ntK, r_ngK, r_tpK, r_lsK, r_slK, r_slJ, r_slI, r_slL, r_slT, r_aPK, r_sqL, r_sqT, r_sqS, r_rtR, r_rtN, r_refO, r_refE, r_wdK, r_bAdd, r_bSub, r_bMul, r_bDiv, r_bMod, r_bPow, r_cLt, r_cLe, r_cGt, r_cGe, r_cEq, r_cNe, r_ixL, r_ixT, r_of, r_lenL, r_lenT, r_lenS, Pd.R.bind_ok, Pd.R.bind_err, Pd.R.bind_stuck, noE_ok', mul_r, div_i, mod_i, add_i, sub_i, lt_i, le_i, gt_i, ge_i, eq_i, ne_i, pow18, List.cons_append, List.nil_append, List.getElem?_cons_zero, List.getElem?_cons_succ, List.replicate_succ, List.replicate_zero, List.set_cons_zero, List.set_cons_succ, List.length_cons, List.length_nil, if_true, if_false, Bool.not_true, Bool.not_false, Bool.false_eq_true, ↓reduceIte, Nat.reduceAdd, Nat.reduceLeDiff, Nat.reduceLT, Nat.zero_add, Option.map_some, Int.cast_ofNat_Int, Int.natCast_one, Int.natCast_zero, Int.reduceBEq, Int.reduceLT, Int.reduceLE, Int.reduceAdd, Int.reduceSub, Int.reduceMul, Int.reduceNeg, Int.reduceDiv, Int.reduceMod, decide_true, decide_false, c0, c1]
  rfl
theorem hm_rp {c d : Cel} (h1 : -999999999999 ≤ c.1) (h2 : c.1 ≤ 999999999999) (h3 : -999999999999 ≤ c.2) (h4 : c.2 ≤ 999999999999) (hd : d.1.natAbs ≤ 201 ∧ d.2.natAbs ≤ 201) : rpD (hmD c d) := by
  have hb : (10000000000000 : Nat) < 2 ^ 200 := by decide
  refine rp_tup (fun e he => ?_) (by simp)
  simp only [List.mem_cons, List.not_mem_nil, or_false] at he
  rcases he with rfl | rfl
  · refine mid_tup (fun e he => ?_) (by simp)
    simp only [List.mem_cons, List.not_mem_nil, or_false] at he
    rcases he with rfl | rfl
    · exact fl_small (by omega) (by omega)
    · exact fl_small (by omega) (by omega)
  · refine mid_tup (fun e he => ?_) (by simp)
    simp only [List.mem_cons, List.not_mem_nil, or_false] at he
    rcases he with rfl | rfl
    · exact fl_int (Nat.lt_of_le_of_lt (show _ ≤ 10000000000000 by omega) hb)
    · exact fl_int (Nat.lt_of_le_of_lt (show _ ≤ 10000000000000 by omega) hb)
end
theorem good (ns : List Int) (hn : ns.length ≤ 63) : d_law [.val (.scr ns)] = .ok (.v (.bl true)) := by
  unfold d_law f_law
  refine def_rt ?_
  obtain ⟨n, en⟩ := head_v ns (K := 5) (by omega) (by omega) (List.replicate 12 .un)
  refine seq_go (fun Γ => ∃ s1 s2 s3 s4 s5 s6 s7 s8 s9 s10 s11 s12, Γ = [.val (.scr ns), s1, s2, s3, s4, s5, s6, s7, s8, s9, s10, s11, s12]) (go_for en ⟨_, _, _, _, _, _, _, _, _, _, _, _, rfl⟩ ?_) ?_
  · rintro Γ d hd ⟨s1, s2, s3, s4, s5, s6, s7, s8, s9, s10, s11, s12, rfl⟩
    obtain ⟨j, hj, rfl⟩ := mem_nD.mp hd
    obtain ⟨c, hc⟩ := cell_i ns j
    obtain ⟨r0, l0, h0⟩ := draw_i c (k := 8) (b := 3) (by omega) (by omega) (by omega) (by omega)
    obtain ⟨most, hm, ea⟩ : ∃ most : Int, (most = 40 ∨ most = 9 ∨ most = 100) ∧ atI [D.int 40, .int 9, .int 100] (r0 : Int) = some (.int most) := by
      rcases (show r0 = 0 ∨ r0 = 1 ∨ r0 = 2 by omega) with rfl | rfl | rfl
      · exact ⟨40, by omega, rfl⟩
      · exact ⟨9, by omega, rfl⟩
      · exact ⟨100, by omega, rfl⟩
    obtain ⟨m, a, b, R, _, _, eR⟩ := two_v c (most := most) (by omega) (by omega)
    have hm0 : 0 < m := by have := R.m3; omega
    refine go_seq (Γ1 := [.val (.scr ns), .val (.int j), .val (.int c), s3, s4, s5, s6, s7, s8, s9, s10, s11, s12]) (by simp (implicitDefEqProofs := false) (disch := omega) only [↓r_seq, ↓r_next, ↓r_if, ↓r_eif, ↓r_set, ↓r_ret, ↓r_retV, ↓r_expr, ↓r_asg, ↓r_par, ↓r_app, ↓r_ext, ↓r_sto, ↓r_or1, ↓r_or, ↓r_and1, ↓r_and, ↓r_vor1, ↓r_vor, ↓r_vand1, ↓r_vand, ↓r_not, ↓r_tru, ↓r_isB, ↓r_eC, ↓r_rd, ↓r_vl, ↓r_rV, ↓r_eV, ↓r_uV, ↓r_uVl, ↓r_sq0, ↓r_sq, ↓r_e2, ↓r_e3, ↓r_call, ↓r_user, ↓r_enot, ↓r_eneg, ↓r_tup, ↓r_lst, ↓r_sl, ↓r_noP, ↓r_aP, ↓r_iOf, ↓r_iF, ↓r_def, ↓r_ref, r_seqNx, r_seqRt, r_seqBk, r_seqCt, r_ifT, r_ifF, r_setV, r_setOt, r_setOl, r_setOd, r_setOs, r_retK, r_retVv, r_retVo, r_asgK, r_tgN, r_tgT, r_tgL, r_tgs0, r_tgs, r_parK, r_ownL, r_ownLo, r_ownD, r_ownDo, r_appK, r_appJ, r_extK, r_extJ, r_stoK, r_stoI, r_stoJ, r_stoL, r_orT, r_orF, r_andT, r_andF, r_vorK, r_vorT, r_vorF, r_vandK, r_vandT, r_vandF, r_notK, r_truK, r_truB, r_truI, r_truL, r_truT, r_truN, r_isBK, r_rdV, r_rdO, r_dV, r_dO, r_valV, r_valL, r_valD, r_rVv, r_rVo, r_rVb, r_eVv, r_uVv, r_uVo, r_uVb, r_uVlK, r_sqK, r_consK, r_opK, r_opJ, r_chK, r_chJ, r_chT, r_chF, r_clK, r_ntK, r_ngK, r_tpK, r_lsK, r_slK, r_slJ, r_slI, r_slL, r_slT, r_aPK, r_sqL, r_sqT, r_sqS, r_rtR, r_rtN, r_refO, r_refE, r_wdK, r_bAdd, r_bSub, r_bMul, r_bDiv, r_bMod, r_bPow, r_cLt, r_cLe, r_cGt, r_cGe, r_cEq, r_cNe, r_ixL, r_ixT, r_of, r_lenL, r_lenT, r_lenS, Pd.R.bind_ok, Pd.R.bind_err, Pd.R.bind_stuck, noE_ok', mul_r, div_i, mod_i, add_i, sub_i, lt_i, le_i, gt_i, ge_i, eq_i, ne_i, pow18, List.cons_append, List.nil_append, List.getElem?_cons_zero, List.getElem?_cons_succ, List.replicate_succ, List.replicate_zero, List.set_cons_zero, List.set_cons_succ, List.length_cons, List.length_nil, if_true, if_false, Bool.not_true, Bool.not_false, Bool.false_eq_true, ↓reduceIte, Nat.reduceAdd, Nat.reduceLeDiff, Nat.reduceLT, Nat.zero_add, Option.map_some, Int.cast_ofNat_Int, Int.natCast_one, Int.natCast_zero, Int.reduceBEq, Int.reduceLT, Int.reduceLE, Int.reduceAdd, Int.reduceSub, Int.reduceMul, Int.reduceNeg, Int.reduceDiv, Int.reduceMod, decide_true, decide_false, hc]) ?_
    refine go_seq (Γ1 := [.val (.scr ns), .val (.int j), .val (.int c), .val (ringD m [a, b]), s4, s5, s6, s7, s8, s9, s10, s11, s12]) (by simp (implicitDefEqProofs := false) (disch := omega) only [↓r_seq, ↓r_next, ↓r_if, ↓r_eif, ↓r_set, ↓r_ret, ↓r_retV, ↓r_expr, ↓r_asg, ↓r_par, ↓r_app, ↓r_ext, ↓r_sto, ↓r_or1, ↓r_or, ↓r_and1, ↓r_and, ↓r_vor1, ↓r_vor, ↓r_vand1, ↓r_vand, ↓r_not, ↓r_tru, ↓r_isB, ↓r_eC, ↓r_rd, ↓r_vl, ↓r_rV, ↓r_eV, ↓r_uV, ↓r_uVl, ↓r_sq0, ↓r_sq, ↓r_e2, ↓r_e3, ↓r_call, ↓r_user, ↓r_enot, ↓r_eneg, ↓r_tup, ↓r_lst, ↓r_sl, ↓r_noP, ↓r_aP, ↓r_iOf, ↓r_iF, ↓r_def, ↓r_ref, r_seqNx, r_seqRt, r_seqBk, r_seqCt, r_ifT, r_ifF, r_setV, r_setOt, r_setOl, r_setOd, r_setOs, r_retK, r_retVv, r_retVo, r_asgK, r_tgN, r_tgT, r_tgL, r_tgs0, r_tgs, r_parK, r_ownL, r_ownLo, r_ownD, r_ownDo, r_appK, r_appJ, r_extK, r_extJ, r_stoK, r_stoI, r_stoJ, r_stoL, r_orT, r_orF, r_andT, r_andF, r_vorK, r_vorT, r_vorF, r_vandK, r_vandT, r_vandF, r_notK, r_truK, r_truB, r_truI, r_truL, r_truT, r_truN, r_isBK, r_rdV, r_rdO, r_dV, r_dO, r_valV, r_valL, r_valD, r_rVv, r_rVo, r_rVb, r_eVv, r_uVv, r_uVo, r_uVb, r_uVlK, r_sqK, r_consK, r_opK, r_opJ, r_chK, r_chJ, r_chT, r_chF, r_clK, r_ntK, r_ngK, r_tpK, r_lsK, r_slK, r_slJ, r_slI, r_slL, r_slT, r_aPK, r_sqL, r_sqT, r_sqS, r_rtR, r_rtN, r_refO, r_refE, r_wdK, r_bAdd, r_bSub, r_bMul, r_bDiv, r_bMod, r_bPow, r_cLt, r_cLe, r_cGt, r_cGe, r_cEq, r_cNe, r_ixL, r_ixT, r_of, r_lenL, r_lenT, r_lenS, Pd.R.bind_ok, Pd.R.bind_err, Pd.R.bind_stuck, noE_ok', mul_r, div_i, mod_i, add_i, sub_i, lt_i, le_i, gt_i, ge_i, eq_i, ne_i, pow18, List.cons_append, List.nil_append, List.getElem?_cons_zero, List.getElem?_cons_succ, List.replicate_succ, List.replicate_zero, List.set_cons_zero, List.set_cons_succ, List.length_cons, List.length_nil, if_true, if_false, Bool.not_true, Bool.not_false, Bool.false_eq_true, ↓reduceIte, Nat.reduceAdd, Nat.reduceLeDiff, Nat.reduceLT, Nat.zero_add, Option.map_some, Int.cast_ofNat_Int, Int.natCast_one, Int.natCast_zero, Int.reduceBEq, Int.reduceLT, Int.reduceLE, Int.reduceAdd, Int.reduceSub, Int.reduceMul, Int.reduceNeg, Int.reduceDiv, Int.reduceMod, decide_true, decide_false, h0, ea, eR]) ?_
    obtain ⟨f1, f2, f3, f4, f5⟩ := home_facts R
    have elh := lhomes_v R
    have esh := shape_v R
    obtain ⟨⟨s, er, hs⟩, hlen⟩ := shp_rp R
    have hne := repr_ne hs
    have hho := fun {c d : Cel} => home_of_v (c := c) (d := d) R
    have hsorted := sort_pairs ((homeL m a b).map (·.2))
    have hshp : sortP ((homeL m a b).map (·.2)) = shpL m a b := rfl
    rw [hshp] at hsorted
    have hmap : (homeL m a b).map (fun p => cD p.2) = ((homeL m a b).map (·.2)).map pairD := by
      rw [List.map_map]
      rfl
    generalize homeL m a b = L at f1 f2 f3 f4 f5 elh hho hsorted hmap
    generalize shpL m a b = sh at esh er hlen hsorted
    refine go_seq (Γ1 := [.val (.scr ns), .val (.int j), .val (.int c), .val (ringD m [a, b]), .val (.dct (kvG cD L)), s5, s6, s7, s8, s9, s10, s11, s12]) (by simp (implicitDefEqProofs := false) (disch := omega) only [↓r_seq, ↓r_next, ↓r_if, ↓r_eif, ↓r_set, ↓r_ret, ↓r_retV, ↓r_expr, ↓r_asg, ↓r_par, ↓r_app, ↓r_ext, ↓r_sto, ↓r_or1, ↓r_or, ↓r_and1, ↓r_and, ↓r_vor1, ↓r_vor, ↓r_vand1, ↓r_vand, ↓r_not, ↓r_tru, ↓r_isB, ↓r_eC, ↓r_rd, ↓r_vl, ↓r_rV, ↓r_eV, ↓r_uV, ↓r_uVl, ↓r_sq0, ↓r_sq, ↓r_e2, ↓r_e3, ↓r_call, ↓r_user, ↓r_enot, ↓r_eneg, ↓r_tup, ↓r_lst, ↓r_sl, ↓r_noP, ↓r_aP, ↓r_iOf, ↓r_iF, ↓r_def, ↓r_ref, r_seqNx, r_seqRt, r_seqBk, r_seqCt, r_ifT, r_ifF, r_setV, r_setOt, r_setOl, r_setOd, r_setOs, r_retK, r_retVv, r_retVo, r_asgK, r_tgN, r_tgT, r_tgL, r_tgs0, r_tgs, r_parK, r_ownL, r_ownLo, r_ownD, r_ownDo, r_appK, r_appJ, r_extK, r_extJ, r_stoK, r_stoI, r_stoJ, r_stoL, r_orT, r_orF, r_andT, r_andF, r_vorK, r_vorT, r_vorF, r_vandK, r_vandT, r_vandF, r_notK, r_truK, r_truB, r_truI, r_truL, r_truT, r_truN, r_isBK, r_rdV, r_rdO, r_dV, r_dO, r_valV, r_valL, r_valD, r_rVv, r_rVo, r_rVb, r_eVv, r_uVv, r_uVo, r_uVb, r_uVlK, r_sqK, r_consK, r_opK, r_opJ, r_chK, r_chJ, r_chT, r_chF, r_clK, r_ntK, r_ngK, r_tpK, r_lsK, r_slK, r_slJ, r_slI, r_slL, r_slT, r_aPK, r_sqL, r_sqT, r_sqS, r_rtR, r_rtN, r_refO, r_refE, r_wdK, r_bAdd, r_bSub, r_bMul, r_bDiv, r_bMod, r_bPow, r_cLt, r_cLe, r_cGt, r_cGe, r_cEq, r_cNe, r_ixL, r_ixT, r_of, r_lenL, r_lenT, r_lenS, Pd.R.bind_ok, Pd.R.bind_err, Pd.R.bind_stuck, noE_ok', mul_r, div_i, mod_i, add_i, sub_i, lt_i, le_i, gt_i, ge_i, eq_i, ne_i, pow18, List.cons_append, List.nil_append, List.getElem?_cons_zero, List.getElem?_cons_succ, List.replicate_succ, List.replicate_zero, List.set_cons_zero, List.set_cons_succ, List.length_cons, List.length_nil, if_true, if_false, Bool.not_true, Bool.not_false, Bool.false_eq_true, ↓reduceIte, Nat.reduceAdd, Nat.reduceLeDiff, Nat.reduceLT, Nat.zero_add, Option.map_some, Int.cast_ofNat_Int, Int.natCast_one, Int.natCast_zero, Int.reduceBEq, Int.reduceLT, Int.reduceLE, Int.reduceAdd, Int.reduceSub, Int.reduceMul, Int.reduceNeg, Int.reduceDiv, Int.reduceMod, decide_true, decide_false, elh]) ?_
    have hk := intKB_kvg cD f1
    have e5 : eLcD (iKy 4) (.nm 12) (fun _ => .ok true) (vl (e2 dIx (rVar 4) (rVar 12))) [12] [.val (.scr ns), .val (.int j), .val (.int c), .val (ringD m [a, b]), .val (.dct (kvG cD L)), s5, s6, s7, s8, s9, s10, s11, s12] = .ok (.o (.lst ((L.map (·.2)).map pairD))) := by
      rw [lcD_eq]
      have := lc_of (fi := fun _ => iKy 4 [.val (.scr ns), .val (.int j), .val (.int c), .val (ringD m [a, b]), .val (.dct (kvG cD L)), s5, s6, s7, s8, s9, s10, s11, s12]) (i := 12) (te := vl (e2 dIx (rVar 4) (rVar 12))) (vs := [12]) (Γ := lkG [.val (.scr ns), .val (.int j), .val (.int c), .val (ringD m [a, b]), .val (.dct (kvG cD L)), s5, s6, s7, s8, s9, s10, s11, s12]) (l := L) (φ := fun p => .int (p.1 : Int)) (fun p => cD p.2) (by
        rw [ky_of rfl hk]
        unfold kvG
        rw [List.map_map]
        rfl) (fun p hp => by
        have hix := ix_dct (kvg_int cD L) (p.1 : Int) (get_kvg cD f3 (x := p.1) (c := p.2) hp)
        simp (implicitDefEqProofs := false) (disch := omega) only [↓r_seq, ↓r_next, ↓r_if, ↓r_eif, ↓r_set, ↓r_ret, ↓r_retV, ↓r_expr, ↓r_asg, ↓r_par, ↓r_app, ↓r_ext, ↓r_sto, ↓r_or1, ↓r_or, ↓r_and1, ↓r_and, ↓r_vor1, ↓r_vor, ↓r_vand1, ↓r_vand, ↓r_not, ↓r_tru, ↓r_isB, ↓r_eC, ↓r_rd, ↓r_vl, ↓r_rV, ↓r_eV, ↓r_uV, ↓r_uVl, ↓r_sq0, ↓r_sq, ↓r_e2, ↓r_e3, ↓r_call, ↓r_user, ↓r_enot, ↓r_eneg, ↓r_tup, ↓r_lst, ↓r_sl, ↓r_noP, ↓r_aP, ↓r_iOf, ↓r_iF, ↓r_def, ↓r_ref, r_seqNx, r_seqRt, r_seqBk, r_seqCt, r_ifT, r_ifF, r_setV, r_setOt, r_setOl, r_setOd, r_setOs, r_retK, r_retVv, r_retVo, r_asgK, r_tgN, r_tgT, r_tgL, r_tgs0, r_tgs, r_parK, r_ownL, r_ownLo, r_ownD, r_ownDo, r_appK, r_appJ, r_extK, r_extJ, r_stoK, r_stoI, r_stoJ, r_stoL, r_orT, r_orF, r_andT, r_andF, r_vorK, r_vorT, r_vorF, r_vandK, r_vandT, r_vandF, r_notK, r_truK, r_truB, r_truI, r_truL, r_truT, r_truN, r_isBK, r_rdV, r_rdO, r_dV, r_dO, r_valV, r_valL, r_valD, r_rVv, r_rVo, r_rVb, r_eVv, r_uVv, r_uVo, r_uVb, r_uVlK, r_sqK, r_consK, r_opK, r_opJ, r_chK, r_chJ, r_chT, r_chF, r_clK, r_ntK, r_ngK, r_tpK, r_lsK, r_slK, r_slJ, r_slI, r_slL, r_slT, r_aPK, r_sqL, r_sqT, r_sqS, r_rtR, r_rtN, r_refO, r_refE, r_wdK, r_bAdd, r_bSub, r_bMul, r_bDiv, r_bMod, r_bPow, r_cLt, r_cLe, r_cGt, r_cGe, r_cEq, r_cNe, r_ixL, r_ixT, r_of, r_lenL, r_lenT, r_lenS, Pd.R.bind_ok, Pd.R.bind_err, Pd.R.bind_stuck, noE_ok', mul_r, div_i, mod_i, add_i, sub_i, lt_i, le_i, gt_i, ge_i, eq_i, ne_i, pow18, List.cons_append, List.nil_append, List.getElem?_cons_zero, List.getElem?_cons_succ, List.replicate_succ, List.replicate_zero, List.set_cons_zero, List.set_cons_succ, List.length_cons, List.length_nil, if_true, if_false, Bool.not_true, Bool.not_false, Bool.false_eq_true, ↓reduceIte, Nat.reduceAdd, Nat.reduceLeDiff, Nat.reduceLT, Nat.zero_add, Option.map_some, Int.cast_ofNat_Int, Int.natCast_one, Int.natCast_zero, Int.reduceBEq, Int.reduceLT, Int.reduceLE, Int.reduceAdd, Int.reduceSub, Int.reduceMul, Int.reduceNeg, Int.reduceDiv, Int.reduceMod, decide_true, decide_false, wipeG, lkG_cons, lkG_nil, lkS_val, lkS_un, hix])
      rw [← hmap]
      exact this
    refine go_seq (Γ1 := [.val (.scr ns), .val (.int j), .val (.int c), .val (ringD m [a, b]), .val (.dct (kvG cD L)), .val (.lst (sh.map pairD)), s6, s7, s8, s9, s10, s11, s12]) (by simp (implicitDefEqProofs := false) (disch := omega) only [↓r_seq, ↓r_next, ↓r_if, ↓r_eif, ↓r_set, ↓r_ret, ↓r_retV, ↓r_expr, ↓r_asg, ↓r_par, ↓r_app, ↓r_ext, ↓r_sto, ↓r_or1, ↓r_or, ↓r_and1, ↓r_and, ↓r_vor1, ↓r_vor, ↓r_vand1, ↓r_vand, ↓r_not, ↓r_tru, ↓r_isB, ↓r_eC, ↓r_rd, ↓r_vl, ↓r_rV, ↓r_eV, ↓r_uV, ↓r_uVl, ↓r_sq0, ↓r_sq, ↓r_e2, ↓r_e3, ↓r_call, ↓r_user, ↓r_enot, ↓r_eneg, ↓r_tup, ↓r_lst, ↓r_sl, ↓r_noP, ↓r_aP, ↓r_iOf, ↓r_iF, ↓r_def, ↓r_ref, r_seqNx, r_seqRt, r_seqBk, r_seqCt, r_ifT, r_ifF, r_setV, r_setOt, r_setOl, r_setOd, r_setOs, r_retK, r_retVv, r_retVo, r_asgK, r_tgN, r_tgT, r_tgL, r_tgs0, r_tgs, r_parK, r_ownL, r_ownLo, r_ownD, r_ownDo, r_appK, r_appJ, r_extK, r_extJ, r_stoK, r_stoI, r_stoJ, r_stoL, r_orT, r_orF, r_andT, r_andF, r_vorK, r_vorT, r_vorF, r_vandK, r_vandT, r_vandF, r_notK, r_truK, r_truB, r_truI, r_truL, r_truT, r_truN, r_isBK, r_rdV, r_rdO, r_dV, r_dO, r_valV, r_valL, r_valD, r_rVv, r_rVo, r_rVb, r_eVv, r_uVv, r_uVo, r_uVb, r_uVlK, r_sqK, r_consK, r_opK, r_opJ, r_chK, r_chJ, r_chT, r_chF, r_clK, r_ntK, r_ngK, r_tpK, r_lsK, r_slK, r_slJ, r_slI, r_slL, r_slT, r_aPK, r_sqL, r_sqT, r_sqS, r_rtR, r_rtN, r_refO, r_refE, r_wdK, r_bAdd, r_bSub, r_bMul, r_bDiv, r_bMod, r_bPow, r_cLt, r_cLe, r_cGt, r_cGe, r_cEq, r_cNe, r_ixL, r_ixT, r_of, r_lenL, r_lenT, r_lenS, Pd.R.bind_ok, Pd.R.bind_err, Pd.R.bind_stuck, noE_ok', mul_r, div_i, mod_i, add_i, sub_i, lt_i, le_i, gt_i, ge_i, eq_i, ne_i, pow18, List.cons_append, List.nil_append, List.getElem?_cons_zero, List.getElem?_cons_succ, List.replicate_succ, List.replicate_zero, List.set_cons_zero, List.set_cons_succ, List.length_cons, List.length_nil, if_true, if_false, Bool.not_true, Bool.not_false, Bool.false_eq_true, ↓reduceIte, Nat.reduceAdd, Nat.reduceLeDiff, Nat.reduceLT, Nat.zero_add, Option.map_some, Int.cast_ofNat_Int, Int.natCast_one, Int.natCast_zero, Int.reduceBEq, Int.reduceLT, Int.reduceLE, Int.reduceAdd, Int.reduceSub, Int.reduceMul, Int.reduceNeg, Int.reduceDiv, Int.reduceMod, decide_true, decide_false, e5, hsorted]) ?_
    have hl2 : (sh.map pairD).length ≤ 100 := by rw [List.length_map]; exact hlen
    refine go_seq' (fun Γ => ∃ s6 s7 s8 s9 s10 s11 s12, Γ = [.val (.scr ns), .val (.int j), .val (.int c), .val (ringD m [a, b]), .val (.dct (kvG cD L)), .val (.lst (sh.map pairD)), s6, s7, s8, s9, s10, s11, s12]) ?_ ?_
    · refine go_for (ds := nD (List.range 2)) (by
        have := rng1 (n := 2) (by omega)
        rw [Int.cast_ofNat_Int] at this
        simp (implicitDefEqProofs := false) (disch := omega) only [↓r_seq, ↓r_next, ↓r_if, ↓r_eif, ↓r_set, ↓r_ret, ↓r_retV, ↓r_expr, ↓r_asg, ↓r_par, ↓r_app, ↓r_ext, ↓r_sto, ↓r_or1, ↓r_or, ↓r_and1, ↓r_and, ↓r_vor1, ↓r_vor, ↓r_vand1, ↓r_vand, ↓r_not, ↓r_tru, ↓r_isB, ↓r_eC, ↓r_rd, ↓r_vl, ↓r_rV, ↓r_eV, ↓r_uV, ↓r_uVl, ↓r_sq0, ↓r_sq, ↓r_e2, ↓r_e3, ↓r_call, ↓r_user, ↓r_enot, ↓r_eneg, ↓r_tup, ↓r_lst, ↓r_sl, ↓r_noP, ↓r_aP, ↓r_iOf, ↓r_iF, ↓r_def, ↓r_ref, r_seqNx, r_seqRt, r_seqBk, r_seqCt, r_ifT, r_ifF, r_setV, r_setOt, r_setOl, r_setOd, r_setOs, r_retK, r_retVv, r_retVo, r_asgK, r_tgN, r_tgT, r_tgL, r_tgs0, r_tgs, r_parK, r_ownL, r_ownLo, r_ownD, r_ownDo, r_appK, r_appJ, r_extK, r_extJ, r_stoK, r_stoI, r_stoJ, r_stoL, r_orT, r_orF, r_andT, r_andF, r_vorK, r_vorT, r_vorF, r_vandK, r_vandT, r_vandF, r_notK, r_truK, r_truB, r_truI, r_truL, r_truT, r_truN, r_isBK, r_rdV, r_rdO, r_dV, r_dO, r_valV, r_valL, r_valD, r_rVv, r_rVo, r_rVb, r_eVv, r_uVv, r_uVo, r_uVb, r_uVlK, r_sqK, r_consK, r_opK, r_opJ, r_chK, r_chJ, r_chT, r_chF, r_clK, r_ntK, r_ngK, r_tpK, r_lsK, r_slK, r_slJ, r_slI, r_slL, r_slT, r_aPK, r_sqL, r_sqT, r_sqS, r_rtR, r_rtN, r_refO, r_refE, r_wdK, r_bAdd, r_bSub, r_bMul, r_bDiv, r_bMod, r_bPow, r_cLt, r_cLe, r_cGt, r_cGe, r_cEq, r_cNe, r_ixL, r_ixT, r_of, r_lenL, r_lenT, r_lenS, Pd.R.bind_ok, Pd.R.bind_err, Pd.R.bind_stuck, noE_ok', mul_r, div_i, mod_i, add_i, sub_i, lt_i, le_i, gt_i, ge_i, eq_i, ne_i, pow18, List.cons_append, List.nil_append, List.getElem?_cons_zero, List.getElem?_cons_succ, List.replicate_succ, List.replicate_zero, List.set_cons_zero, List.set_cons_succ, List.length_cons, List.length_nil, if_true, if_false, Bool.not_true, Bool.not_false, Bool.false_eq_true, ↓reduceIte, Nat.reduceAdd, Nat.reduceLeDiff, Nat.reduceLT, Nat.zero_add, Option.map_some, Int.cast_ofNat_Int, Int.natCast_one, Int.natCast_zero, Int.reduceBEq, Int.reduceLT, Int.reduceLE, Int.reduceAdd, Int.reduceSub, Int.reduceMul, Int.reduceNeg, Int.reduceDiv, Int.reduceMod, decide_true, decide_false, this]) ⟨_, _, _, _, _, _, _, rfl⟩ ?_
      rintro Γ d hd ⟨s6, s7, s8, s9, s10, s11, s12, rfl⟩
      refine go_seq (Γ1 := [.val (.scr ns), .val (.int j), .val (.int c), .val (ringD m [a, b]), .val (.dct (kvG cD L)), .val (.lst (sh.map pairD)), .val d, s7, .own (.lst (sh.map pairD)), s9, s10, s11, s12]) (by simp (implicitDefEqProofs := false) (disch := omega) only [↓r_seq, ↓r_next, ↓r_if, ↓r_eif, ↓r_set, ↓r_ret, ↓r_retV, ↓r_expr, ↓r_asg, ↓r_par, ↓r_app, ↓r_ext, ↓r_sto, ↓r_or1, ↓r_or, ↓r_and1, ↓r_and, ↓r_vor1, ↓r_vor, ↓r_vand1, ↓r_vand, ↓r_not, ↓r_tru, ↓r_isB, ↓r_eC, ↓r_rd, ↓r_vl, ↓r_rV, ↓r_eV, ↓r_uV, ↓r_uVl, ↓r_sq0, ↓r_sq, ↓r_e2, ↓r_e3, ↓r_call, ↓r_user, ↓r_enot, ↓r_eneg, ↓r_tup, ↓r_lst, ↓r_sl, ↓r_noP, ↓r_aP, ↓r_iOf, ↓r_iF, ↓r_def, ↓r_ref, r_seqNx, r_seqRt, r_seqBk, r_seqCt, r_ifT, r_ifF, r_setV, r_setOt, r_setOl, r_setOd, r_setOs, r_retK, r_retVv, r_retVo, r_asgK, r_tgN, r_tgT, r_tgL, r_tgs0, r_tgs, r_parK, r_ownL, r_ownLo, r_ownD, r_ownDo, r_appK, r_appJ, r_extK, r_extJ, r_stoK, r_stoI, r_stoJ, r_stoL, r_orT, r_orF, r_andT, r_andF, r_vorK, r_vorT, r_vorF, r_vandK, r_vandT, r_vandF, r_notK, r_truK, r_truB, r_truI, r_truL, r_truT, r_truN, r_isBK, r_rdV, r_rdO, r_dV, r_dO, r_valV, r_valL, r_valD, r_rVv, r_rVo, r_rVb, r_eVv, r_uVv, r_uVo, r_uVb, r_uVlK, r_sqK, r_consK, r_opK, r_opJ, r_chK, r_chJ, r_chT, r_chF, r_clK, r_ntK, r_ngK, r_tpK, r_lsK, r_slK, r_slJ, r_slI, r_slL, r_slT, r_aPK, r_sqL, r_sqT, r_sqS, r_rtR, r_rtN, r_refO, r_refE, r_wdK, r_bAdd, r_bSub, r_bMul, r_bDiv, r_bMod, r_bPow, r_cLt, r_cLe, r_cGt, r_cGe, r_cEq, r_cNe, r_ixL, r_ixT, r_of, r_lenL, r_lenT, r_lenS, Pd.R.bind_ok, Pd.R.bind_err, Pd.R.bind_stuck, noE_ok', mul_r, div_i, mod_i, add_i, sub_i, lt_i, le_i, gt_i, ge_i, eq_i, ne_i, pow18, List.cons_append, List.nil_append, List.getElem?_cons_zero, List.getElem?_cons_succ, List.replicate_succ, List.replicate_zero, List.set_cons_zero, List.set_cons_succ, List.length_cons, List.length_nil, if_true, if_false, Bool.not_true, Bool.not_false, Bool.false_eq_true, ↓reduceIte, Nat.reduceAdd, Nat.reduceLeDiff, Nat.reduceLT, Nat.zero_add, Option.map_some, Int.cast_ofNat_Int, Int.natCast_one, Int.natCast_zero, Int.reduceBEq, Int.reduceLT, Int.reduceLE, Int.reduceAdd, Int.reduceSub, Int.reduceMul, Int.reduceNeg, Int.reduceDiv, Int.reduceMod, decide_true, decide_false, esh]) ?_
      refine go_seq (if_no (by simp (implicitDefEqProofs := false) (disch := omega) only [↓r_seq, ↓r_next, ↓r_if, ↓r_eif, ↓r_set, ↓r_ret, ↓r_retV, ↓r_expr, ↓r_asg, ↓r_par, ↓r_app, ↓r_ext, ↓r_sto, ↓r_or1, ↓r_or, ↓r_and1, ↓r_and, ↓r_vor1, ↓r_vor, ↓r_vand1, ↓r_vand, ↓r_not, ↓r_tru, ↓r_isB, ↓r_eC, ↓r_rd, ↓r_vl, ↓r_rV, ↓r_eV, ↓r_uV, ↓r_uVl, ↓r_sq0, ↓r_sq, ↓r_e2, ↓r_e3, ↓r_call, ↓r_user, ↓r_enot, ↓r_eneg, ↓r_tup, ↓r_lst, ↓r_sl, ↓r_noP, ↓r_aP, ↓r_iOf, ↓r_iF, ↓r_def, ↓r_ref, r_seqNx, r_seqRt, r_seqBk, r_seqCt, r_ifT, r_ifF, r_setV, r_setOt, r_setOl, r_setOd, r_setOs, r_retK, r_retVv, r_retVo, r_asgK, r_tgN, r_tgT, r_tgL, r_tgs0, r_tgs, r_parK, r_ownL, r_ownLo, r_ownD, r_ownDo, r_appK, r_appJ, r_extK, r_extJ, r_stoK, r_stoI, r_stoJ, r_stoL, r_orT, r_orF, r_andT, r_andF, r_vorK, r_vorT, r_vorF, r_vandK, r_vandT, r_vandF, r_notK, r_truK, r_truB, r_truI, r_truL, r_truT, r_truN, r_isBK, r_rdV, r_rdO, r_dV, r_dO, r_valV, r_valL, r_valD, r_rVv, r_rVo, r_rVb, r_eVv, r_uVv, r_uVo, r_uVb, r_uVlK, r_sqK, r_consK, r_opK, r_opJ, r_chK, r_chJ, r_chT, r_chF, r_clK, r_ntK, r_ngK, r_tpK, r_lsK, r_slK, r_slJ, r_slI, r_slL, r_slT, r_aPK, r_sqL, r_sqT, r_sqS, r_rtR, r_rtN, r_refO, r_refE, r_wdK, r_bAdd, r_bSub, r_bMul, r_bDiv, r_bMod, r_bPow, r_cLt, r_cLe, r_cGt, r_cGe, r_cEq, r_cNe, r_ixL, r_ixT, r_of, r_lenL, r_lenT, r_lenS, Pd.R.bind_ok, Pd.R.bind_err, Pd.R.bind_stuck, noE_ok', mul_r, div_i, mod_i, add_i, sub_i, lt_i, le_i, gt_i, ge_i, eq_i, ne_i, pow18, List.cons_append, List.nil_append, List.getElem?_cons_zero, List.getElem?_cons_succ, List.replicate_succ, List.replicate_zero, List.set_cons_zero, List.set_cons_succ, List.length_cons, List.length_nil, if_true, if_false, Bool.not_true, Bool.not_false, Bool.false_eq_true, ↓reduceIte, Nat.reduceAdd, Nat.reduceLeDiff, Nat.reduceLT, Nat.zero_add, Option.map_some, Int.cast_ofNat_Int, Int.natCast_one, Int.natCast_zero, Int.reduceBEq, Int.reduceLT, Int.reduceLE, Int.reduceAdd, Int.reduceSub, Int.reduceMul, Int.reduceNeg, Int.reduceDiv, Int.reduceMod, decide_true, decide_false, er, hne])) ?_
      exact go_seq (Γ1 := [.val (.scr ns), .val (.int j), .val (.int c), .val (ringD m [a, b]), .val (.dct (kvG cD L)), .val (.lst (sh.map pairD)), .val d, s7, .own (.lst (sh.map pairD ++ [.tup []])), s9, s10, s11, s12]) (by simp (implicitDefEqProofs := false) (disch := omega) only [↓r_seq, ↓r_next, ↓r_if, ↓r_eif, ↓r_set, ↓r_ret, ↓r_retV, ↓r_expr, ↓r_asg, ↓r_par, ↓r_app, ↓r_ext, ↓r_sto, ↓r_or1, ↓r_or, ↓r_and1, ↓r_and, ↓r_vor1, ↓r_vor, ↓r_vand1, ↓r_vand, ↓r_not, ↓r_tru, ↓r_isB, ↓r_eC, ↓r_rd, ↓r_vl, ↓r_rV, ↓r_eV, ↓r_uV, ↓r_uVl, ↓r_sq0, ↓r_sq, ↓r_e2, ↓r_e3, ↓r_call, ↓r_user, ↓r_enot, ↓r_eneg, ↓r_tup, ↓r_lst, ↓r_sl, ↓r_noP, ↓r_aP, ↓r_iOf, ↓r_iF, ↓r_def, ↓r_ref, r_seqNx, r_seqRt, r_seqBk, r_seqCt, r_ifT, r_ifF, r_setV, r_setOt, r_setOl, r_setOd, r_setOs, r_retK, r_retVv, r_retVo, r_asgK, r_tgN, r_tgT, r_tgL, r_tgs0, r_tgs, r_parK, r_ownL, r_ownLo, r_ownD, r_ownDo, r_appK, r_appJ, r_extK, r_extJ, r_stoK, r_stoI, r_stoJ, r_stoL, r_orT, r_orF, r_andT, r_andF, r_vorK, r_vorT, r_vorF, r_vandK, r_vandT, r_vandF, r_notK, r_truK, r_truB, r_truI, r_truL, r_truT, r_truN, r_isBK, r_rdV, r_rdO, r_dV, r_dO, r_valV, r_valL, r_valD, r_rVv, r_rVo, r_rVb, r_eVv, r_uVv, r_uVo, r_uVb, r_uVlK, r_sqK, r_consK, r_opK, r_opJ, r_chK, r_chJ, r_chT, r_chF, r_clK, r_ntK, r_ngK, r_tpK, r_lsK, r_slK, r_slJ, r_slI, r_slL, r_slT, r_aPK, r_sqL, r_sqT, r_sqS, r_rtR, r_rtN, r_refO, r_refE, r_wdK, r_bAdd, r_bSub, r_bMul, r_bDiv, r_bMod, r_bPow, r_cLt, r_cLe, r_cGt, r_cGe, r_cEq, r_cNe, r_ixL, r_ixT, r_of, r_lenL, r_lenT, r_lenS, Pd.R.bind_ok, Pd.R.bind_err, Pd.R.bind_stuck, noE_ok', mul_r, div_i, mod_i, add_i, sub_i, lt_i, le_i, gt_i, ge_i, eq_i, ne_i, pow18, List.cons_append, List.nil_append, List.getElem?_cons_zero, List.getElem?_cons_succ, List.replicate_succ, List.replicate_zero, List.set_cons_zero, List.set_cons_succ, List.length_cons, List.length_nil, if_true, if_false, Bool.not_true, Bool.not_false, Bool.false_eq_true, ↓reduceIte, Nat.reduceAdd, Nat.reduceLeDiff, Nat.reduceLT, Nat.zero_add, Option.map_some, Int.cast_ofNat_Int, Int.natCast_one, Int.natCast_zero, Int.reduceBEq, Int.reduceLT, Int.reduceLE, Int.reduceAdd, Int.reduceSub, Int.reduceMul, Int.reduceNeg, Int.reduceDiv, Int.reduceMod, decide_true, decide_false, r_appJ (show (sh.map pairD).length < 16777216 by omega)]) (go_next ⟨_, _, _, _, _, _, _, rfl⟩)
    rintro Γ ⟨s6, s7, s8, s9, s10, s11, s12, rfl⟩
    refine go_seq' (fun Γ => ∃ s6 s7 s8 s9 s10 s11 s12, Γ = [.val (.scr ns), .val (.int j), .val (.int c), .val (ringD m [a, b]), .val (.dct (kvG cD L)), .val (.lst (sh.map pairD)), s6, s7, s8, s9, s10, s11, s12]) ?_ ?_
    · refine go_for (ds := nD (List.range 5)) (by
        have := rng1 (n := 5) (by omega)
        rw [Int.cast_ofNat_Int] at this
        simp (implicitDefEqProofs := false) (disch := omega) only [↓r_seq, ↓r_next, ↓r_if, ↓r_eif, ↓r_set, ↓r_ret, ↓r_retV, ↓r_expr, ↓r_asg, ↓r_par, ↓r_app, ↓r_ext, ↓r_sto, ↓r_or1, ↓r_or, ↓r_and1, ↓r_and, ↓r_vor1, ↓r_vor, ↓r_vand1, ↓r_vand, ↓r_not, ↓r_tru, ↓r_isB, ↓r_eC, ↓r_rd, ↓r_vl, ↓r_rV, ↓r_eV, ↓r_uV, ↓r_uVl, ↓r_sq0, ↓r_sq, ↓r_e2, ↓r_e3, ↓r_call, ↓r_user, ↓r_enot, ↓r_eneg, ↓r_tup, ↓r_lst, ↓r_sl, ↓r_noP, ↓r_aP, ↓r_iOf, ↓r_iF, ↓r_def, ↓r_ref, r_seqNx, r_seqRt, r_seqBk, r_seqCt, r_ifT, r_ifF, r_setV, r_setOt, r_setOl, r_setOd, r_setOs, r_retK, r_retVv, r_retVo, r_asgK, r_tgN, r_tgT, r_tgL, r_tgs0, r_tgs, r_parK, r_ownL, r_ownLo, r_ownD, r_ownDo, r_appK, r_appJ, r_extK, r_extJ, r_stoK, r_stoI, r_stoJ, r_stoL, r_orT, r_orF, r_andT, r_andF, r_vorK, r_vorT, r_vorF, r_vandK, r_vandT, r_vandF, r_notK, r_truK, r_truB, r_truI, r_truL, r_truT, r_truN, r_isBK, r_rdV, r_rdO, r_dV, r_dO, r_valV, r_valL, r_valD, r_rVv, r_rVo, r_rVb, r_eVv, r_uVv, r_uVo, r_uVb, r_uVlK, r_sqK, r_consK, r_opK, r_opJ, r_chK, r_chJ, r_chT, r_chF, r_clK, r_ntK, r_ngK, r_tpK, r_lsK, r_slK, r_slJ, r_slI, r_slL, r_slT, r_aPK, r_sqL, r_sqT, r_sqS, r_rtR, r_rtN, r_refO, r_refE, r_wdK, r_bAdd, r_bSub, r_bMul, r_bDiv, r_bMod, r_bPow, r_cLt, r_cLe, r_cGt, r_cGe, r_cEq, r_cNe, r_ixL, r_ixT, r_of, r_lenL, r_lenT, r_lenS, Pd.R.bind_ok, Pd.R.bind_err, Pd.R.bind_stuck, noE_ok', mul_r, div_i, mod_i, add_i, sub_i, lt_i, le_i, gt_i, ge_i, eq_i, ne_i, pow18, List.cons_append, List.nil_append, List.getElem?_cons_zero, List.getElem?_cons_succ, List.replicate_succ, List.replicate_zero, List.set_cons_zero, List.set_cons_succ, List.length_cons, List.length_nil, if_true, if_false, Bool.not_true, Bool.not_false, Bool.false_eq_true, ↓reduceIte, Nat.reduceAdd, Nat.reduceLeDiff, Nat.reduceLT, Nat.zero_add, Option.map_some, Int.cast_ofNat_Int, Int.natCast_one, Int.natCast_zero, Int.reduceBEq, Int.reduceLT, Int.reduceLE, Int.reduceAdd, Int.reduceSub, Int.reduceMul, Int.reduceNeg, Int.reduceDiv, Int.reduceMod, decide_true, decide_false, this]) ⟨_, _, _, _, _, _, _, rfl⟩ ?_
      rintro Γ d hd ⟨s6, s7, s8, s9, s10, s11, s12, rfl⟩
      obtain ⟨x, hx, rfl⟩ := mem_nD.mp hd
      have hx := List.mem_range.mp hx
      obtain ⟨⟨u, v⟩, ⟨b1, b2, b3, b4⟩, ez⟩ := law_cell_v c (k := 50 + 3 * (x : Int)) (by omega) (by omega)
      have ez : d__law_cell [.val (.int c), .val (.int (50 + 3 * (x : Int)))] = .ok (.v (.tup [.int u, .int v])) := ez
      obtain ⟨⟨p, q⟩, hd⟩ := f5 (u, v)
      have el : d__law_lies [.val (ringD m [a, b]), .val (.int u), .val (.int v)] = .ok (.v (.int ((plC m a b (u, v) : Nat) : Int))) := (lies_v R u v).trans (by rw [← plC_z hm0 (u, v)])
      have hix := ix_dct (kvg_int cD L) ((plC m a b (u, v) : Nat) : Int) (get_kvg cD f3 hd)
      have eo : d_home_of [.val (ringD m [a, b]), .val (.tup [.int u, .int v])] = .ok (.v (.tup [.tup [.int p, .int q], .tup [.int (u - p), .int (v - q)]])) := hho (c := (u, v)) (d := (p, q)) b1 b2 b3 b4 hd
      obtain ⟨s2, er2, hs2⟩ := hm_rp (c := (u, v)) (d := (p, q)) b1 b2 b3 b4 (f4 _ hd)
      have er2 : fRepr [.tup [.tup [.int p, .int q], .tup [.int (u - p), .int (v - q)]]] = some (.v (.str s2)) := er2
      have hne2 := repr_ne hs2
      have a0 : ∀ u v : D, atI [u, v] 0 = some u := fun _ _ => rfl
      have a1 : ∀ u v : D, atI [u, v] 1 = some v := fun _ _ => rfl
      have hix : dIx (.dct (kvG cD L)) (.int ((plC m a b (u, v) : Nat) : Int)) = some (.v (.tup [.int p, .int q])) := hix
      refine go_seq (Γ1 := [.val (.scr ns), .val (.int j), .val (.int c), .val (ringD m [a, b]), .val (.dct (kvG cD L)), .val (.lst (sh.map pairD)), s6, .val (.int x), s8, s9, .val (.int u), .val (.int v), s12]) (by simp (implicitDefEqProofs := false) (disch := omega) only [↓r_seq, ↓r_next, ↓r_if, ↓r_eif, ↓r_set, ↓r_ret, ↓r_retV, ↓r_expr, ↓r_asg, ↓r_par, ↓r_app, ↓r_ext, ↓r_sto, ↓r_or1, ↓r_or, ↓r_and1, ↓r_and, ↓r_vor1, ↓r_vor, ↓r_vand1, ↓r_vand, ↓r_not, ↓r_tru, ↓r_isB, ↓r_eC, ↓r_rd, ↓r_vl, ↓r_rV, ↓r_eV, ↓r_uV, ↓r_uVl, ↓r_sq0, ↓r_sq, ↓r_e2, ↓r_e3, ↓r_call, ↓r_user, ↓r_enot, ↓r_eneg, ↓r_tup, ↓r_lst, ↓r_sl, ↓r_noP, ↓r_aP, ↓r_iOf, ↓r_iF, ↓r_def, ↓r_ref, r_seqNx, r_seqRt, r_seqBk, r_seqCt, r_ifT, r_ifF, r_setV, r_setOt, r_setOl, r_setOd, r_setOs, r_retK, r_retVv, r_retVo, r_asgK, r_tgN, r_tgT, r_tgL, r_tgs0, r_tgs, r_parK, r_ownL, r_ownLo, r_ownD, r_ownDo, r_appK, r_appJ, r_extK, r_extJ, r_stoK, r_stoI, r_stoJ, r_stoL, r_orT, r_orF, r_andT, r_andF, r_vorK, r_vorT, r_vorF, r_vandK, r_vandT, r_vandF, r_notK, r_truK, r_truB, r_truI, r_truL, r_truT, r_truN, r_isBK, r_rdV, r_rdO, r_dV, r_dO, r_valV, r_valL, r_valD, r_rVv, r_rVo, r_rVb, r_eVv, r_uVv, r_uVo, r_uVb, r_uVlK, r_sqK, r_consK, r_opK, r_opJ, r_chK, r_chJ, r_chT, r_chF, r_clK, r_ntK, r_ngK, r_tpK, r_lsK, r_slK, r_slJ, r_slI, r_slL, r_slT, r_aPK, r_sqL, r_sqT, r_sqS, r_rtR, r_rtN, r_refO, r_refE, r_wdK, r_bAdd, r_bSub, r_bMul, r_bDiv, r_bMod, r_bPow, r_cLt, r_cLe, r_cGt, r_cGe, r_cEq, r_cNe, r_ixL, r_ixT, r_of, r_lenL, r_lenT, r_lenS, Pd.R.bind_ok, Pd.R.bind_err, Pd.R.bind_stuck, noE_ok', mul_r, div_i, mod_i, add_i, sub_i, lt_i, le_i, gt_i, ge_i, eq_i, ne_i, pow18, List.cons_append, List.nil_append, List.getElem?_cons_zero, List.getElem?_cons_succ, List.replicate_succ, List.replicate_zero, List.set_cons_zero, List.set_cons_succ, List.length_cons, List.length_nil, if_true, if_false, Bool.not_true, Bool.not_false, Bool.false_eq_true, ↓reduceIte, Nat.reduceAdd, Nat.reduceLeDiff, Nat.reduceLT, Nat.zero_add, Option.map_some, Int.cast_ofNat_Int, Int.natCast_one, Int.natCast_zero, Int.reduceBEq, Int.reduceLT, Int.reduceLE, Int.reduceAdd, Int.reduceSub, Int.reduceMul, Int.reduceNeg, Int.reduceDiv, Int.reduceMod, decide_true, decide_false, ez]) ?_
      refine go_seq (Γ1 := [.val (.scr ns), .val (.int j), .val (.int c), .val (ringD m [a, b]), .val (.dct (kvG cD L)), .val (.lst (sh.map pairD)), s6, .val (.int x), s8, .val (.tup [.int p, .int q]), .val (.int u), .val (.int v), s12]) (by simp (implicitDefEqProofs := false) (disch := omega) only [↓r_seq, ↓r_next, ↓r_if, ↓r_eif, ↓r_set, ↓r_ret, ↓r_retV, ↓r_expr, ↓r_asg, ↓r_par, ↓r_app, ↓r_ext, ↓r_sto, ↓r_or1, ↓r_or, ↓r_and1, ↓r_and, ↓r_vor1, ↓r_vor, ↓r_vand1, ↓r_vand, ↓r_not, ↓r_tru, ↓r_isB, ↓r_eC, ↓r_rd, ↓r_vl, ↓r_rV, ↓r_eV, ↓r_uV, ↓r_uVl, ↓r_sq0, ↓r_sq, ↓r_e2, ↓r_e3, ↓r_call, ↓r_user, ↓r_enot, ↓r_eneg, ↓r_tup, ↓r_lst, ↓r_sl, ↓r_noP, ↓r_aP, ↓r_iOf, ↓r_iF, ↓r_def, ↓r_ref, r_seqNx, r_seqRt, r_seqBk, r_seqCt, r_ifT, r_ifF, r_setV, r_setOt, r_setOl, r_setOd, r_setOs, r_retK, r_retVv, r_retVo, r_asgK, r_tgN, r_tgT, r_tgL, r_tgs0, r_tgs, r_parK, r_ownL, r_ownLo, r_ownD, r_ownDo, r_appK, r_appJ, r_extK, r_extJ, r_stoK, r_stoI, r_stoJ, r_stoL, r_orT, r_orF, r_andT, r_andF, r_vorK, r_vorT, r_vorF, r_vandK, r_vandT, r_vandF, r_notK, r_truK, r_truB, r_truI, r_truL, r_truT, r_truN, r_isBK, r_rdV, r_rdO, r_dV, r_dO, r_valV, r_valL, r_valD, r_rVv, r_rVo, r_rVb, r_eVv, r_uVv, r_uVo, r_uVb, r_uVlK, r_sqK, r_consK, r_opK, r_opJ, r_chK, r_chJ, r_chT, r_chF, r_clK, r_ntK, r_ngK, r_tpK, r_lsK, r_slK, r_slJ, r_slI, r_slL, r_slT, r_aPK, r_sqL, r_sqT, r_sqS, r_rtR, r_rtN, r_refO, r_refE, r_wdK, r_bAdd, r_bSub, r_bMul, r_bDiv, r_bMod, r_bPow, r_cLt, r_cLe, r_cGt, r_cGe, r_cEq, r_cNe, r_ixL, r_ixT, r_of, r_lenL, r_lenT, r_lenS, Pd.R.bind_ok, Pd.R.bind_err, Pd.R.bind_stuck, noE_ok', mul_r, div_i, mod_i, add_i, sub_i, lt_i, le_i, gt_i, ge_i, eq_i, ne_i, pow18, List.cons_append, List.nil_append, List.getElem?_cons_zero, List.getElem?_cons_succ, List.replicate_succ, List.replicate_zero, List.set_cons_zero, List.set_cons_succ, List.length_cons, List.length_nil, if_true, if_false, Bool.not_true, Bool.not_false, Bool.false_eq_true, ↓reduceIte, Nat.reduceAdd, Nat.reduceLeDiff, Nat.reduceLT, Nat.zero_add, Option.map_some, Int.cast_ofNat_Int, Int.natCast_one, Int.natCast_zero, Int.reduceBEq, Int.reduceLT, Int.reduceLE, Int.reduceAdd, Int.reduceSub, Int.reduceMul, Int.reduceNeg, Int.reduceDiv, Int.reduceMod, decide_true, decide_false, el, hix]) ?_
      exact go_seq (if_no (by simp (implicitDefEqProofs := false) (disch := omega) only [↓r_seq, ↓r_next, ↓r_if, ↓r_eif, ↓r_set, ↓r_ret, ↓r_retV, ↓r_expr, ↓r_asg, ↓r_par, ↓r_app, ↓r_ext, ↓r_sto, ↓r_or1, ↓r_or, ↓r_and1, ↓r_and, ↓r_vor1, ↓r_vor, ↓r_vand1, ↓r_vand, ↓r_not, ↓r_tru, ↓r_isB, ↓r_eC, ↓r_rd, ↓r_vl, ↓r_rV, ↓r_eV, ↓r_uV, ↓r_uVl, ↓r_sq0, ↓r_sq, ↓r_e2, ↓r_e3, ↓r_call, ↓r_user, ↓r_enot, ↓r_eneg, ↓r_tup, ↓r_lst, ↓r_sl, ↓r_noP, ↓r_aP, ↓r_iOf, ↓r_iF, ↓r_def, ↓r_ref, r_seqNx, r_seqRt, r_seqBk, r_seqCt, r_ifT, r_ifF, r_setV, r_setOt, r_setOl, r_setOd, r_setOs, r_retK, r_retVv, r_retVo, r_asgK, r_tgN, r_tgT, r_tgL, r_tgs0, r_tgs, r_parK, r_ownL, r_ownLo, r_ownD, r_ownDo, r_appK, r_appJ, r_extK, r_extJ, r_stoK, r_stoI, r_stoJ, r_stoL, r_orT, r_orF, r_andT, r_andF, r_vorK, r_vorT, r_vorF, r_vandK, r_vandT, r_vandF, r_notK, r_truK, r_truB, r_truI, r_truL, r_truT, r_truN, r_isBK, r_rdV, r_rdO, r_dV, r_dO, r_valV, r_valL, r_valD, r_rVv, r_rVo, r_rVb, r_eVv, r_uVv, r_uVo, r_uVb, r_uVlK, r_sqK, r_consK, r_opK, r_opJ, r_chK, r_chJ, r_chT, r_chF, r_clK, r_ntK, r_ngK, r_tpK, r_lsK, r_slK, r_slJ, r_slI, r_slL, r_slT, r_aPK, r_sqL, r_sqT, r_sqS, r_rtR, r_rtN, r_refO, r_refE, r_wdK, r_bAdd, r_bSub, r_bMul, r_bDiv, r_bMod, r_bPow, r_cLt, r_cLe, r_cGt, r_cGe, r_cEq, r_cNe, r_ixL, r_ixT, r_of, r_lenL, r_lenT, r_lenS, Pd.R.bind_ok, Pd.R.bind_err, Pd.R.bind_stuck, noE_ok', mul_r, div_i, mod_i, add_i, sub_i, lt_i, le_i, gt_i, ge_i, eq_i, ne_i, pow18, List.cons_append, List.nil_append, List.getElem?_cons_zero, List.getElem?_cons_succ, List.replicate_succ, List.replicate_zero, List.set_cons_zero, List.set_cons_succ, List.length_cons, List.length_nil, if_true, if_false, Bool.not_true, Bool.not_false, Bool.false_eq_true, ↓reduceIte, Nat.reduceAdd, Nat.reduceLeDiff, Nat.reduceLT, Nat.zero_add, Option.map_some, Int.cast_ofNat_Int, Int.natCast_one, Int.natCast_zero, Int.reduceBEq, Int.reduceLT, Int.reduceLE, Int.reduceAdd, Int.reduceSub, Int.reduceMul, Int.reduceNeg, Int.reduceDiv, Int.reduceMod, decide_true, decide_false, eo, a0, a1, er2, hne2])) (go_next ⟨_, _, _, _, _, _, _, rfl⟩)
    rintro Γ ⟨s6, s7, s8, s9, s10, s11, s12, rfl⟩
    exact go_next ⟨_, _, _, _, _, _, _, _, _, _, _, _, rfl⟩
  rintro Γ ⟨s1, s2, s3, s4, s5, s6, s7, s8, s9, s10, s11, s12, rfl⟩
  have e1 := shape_v (ab_ring (m := 4) (a := 1) (b := 2) (by omega) (by omega) (by omega) (by omega) (by omega))
  have l1 : shpL 4 1 2 = [(-1, 0), (0, -1), (0, 0), (1, 0)] := by decide +kernel
  rw [l1] at e1
  have q1 : ringD 4 [1, 2] = .tup [.int 4, .tup [.int 1, .int 2]] := rfl
  have q3 : [((-1 : Int), (0 : Int)), (0, -1), (0, 0), (1, 0)].map pairD = [.tup [.int (-1), .int 0], .tup [.int 0, .int (-1)], .tup [.int 0, .int 0], .tup [.int 1, .int 0]] := rfl
  rw [q1, q3] at e1
  have q5 : dEq (.lst [.tup [.int (-1), .int 0], .tup [.int 0, .int (-1)], .tup [.int 0, .int 0], .tup [.int 1, .int 0]]) (.lst [.tup [.int (-1), .int 0], .tup [.int 0, .int (-1)], .tup [.int 0, .int 0], .tup [.int 1, .int 0]]) = some (.v (.bl true)) := eq_same rfl (by decide +kernel)
  simp (implicitDefEqProofs := false) (disch := omega) only [↓r_seq, ↓r_next, ↓r_if, ↓r_eif, ↓r_set, ↓r_ret, ↓r_retV, ↓r_expr, ↓r_asg, ↓r_par, ↓r_app, ↓r_ext, ↓r_sto, ↓r_or1, ↓r_or, ↓r_and1, ↓r_and, ↓r_vor1, ↓r_vor, ↓r_vand1, ↓r_vand, ↓r_not, ↓r_tru, ↓r_isB, ↓r_eC, ↓r_rd, ↓r_vl, ↓r_rV, ↓r_eV, ↓r_uV, ↓r_uVl, ↓r_sq0, ↓r_sq, ↓r_e2, ↓r_e3, ↓r_call, ↓r_user, ↓r_enot, ↓r_eneg, ↓r_tup, ↓r_lst, ↓r_sl, ↓r_noP, ↓r_aP, ↓r_iOf, ↓r_iF, ↓r_def, ↓r_ref, r_seqNx, r_seqRt, r_seqBk, r_seqCt, r_ifT, r_ifF, r_setV, r_setOt, r_setOl, r_setOd, r_setOs, r_retK, r_retVv, r_retVo, r_asgK, r_tgN, r_tgT, r_tgL, r_tgs0, r_tgs, r_parK, r_ownL, r_ownLo, r_ownD, r_ownDo, r_appK, r_appJ, r_extK, r_extJ, r_stoK, r_stoI, r_stoJ, r_stoL, r_orT, r_orF, r_andT, r_andF, r_vorK, r_vorT, r_vorF, r_vandK, r_vandT, r_vandF, r_notK, r_truK, r_truB, r_truI, r_truL, r_truT, r_truN, r_isBK, r_rdV, r_rdO, r_dV, r_dO, r_valV, r_valL, r_valD, r_rVv, r_rVo, r_rVb, r_eVv, r_uVv, r_uVo, r_uVb, r_uVlK, r_sqK, r_consK, r_opK, r_opJ, r_chK, r_chJ, r_chT, r_chF, r_clK, r_ntK, r_ngK, r_tpK, r_lsK, r_slK, r_slJ, r_slI, r_slL, r_slT, r_aPK, r_sqL, r_sqT, r_sqS, r_rtR, r_rtN, r_refO, r_refE, r_wdK, r_bAdd, r_bSub, r_bMul, r_bDiv, r_bMod, r_bPow, r_cLt, r_cLe, r_cGt, r_cGe, r_cEq, r_cNe, r_ixL, r_ixT, r_of, r_lenL, r_lenT, r_lenS, Pd.R.bind_ok, Pd.R.bind_err, Pd.R.bind_stuck, noE_ok', mul_r, div_i, mod_i, add_i, sub_i, lt_i, le_i, gt_i, ge_i, eq_i, ne_i, pow18, List.cons_append, List.nil_append, List.getElem?_cons_zero, List.getElem?_cons_succ, List.replicate_succ, List.replicate_zero, List.set_cons_zero, List.set_cons_succ, List.length_cons, List.length_nil, if_true, if_false, Bool.not_true, Bool.not_false, Bool.false_eq_true, ↓reduceIte, Nat.reduceAdd, Nat.reduceLeDiff, Nat.reduceLT, Nat.zero_add, Option.map_some, Int.cast_ofNat_Int, Int.natCast_one, Int.natCast_zero, Int.reduceBEq, Int.reduceLT, Int.reduceLE, Int.reduceAdd, Int.reduceSub, Int.reduceMul, Int.reduceNeg, Int.reduceDiv, Int.reduceMod, decide_true, decide_false, e1, q5]
end Lk73

open PySem PySem.W PyProof.Rows
set_option maxRecDepth 100000 in
set_option maxHeartbeats 0 in
theorem PySem.Challenge.cw_leaprings_k73_shapes_and_homes_holds : PySem.Challenge.rw_leaprings_k73_shapes_and_homes.Holds := by
  w_on; o_law; k_head; (case hw => w_witness2)
  k_fill
  refine Pd.walk_c (l := PySem.Challenge.rw_leaprings_k73_shapes_and_homes) (n := 63) (x := "_law_script") (cx := fun w => L2.CX PySem.Challenge.pw_leaprings_k73_shapes_and_homes w) [] rfl (by decide) rfl (by decide +kernel) (fun w h Y => by first | exact PySem.W.km_in_of Y | exact PySem.W.kIn_of Y) ?F (fun _ _ _ _ _ h => by obtain ⟨_, _, _, _, _, _, _, _, _, _, _, _, z⟩ := h; exact z)
  case F =>
    intro w mg fa h Y KX G hmg own
    refine' Lk73.all_mk KX G hmg own Lk73.good ?a0 ?l0 ?c0 ?k0 ?a1 ?l1 ?c1 ?k1 ?a2 ?l2 ?c2 ?k2 ?a3 ?l3 ?c3 ?k3 ?a4 ?l4 ?c4 ?k4 ?a5 ?l5 ?c5 ?k5 ?a6 ?l6 ?c6 ?k6 ?a7 ?l7 ?c7 ?k7 ?a8 ?l8 ?c8 ?k8 ?a9 ?l9 ?c9 ?k9 ?a10 ?l10 ?c10 ?k10 ?a11 ?l11 ?c11 ?k11 ?a12 ?l12 ?c12 ?k12 ?a13 ?l13 ?c13 ?k13 ?a14 ?l14 ?c14 ?k14 ?a15 ?l15 ?c15 ?k15 ?a16 ?l16 ?c16 ?k16 ?a17 ?l17 ?c17 ?k17 ?a18 ?l18 ?c18 ?k18 ?a19 ?l19 ?c19 ?k19 ?a20 ?l20 ?c20 ?k20 ?a21 ?l21 ?c21 ?k21 ?a22 ?l22 ?c22 ?k22 ?a23 ?l23 ?c23 ?k23 ?a24 ?l24 ?c24 ?k24 ?a25 ?l25 ?c25 ?k25 ?zb_abs ?zb_all ?zb_bool ?zb_int ?zb_isinstance ?zb_len ?zb_max ?zb_min ?zb_range ?zb_repr ?zb_set ?zb_sorted ?zb_tuple ?zc_MOST_CELL ?zc_MOST_LEAPS ?zc_MOST_PLACES ?xa_NoCell ?xa_NoRing ?xa_NotTwo ?xf_NoCell ?xe_NoCell ?xk_NoCell ?xb_NoCell ?xt_NoCell ?xf_NoRing ?xe_NoRing ?xk_NoRing ?xb_NoRing ?xt_NoRing ?xf_NotTwo ?xe_NotTwo ?xk_NotTwo ?xb_NotTwo ?xt_NotTwo
    (case a0 => k_is)
    (case l0 => k_is)
    (case c0 => k_is)
    (case k0 => k_is)
    (case a1 => k_is)
    (case l1 => k_is)
    (case c1 => k_is)
    (case k1 => k_is)
    (case a2 => k_is)
    (case l2 => k_is)
    (case c2 => k_is)
    (case k2 => k_is)
    (case a3 => k_is)
    (case l3 => k_is)
    (case c3 => k_is)
    (case k3 => k_is)
    (case a4 => k_is)
    (case l4 => k_is)
    (case c4 => k_is)
    (case k4 => k_is)
    (case a5 => k_is)
    (case l5 => k_is)
    (case c5 => k_is)
    (case k5 => k_is)
    (case a6 => k_is)
    (case l6 => k_is)
    (case c6 => k_is)
    (case k6 => k_is)
    (case a7 => k_is)
    (case l7 => k_is)
    (case c7 => k_is)
    (case k7 => k_is)
    (case a8 => k_is)
    (case l8 => k_is)
    (case c8 => k_is)
    (case k8 => k_is)
    (case a9 => k_is)
    (case l9 => k_is)
    (case c9 => k_is)
    (case k9 => k_is)
    (case a10 => k_is)
    (case l10 => k_is)
    (case c10 => k_is)
    (case k10 => k_is)
    (case a11 => k_is)
    (case l11 => k_is)
    (case c11 => k_is)
    (case k11 => k_is)
    (case a12 => k_is)
    (case l12 => k_is)
    (case c12 => k_is)
    (case k12 => k_is)
    (case a13 => k_is)
    (case l13 => k_is)
    (case c13 => k_is)
    (case k13 => k_is)
    (case a14 => k_is)
    (case l14 => k_is)
    (case c14 => k_is)
    (case k14 => k_is)
    (case a15 => k_is)
    (case l15 => k_is)
    (case c15 => k_is)
    (case k15 => k_is)
    (case a16 => k_is)
    (case l16 => k_is)
    (case c16 => k_is)
    (case k16 => k_is)
    (case a17 => k_is)
    (case l17 => k_is)
    (case c17 => k_is)
    (case k17 => k_is)
    (case a18 => k_is)
    (case l18 => k_is)
    (case c18 => k_is)
    (case k18 => k_is)
    (case a19 => k_is)
    (case l19 => k_is)
    (case c19 => k_is)
    (case k19 => k_is)
    (case a20 => k_is)
    (case l20 => k_is)
    (case c20 => k_is)
    (case k20 => k_is)
    (case a21 => k_is)
    (case l21 => k_is)
    (case c21 => k_is)
    (case k21 => k_is)
    (case a22 => k_is)
    (case l22 => k_is)
    (case c22 => k_is)
    (case k22 => k_is)
    (case a23 => k_is)
    (case l23 => k_is)
    (case c23 => k_is)
    (case k23 => k_is)
    (case a24 => k_is)
    (case l24 => k_is)
    (case c24 => k_is)
    (case k24 => k_is)
    (case a25 => k_is)
    (case l25 => k_is)
    (case c25 => k_is)
    (case k25 => k_is)
    (case zb_abs => k_is)
    (case zb_all => k_is)
    (case zb_bool => k_is)
    (case zb_int => k_is)
    (case zb_isinstance => k_is)
    (case zb_len => k_is)
    (case zb_max => k_is)
    (case zb_min => k_is)
    (case zb_range => k_is)
    (case zb_repr => k_is)
    (case zb_set => k_is)
    (case zb_sorted => k_is)
    (case zb_tuple => k_is)
    (case zc_MOST_CELL => k_is)
    (case zc_MOST_LEAPS => k_is)
    (case zc_MOST_PLACES => k_is)
    (case xa_NoCell => k_is)
    (case xa_NoRing => k_is)
    (case xa_NotTwo => k_is)
    (case xf_NoCell => exact PySem.F.excBase_ValueError)
    (case xe_NoCell => k_exc)
    (case xk_NoCell => k_is)
    (case xb_NoCell => k_is)
    (case xt_NoCell => k_is)
    (case xf_NoRing => exact PySem.F.excBase_ValueError)
    (case xe_NoRing => k_exc)
    (case xk_NoRing => k_is)
    (case xb_NoRing => k_is)
    (case xt_NoRing => k_is)
    (case xf_NotTwo => exact PySem.F.excBase_ValueError)
    (case xe_NotTwo => k_exc)
    (case xk_NotTwo => k_is)
    (case xb_NotTwo => k_is)
    (case xt_NotTwo => k_is)

